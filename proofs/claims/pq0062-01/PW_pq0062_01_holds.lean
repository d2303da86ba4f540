import PyProof.Rows.All
import PySem.Str
import Wide.All
import OpenK.AllK
import Wide.FinOn
import Open.Fast
import PyProof.DictUpdate
import KE.KDictOf
import PyProof.ListNew
import PyProof.AttrMissHeap
import KE.KSortAsk
import PyProof.FactsAll.tuple_2
import PyProof.AutoSeq1
import KE.KSortTup
import KE.KDictList
import PyProof.DictItems
import PyProof.SetKind
import PyProof.Rows.SetFrom
import PySem.Challenge.RW_pq0062_01
set_option autoImplicit false
set_option maxRecDepth 100000
set_option maxHeartbeats 0
set_option linter.all false
set_option Elab.async false
set_option genSizeOf false
set_option genInjectivity false
set_option bootstrap.genMatcherCode false
set_option genCtorIdx false
noncomputable section
open Option renaming none->aC,some->ae,map_some->wK,isNone_iff_eq_none->QP,bind_eq_some_iff->wM,map_eq_some_iff->lE,isSome_iff_exists->kJ,bind_some->wW,toList_some->CB,map->jW
open Bool renaming false->aQ,true->aj,false_ne_true->cE,and_eq_true_iff->cb,not_eq_true'->oT,or_eq_true_iff->Nx,eq_iff_iff->V7,not_true->vc,false_eq_true->jN,and_eq_true->cY,and_false->Wj,false_and->Wz,eq_false_iff->yO,or_false->Ot,not_false->WV,or_eq_true->qC,true_and->Xq
open _root_ renaming Nat->ag,List->af,rfl->ac,absurd->aV,Int->aJ,decide_eq_true->eu,beq_eq_false_iff_ne->jG,beq_self_eq_true->gE,Decidable->sF,of_decide_eq_true->cA,Bool->aY,String->aA,Option->aS,Unit->cH,congrArg->bf,False->io,dif_pos->tO,PLift->qR,beq_iff_eq->jp,if_pos->aF,ForInStep->Bt,if_neg->aG,bne_iff_ne->I9,Array->bj,True->iZ,trivial->bp,if_false->iA,decide_eq_true_eq->di,decide_eq_false->t6,if_true->m7,PUnit->rz,or_assoc->DM
open Nat renaming ble->jk,le_of_ble_eq_true->Qw,le_trans->oO,lt_of_lt_of_le->Qx,add_le_add->Qy,add_le_add_left->eD,add_le_add_right->IJ,mul_le_mul_left->IK,mul_le_mul_right->qM,succ_le_succ->jF,ne_of_gt->bZ,ne_of_lt->b8,add_add_add_comm->IL,add_comm->oP,sub_add_cancel->IM,le_add_right->bc,succ_pos->oQ,le_antisymm->gT,le_of_sub_eq_zero->wB,le_add_left->gU,add_assoc->wC,succ_ne_zero->qO,le_of_eq->bJ,add_sub_cancel'->wO,le_refl->aP,succ_min_succ->Q3,not_lt_zero->fM,lt_of_succ_lt_succ->o8,not_lt_of_le->cU,lt_or_ge->gZ,lt_irrefl->bS,le_of_lt->bz,le_add_right_of_le->eY,le_of_lt_succ->b9,zero_le->bR,lt_trans->hF,sub_lt_sub_left->uf,lt_succ_self->de,lt_succ_of_lt->RM,le_of_succ_le->rp,sub_le->kL,zero_add->rq,not_lt->nh,le_succ->pG,sub_lt->pH,one_pos->pI,min_le_left->JQ,le_sub_one_of_lt->ux,mul_two->CP,sub_lt_sub_right->SF,lt_succ_of_le->CQ,lt_add_of_pos_right->JU,succ_add_eq_add_succ->uy,zero_lt_of_lt->JV,lt_of_le_of_ne->nj,le_of_not_lt->xr,le_zero->kO,lt_or_eq_of_le->xt,lt_asymm->CS,lt_trichotomy->rB,lt_or_gt_of_ne->JW,min_le_right->SP,eq_zero_or_pos->S7,pow_succ->rI,pow_le_pow_right->jy,mod_lt->Dj,strongRecOn->Tg,add_right_comm->Dp,not_le_of_lt->rJ,sub_le_of_le_add->TC,pos_of_ne_zero->TF,le_of_succ_le_succ->xM,mul_le_mul->uQ,mul_assoc->DP,le_mul_of_pos_right->xP,le_mul_of_pos_left->pU,le_max_left->DQ,le_max_right->DR,lt_add_right->rU,mul_comm->Ky,one_le_two_pow->Ux,pow_le_pow_left->UM,not_succ_le_zero->US
open List renaming getElem?_concat_length->Qz,length_append->ct,map_append->iw,range->c5,map_map->iz,map_id->Bq,map_congr_left->wH,all_eq_true->eH,contains_iff_mem->Br,filterMap_cons->qS,not_mem_nil->gu,zip_cons_cons->wI,lookup_cons->jI,mem_cons->ci,nodup_cons->eV,mem_cons_self->lD,mem_cons_of_mem->iY,drop->Bu,append_nil->lr,filter_eq_nil_iff->QK,mem_of_mem_take->QL,length_nil->wJ,length_map->be,cons->Nr,isEmpty_iff->wL,cons_ne_nil->yj,getElem?_nil->tS,range_succ_eq_map->Q4,getElem?_eq_getElem->dq,getD_eq_getElem?_getD->Jb,getElem_mem->dR,forIn_cons->o4,append_assoc->mx,mem_iff_getElem?->eX,mem_of_getElem?->cw,getElem?_map->gw,getElem?_inj->o9,getElem?_eq_some_iff->bq,mem_filter->BN,mem_range->jO,nodup_range->Rd,mem_filterMap->Rf,any_eq_false->Wa,getElem?_append_left->pg,mem_append->cR,nodup_append->lK,pairwise_singleton->jQ,getElem?_append_right->Jh,getElem?_set_ne->cj,getElem?_set_self->Rg,length_cons->iD,map_cons->eL,mem_map->bt,length->t4,any_cons->Wb,any_eq_true->GX,map_inj_right->Rq,find?_cons->Rt,of_mem_zip->Jx,mem_singleton->bX,getElem?_eq_none->Ce,mem_append_left->i5,mem_append_right->i6,mem_map_of_mem->RK,lookup_append->RL,toArray->uk,getElem?_eq_none_iff->Cg,length_range->lP,forall_mem_cons->JH,zipIdx_cons->JK,forIn_nil->RW,getElem?_zip_eq_some->JM,length_zip->R0,take_add_one->uq,foldl_append->xm,take_of_length_le->JO,dropLast_eq_take->Oc,foldl_cons->Sj,take_length->CD,nodup_nil->fh,length_take->rx,getElem?_of_mem->Su,range'->xp,range'_succ->xq,getElem?_take_of_lt->Sv,map_take->JR,take_sublist->Sy,length_take_le->Sz,range_eq_range'->SD,pairwise_cons->rC,getElem_inj->SK,pairwise_iff_getElem->SM,drop_of_length_le->SN,drop_eq_getElem_cons->Ow,size_toArray->CZ,Pairwise->Df,pairwise_lt_range->J9,map_filterMap->Ta,getElem?_cons_zero->Th,getElem?_cons_succ->Ti,perm_append_singleton->Tn,perm_middle->To,length_eq_zero_iff->dM,length_eraseIdx_of_lt->TB,append_of_mem->Xl,take_subset->TK,flatMap_cons->eZ,length_filter_le->DJ,filter_cons->Km,mem_flatMap->dg,map_flatMap->Kw,dropLast_concat->XB,length_set->gK,countP_cons->PV,length_singleton->Kz,mem_zipIdx->UB,length_pos_of_mem->UD,filter_append->xS,flatMap_assoc->UK,pairwise_flatMap->KJ,pairwise_map->KL,flatMap_nil->UN
open Decidable renaming decide->bh
open Int renaming ofNat_lt->u5,ofNat_le->xV,not_lt->xW,toNat_lt->NM,lt_of_lt_of_le->Wf,zero_add->NN,le_trans->vk,le_of_lt->vl,lt_trans->yz,eq_ofNat_of_zero_le->Wg,toNat_natCast->vq,natAbs_of_nonneg->WG,lt_of_le_of_lt->WH,max_eq_right->WM,max_eq_left->CC,emod_nonneg->Xa,emod_lt_of_pos->Xb,natCast_nonneg->tq
open Int.ofNat renaming inj->VD
open PySem renaming Str->aM,Addr->ao,Scope->aX,Expr->aK,Env->bD,starEach->iX,eval->bw,relabel->wG,Pos->bu,Comprehension->fY,behindInMarks->Bh,lastMarks->Bj,subscripted->tK,operate->tM,getItem->oS,swappedStores->IU,swapsWith->Bl,Stmt->d6,Value->ak,Program->mV,World->d7,Heap->aO,Obj->cM,FuncData->qP,mainGlobals->fZ,builtinsNs->tN,sysModules->gk,Around->aW,cLine->b6,Shared->aq,wpAny->aw,model->ay,call->cf,Sem->cX,treeTable->jJ,importedModules->tR,Model->gY,Fin->lF,Result->jq,wpAny_pure->aD,wpAny_bind->au,eqIsQuiet->BJ,eqIsQuiet_byValue->BL,wpAny_specialOf->qU,wpAny_isInstance->o7,wpAny_seqItems->jM,DictEntry->bQ,isExactStrKey->Jd,dictEpoch->BM,wpAny_dictEpoch->lH,wpAny_rule->fN,wpAny_holding->cy,wpAny_dictEntries->iB,wpAny_ite->Jf,wpAny_mono->ec,sizeLine->tY,sizeLine_eq->fg,dictGet->wX,dictSetHashed->wY,wpAny_updateDictKeys->BQ,dictSetDefault->Ji,wpAny_sequenceKey->Jj,wpAny_callSpecial?_slot->lM,slot_dict_getitem->Jk,wpAny_call_entry->gx,setItem->wZ,wpAny_notOrdered_dict->qY,compareOp->BV,slot_dict_contains->Jl,wpAny_truthy_bool->w6,getAttr->Ru,setAttr->Rv,wpAny_askSetting->pq,isTrue->gH,standAt->mZ,holding->lN,spliced->w9,backTo->lO,wpAny_items_nil->xc,wpAny_items_cons->Ju,wpAny_isTrue_BoolOp->RB,wpAny_allTrue_And_cons->RC,wpAny_allTrue_Or_cons->RD,wpAny_Constant_int->RE,wpAny_standAt->jr,codeAny->fO,wpAny_call->xd,codeAny_mono->rc,Flow->B4,NameKind->jt,cellsFrom->jT,callEnvC->xf,mem_of_lookup->fQ,pyNext->eE,letOwnedTupleGo->rj,pyIter->i4,assign->pB,unpackItems->ud,wpAny_assign_Name->rk,wpAny_execs_nil->Jz,wpAny_pyIter_list->JA,wpAny_pyNext_list_item->B9,wpAny_pyNext_list_end->JB,wpAny_of_eq->rn,codeAny_of_tree->JC,slot_list_append->JD,ret->ui,wpAny_updateSeq->pE,wpAny_alloc->JG,newList->RN,wpAny_newObj_type->nf,wpAny_field->jU,wpAny_setField->xh,newExc->rt,newTuple->Cj,firstArgMember->Ck,raiseNew->ru,wpAny_handled->Cn,wpAny_throw->Co,IsZip->lQ,IsPair->i7,rawInt->ew,isInstance->ul,isSubtype_stop->Cq,wpAny_attempt->uo,wpAny_setField_rec->gI,wpAny_updateSeq_pair->RX,wpAny_letGo->xi,wpAny_newTuple->Cr,wpAny_pyIter_tuple->RY,strIterType->xj,numAt->jV,entryFor->xn,call_meets->Cu,getMethod_builtin->Cy,argBest->uu,codeAny_builtin->lU,wpAny_typeOf->pJ,plainId_quiet->ni,typeLookup->CH,typeLookup_type->CI,builtinLookup_eq_fast->CJ,unsupported->CN,wpAny_newList->JY,collect->uC,wpAny_ite_split->C8,wpAny_pyIter_slot->JZ,wpAny_typeNameOfWhole_keyiter->C9,wpAny_fieldsOf->uE,wpAny_isOneOf_keyiter->SW,setField->rF,wpAny_typeNameOfWhole_itemiter->Dd,wpAny_isOneOf_itemiter->J1,isSubtype_type->J4,SetTable->cx,layNew->xG,relayAll->uI,storeSet->Dh,setAddHashed->xH,setAddHashedIn->Ke,wpAny_setState_of->kR,hashByValue_scannable->xI,setSearchFrom->Ki,filterMap_getElem?_range->Tq,pickOrder->xK,wpAny_setEntries_of->Kk,setNext->Dx
open Option.some renaming inj->aU,injEq->JF
open PySem.Str renaming ofString->aB,ofString_eq_toList->Rp
open Nat.succ renaming inj->tA
open PySem.W renaming Frag->jm,findIn->iW,plainOver->IT,keepIn->qQ,behindTheImports->Bz,boot_heap->oX,SharedT->wN,boot_drawn->BA,topFrame->oY,staticsOk->BB,namesBound->BC,gensDone->BD,laidKept->BE,instObj->lI,lookIn->w8,emptyDict->pA,kas_rev->CR,kas_sort->uz,kas_ask->CY
open Pure renaming pure->bB
open PySem.NameKind renaming free->jo,cell->xe
open PyProof.Rows renaming IntsAre->Bp,lt_int->Rl,subscriptTail->BW,tail_any->t5,slot_tuple_getitem->Rm,get?_update_seq->qZ,Subscript_->Jv,Call_->q9,MethodCall_->Jw,bubble->rA,seqObj->ed
open Classical renaming em->yf,byContradiction->GK
open Inhabited renaming default->yg
open String renaming ofList->QF
open Char renaming ofNat->GL,toNat->M9
open ForIn renaming forIn->nN
open PySem.Heap renaming get?_push_size->cT,lt_size->cB,size_push->eW,get?_push_of_some->bW,SameBut->dH,get?_update_self->gG,ExtBut->ub
open PySem.Value renaming ref->oU,none->fR,type->kM,int->Cw
open LawfulBEq renaming eq_of_beq->gX
open List.cons renaming inj->fk
open Eq renaming symm->km
open PySem.Challenge renaming rw_pq0062_01->gF
open Prod.mk renaming injEq->QU,inj->wV
open PySem.Heap.SameBut renaming update->dF,refl->xC
open PySem.Obj renaming data->BI,mapSeq->cK,putName->Jp,isFreed_of_fields->RU,data_mapFields->Ci,cls_mapFields->RV,cls->C0
open Array renaming getElem?_toList->dS,getElem?_eq_getElem->jK,length_toList->jL,toList_push->o5,forIn_toList->Jc,getElem?_eq_some_iff->tV,mem_of_getElem?->yo,any_toList->Jg,toList_append->NH,toList_modify->NI,mem_toList_iff->sT,toList_setIfInBounds->Wh,toList->Wi,size_push->Hf,getElem?_eq_none->EW,toList_inj->WI,eraseIdxIfInBounds->Zg,toList_eraseIdx->WJ,getElem_toList->WK,getD->JT,perm_iff_toList_perm->WS,getD_eq_getD_getElem?->Vn,size_map->O5
open PySem.SeqAt.EqAt renaming int_tuple->Q5,str_tuple->Q6
open PySem.Around renaming in1_units->oZ,under_plainId->rv
open PySem.Builtin.Tuple renaming tupleHashOf->Q7
open PUnit renaming unit->lG
open ForInStep renaming yield->ir
open PySem.F renaming slot_tuple_hash->Q8,slot_tuple_add->Rh,entry_tuple_add->Ri,args_tuple_add_2->Rj,slot_tuple_iterator_next->RT,slot_list_extend->Sb,slot_list_index->Se,slot_dict_setdefault->Sf,plainAttrs_dict->Si,slot_list_getattribute->JP,kt_called_dict->CK,kt_typeCall_dict_1->Sl,entry_dict_init->So,args_dict_init_2->Sp,slot_dict_iter->JS,entry_extend_loop->SR,plain_extend_loop->rE,slot_dict_keyiterator_next->xA,entry_dict_keyiterator_next->SU,args_dict_keyiterator_next_1->SV,slot_dict_itemiterator_next->xE,entry_dict_itemiterator_next->SY,args_dict_itemiterator_next_1->S0,slot_dict_items_iter->S4,called_list->S5,slot_dict_items->S6,slot_set_iter->TH
open PySem.PyData renaming keyHash->wR
open PySem.Heap.IsSliceOf renaming new->Ro
open PySem.Txt renaming slice->Jn,isspace->Sh
open PySem.W.Looks renaming of_pure->B1
open PySem.Code renaming builtin->B3,quiet_builtin->Sk
open Iff renaming rfl->yH
open List.Pairwise renaming nil->Wu
open PySem.Builtin.SmallTypes renaming nextOf->RS,ownedTupleIsFree->pc,ownedTupleHandOut->re
open MonadExcept renaming throw->um
open PySem.IsRange renaming new->Sa
open PySem.Builtin.Dict renaming keyAndDefault->Sg,selfAndRest->Sr,updateFrom->CL,entriesForEmpty->Ss,mergeDict->Sw,showsAll->CO
open PySem.Value.ref renaming inj->Cz
open PySem.Builtin renaming «dict.__init__»->Sq,«set.__init__»->Tw,«frozenset.__iter__»->Tz,«set_iterator.__next__»->Dq
open Std.Legacy.Range renaming forIn_eq_forIn_range'->wf,size->wn
open Ne renaming symm->dK
open PySem.Builtin.List renaming listLengthHint->uD,listExtendWith->C4,listSameRef->C5
open PySem.Builtin.Dict_items renaming ownsTuple->xB,ownedTupleIsFree->J0,pairFromOwner->xz,dictOf->xL,newIterator->zn
open PySem.Shared renaming TypeIs->SX
open PySem.SetTable renaming below->fy,fits->J5,fill->De,slot->S8,insertAt->uH,toList_insertAt->J7,standIn->S9,laid->Dg,layClean->Ka,Probe->Kb,advance->Tc,grown->uJ,bits->ck,runEnd->xJ,turns->Tj,tooFull->Tt
open List.Perm renaming swap->OQ,trans->Xh,of_eq->Xi,refl->Xk
open PySem.SetTable.probe renaming go->xF
open PySem.SetTable.layClean renaming free->Dk
open PyProof.Rows.F renaming entry_set_update_loop->Tu,plain_set_update_loop->Kj
open PySem.Builtin.Frozenset renaming newClass->Ch,updateFrom->Da,slot0->Db
open PySem.pickOrder renaming go->TA
open Function renaming comp_def->tj
namespace Mine.Internal
section
open PySem (Str)
universe u v
@[elab_as_elim]theorem az{α:Sort u}{p:α->Prop}{a b:α}(h:b=a)(k:p a):p b:=h▸k
@[elab_as_elim]theorem dm{α:Sort u}{p:α->Prop}{a b:α}(h:a=b)(k:p a):p b:=h▸k
section
universe w x
variable{α:Sort u}{β:Sort v}{γ:Sort w}{δ:Sort x}{p:Prop}
theorem fB{a b:Prop}(h:a/\b)(f:a->b->p):p:=f h.1 h.2
theorem qg{a b c:Prop}(h:a/\b/\c)(f:a->b->c->p):p:=f h.1 h.2.1 h.2.2
theorem X5{a b c d:Prop}(h:a/\b/\c/\d)(f:a->b->c->d->p):p:=f h.1 h.2.1 h.2.2.1 h.2.2.2
theorem Ys{a b c d e:Prop}(h:a/\b/\c/\d/\e)(f:a->b->c->d->e->p):p:=f h.1 h.2.1 h.2.2.1 h.2.2.2.1 h.2.2.2.2
theorem E06{a b c d e f:Prop}(h:a/\b/\c/\d/\e/\f)(f:a->b->c->d->e->f->p):p:=f h.1 h.2.1 h.2.2.1 h.2.2.2.1 h.2.2.2.2.1 h.2.2.2.2.2
theorem eh{a:α->Prop}(h:∃x,a x)(f:∀x,a x->p):p:=h.elim λx h=>f x h
theorem bH{a b:α->Prop}(h:∃x,a x/\b x)(f:∀x,a x->b x->p):p:=h.elim λx h=>f x h.1 h.2
theorem jj{a b c:α->Prop}(h:∃x,a x/\b x/\c x)(f:∀x,a x->b x->c x->p):p:=h.elim λx h=>f x h.1 h.2.1 h.2.2
theorem xU{a b c d:α->Prop}(h:∃x,a x/\b x/\c x/\d x)(f:∀x,a x->b x->c x->d x->p):p:=h.elim λx h=>f x h.1 h.2.1 h.2.2.1 h.2.2.2
theorem E15{a b c d e:α->Prop}(h:∃x,a x/\b x/\c x/\d x/\e x)(f:∀x,a x->b x->c x->d x->e x->p):p:=h.elim λx h=>f x h.1 h.2.1 h.2.2.1 h.2.2.2.1 h.2.2.2.2
theorem an{a b c d e f:α->Prop}(h:∃x,a x/\b x/\c x/\d x/\e x/\f x)(f:∀x,a x->b x->c x->d x->e x->f x->p):p:=h.elim λx h=>f x h.1 h.2.1 h.2.2.1 h.2.2.2.1 h.2.2.2.2.1 h.2.2.2.2.2
theorem sE{a:α->β->Prop}(h:∃x y,a x y)(f:∀x y,a x y->p):p:=h.elim λx h=>h.elim λy h=>f x y h
theorem lC{a b:α->β->Prop}(h:∃x y,a x y/\b x y)(f:∀x y,a x y->b x y->p):p:=h.elim λx h=>h.elim λy h=>f x y h.1 h.2
theorem kS{a b c:α->β->Prop}(h:∃x y,a x y/\b x y/\c x y)(f:∀x y,a x y->b x y->c x y->p):p:=h.elim λx h=>h.elim λy h=>f x y h.1 h.2.1 h.2.2
theorem Ed{a b c d:α->β->Prop}(h:∃x y,a x y/\b x y/\c x y/\d x y)(f:∀x y,a x y->b x y->c x y->d x y->p):p:=h.elim λx h=>h.elim λy h=>f x y h.1 h.2.1 h.2.2.1 h.2.2.2
theorem bm{a b c d e:α->β->Prop}(h:∃x y,a x y/\b x y/\c x y/\d x y/\e x y)(f:∀x y,a x y->b x y->c x y->d x y->e x y->p):p:=h.elim λx h=>h.elim λy h=>f x y h.1 h.2.1 h.2.2.1 h.2.2.2.1 h.2.2.2.2
theorem E32{a b:α->β->γ->Prop}(h:∃x y z,a x y z/\b x y z)(f:∀x y z,a x y z->b x y z->p):p:=h.elim λx h=>h.elim λy h=>h.elim λz h=>f x y z h.1 h.2
theorem Qk{a b c:α->β->γ->Prop}(h:∃x y z,a x y z/\b x y z/\c x y z)(f:∀x y z,a x y z->b x y z->c x y z->p):p:=h.elim λx h=>h.elim λy h=>h.elim λz h=>f x y z h.1 h.2.1 h.2.2
theorem VC{a b c d:α->β->γ->Prop}(h:∃x y z,a x y z/\b x y z/\c x y z/\d x y z)(f:∀x y z,a x y z->b x y z->c x y z->d x y z->p):p:=h.elim λx h=>h.elim λy h=>h.elim λz h=>f x y z h.1 h.2.1 h.2.2.1 h.2.2.2
theorem Yu{a b c d e:α->β->γ->Prop}(h:∃x y z,a x y z/\b x y z/\c x y z/\d x y z/\e x y z)(f:∀x y z,a x y z->b x y z->c x y z->d x y z->e x y z->p):p:=h.elim λx h=>h.elim λy h=>h.elim λz h=>f x y z h.1 h.2.1 h.2.2.1 h.2.2.2.1 h.2.2.2.2
theorem bn{a b:α->β->γ->δ->Prop}(h:∃x y z u,a x y z u/\b x y z u)(f:∀x y z u,a x y z u->b x y z u->p):p:=h.elim λx h=>h.elim λy h=>h.elim λz h=>h.elim λu h=>f x y z u h.1 h.2
theorem KB{a b c d:α->β->γ->δ->Prop}(h:∃x y z u,a x y z u/\b x y z u/\c x y z u/\d x y z u)(f:∀x y z u,a x y z u->b x y z u->c x y z u->d x y z u->p):p:=h.elim λx h=>h.elim λy h=>h.elim λz h=>h.elim λu h=>f x y z u h.1 h.2.1 h.2.2.1 h.2.2.2
theorem KF{a b c d e f:α->β->γ->δ->Prop}(h:∃x y z u,a x y z u/\b x y z u/\c x y z u/\d x y z u/\e x y z u/\f x y z u)(f:∀x y z u,a x y z u->b x y z u->c x y z u->d x y z u->e x y z u->f x y z u->p):p:=h.elim λx h=>h.elim λy h=>h.elim λz h=>h.elim λu h=>f x y z u h.1 h.2.1 h.2.2.1 h.2.2.2.1 h.2.2.2.2.1 h.2.2.2.2.2
theorem eP{α:Type u}{a:α}(e:aC=ae a):p:=nomatch e
theorem ff(e:aQ=aj):p:=(cE e).elim
end
section
variable{a b c d k n t:ag}
theorem lB(h:jk a b=aj):a<=b:=Qw h
theorem lT(h:a<=b)(k:b<=c):a<=c:=oO h k
theorem lR(h:a<b)(k:b<=c):a<c:=Qx h k
theorem rL(h:a<=b)(k:b<c):a<c:=Nat.lt_of_le_of_lt h k
theorem aE(h:a<=b)(k:c<=d):a+c<=b+d:=Qy h k
theorem bL(h:a<=b):c+a<=c+b:=eD h c
theorem aR(h:a<=b):a+c<=b+c:=IJ h c
theorem mL(h:a<=b):c*a<=c*b:=IK c h
theorem mR(h:a<=b):a*c<=b*c:=qM c h
theorem tB(h:a<=b)(k:jk b c=aj):a<=c:=oO h (lB k)
theorem tL(h:a<=b)(k:jk (b+1) c=aj):a<c:=oO (jF h) (lB k)
theorem bT(h:b<=c)(k:jk a b=aj):a<=c:=oO (lB k) h
theorem nE(h:b<=a)(k:jk (c+1) b=aj):a≠c:=bZ (bT h k)
theorem nO(h:a<b\/c<=a)(i:jk b k=aj)(j:jk (k+1) c=aj):a≠k:=h.elim (λh=>b8 (tB h i)) λh=>nE h j
theorem fL(h:a+t<=n+b)(k:jk (c+b) (a+d)=aj):c+t<=n+d:=by refine Nat.le_of_add_le_add_right (b:=b+a) ?_;rw[IL c,IL n,oP (n+b),oP d,oP t];exact Qy (lB k) h
theorem fK(h:a<=n+b)(k:jk (c+b) (a+d)=aj):c<=n+d:=fL (t:=0) h k
end
theorem A7{n a b c:ag}(h:b+c<=n)(k:jk a b=aj):n=n-a+a:=(IM (oO (oO (Qw k) (bc _ _)) h)).symm
theorem zB{n i k:ag}(h:n-i=k+1):i<n:=Nat.lt_of_sub_pos (h▸oQ k)
theorem wA{n i k:ag}(h:n-i=k+1):n-(i+1)=k:=by rw[Nat.sub_add_eq,h];rfl
theorem KK{n i:ag}(h:n-i=0)(k:i<=n):i=n:=gT k (wB h)
theorem A8{α:Type}{l:af α}(h:l.length=2):∃a b,l=[a,b]:=by
 cases l with
 |nil=>cases h
 |cons a l=>
  cases l with
  |nil=>cases h
  |cons b l=>
   cases l with
   |nil=>exact⟨a,b,ac⟩
   |cons _ _=>cases h
theorem Eh{α:Type}{l:af α}(h:l.length<=2):l=[]\/(∃a,l=[a])\/∃a b,l=[a,b]:=by
 cases l with
 |nil=>exact .inl ac
 |cons a l=>
  cases l with
  |nil=>exact .inr (.inl ⟨a,ac⟩)
  |cons b l=>
   cases l with
   |nil=>exact .inr (.inr ⟨a,b,ac⟩)
   |cons _ _=>exact aV h (Nat.not_le_of_gt (gU 3 _))
section
variable{α β:Type v}{l:af α}{r:af β}{x:α}{y:β}{a b n k:ag}
theorem nK:(l++[x])[l.length]?=ae x:=Qz
theorem bv(h:l.length=n):(l++[x])[n]?=ae x:=h▸nK
theorem lS(h:l.length=n):(l++[x]).length=n+1:=ct.trans (h▸ac)
theorem shL(h:l.length+(y::r).length<=k):(l++[x]).length+r.length<=k:=by rw[ct,wC,oP _ r.length];exact h
theorem shE:(l++[x]).length+r.length=l.length+(y::r).length:=by rw[ct,wC,oP _ r.length];rfl
theorem dI(h:a<b):bh ((a:aJ)<(b:aJ))=aj:=eu (u5.mpr h)
theorem dJ(h:a<=b):bh ((a:aJ)<=(b:aJ))=aj:=eu (xV.mpr h)
theorem nI(h:b<=a):¬(a:aJ)<(b:aJ):=xW.mpr (xV.mpr h)
theorem nJ(h:b<a):¬(a:aJ)<=(b:aJ):=Int.not_le.mpr (u5.mpr h)
theorem bN(h:a≠b):(!((a:aJ)==(b:aJ)))=aj:=by rw[jG.mpr λq:(a:aJ)=(b:aJ)=>h (VD q)];rfl
theorem bE(h:a=b):¬(!((a:aJ)==(b:aJ)))=aj:=by rw[h,gE];nofun
theorem nD{p:Prop} [sF p] (h:¬p):¬bh p=aj:=λq=>h (cA q)
theorem bA{p q:aY}(h:p=aj)(k:q=aj):(p&&q)=aj:=cb.mpr ⟨h,k⟩
theorem VE{f:α->β}:l.map f++[f x]=(l++[x]).map f:=(iw (l₁:=l) (l₂:=[x])).symm
end
theorem fu{a b n:ag}(h:jk a b=aj):a<=n+b:=lT (lB h) (gU b n)
theorem fs{n a b:ag}(h:b<=n)(k:jk a b=aj):n=n-a+a:=(IM (lT (lB k) h)).symm
set_option genInjectivity true
set_option genCtorIdx true in
inductive V where
 |none
 |bool(b:aY)
 |int(i:aJ)
 |str(s:aM)
 |tup(vs:af V)
 |ref(a:ag)
set_option genCtorIdx true in
inductive O where
 |list(vs:af V)
 |dict(es:af (V×V))
 |inst(c:aA)(d:ag)
 |ns(es:af (aA×V))
 |iU
set_option genInjectivity false
noncomputable def O.kind:O->ag
 |.list _=>0
 |.dict _=>1
 |.inst _ _=>2
 |.ns _=>3
 |.iU=>4
mutual
noncomputable def V.beq:V->V->aY
 |.none,w=>match w with
  |.none=>aj
  |_=>aQ
 |.bool a,w=>match w with
  |.bool b=>a==b
  |_=>aQ
 |.int a,w=>match w with
  |.int b=>a==b
  |_=>aQ
 |.str a,w=>match w with
  |.str b=>a==b
  |_=>aQ
 |.tup a,w=>match w with
  |.tup b=>V.oR a b
  |_=>aQ
 |.ref a,w=>match w with
  |.ref b=>a==b
  |_=>aQ
noncomputable def V.oR:af V->af V->aY
 |[],w=>w.isEmpty
 |a::as,w=>match w with
  |b::bs=>V.beq a b&&V.oR as bs
  |[]=>aQ
end
mutual
noncomputable def V.fq:ag->V->aY
 |n,v=>match v with
  |.int _=>aj
  |.str _=>aj
  |.tup vs=>(match n with
   |0=>aQ
   |n+1=>V.ej n vs)
  |_=>aQ
noncomputable def V.ej:ag->af V->aY
 |_,[]=>aj
 |n,v::vs=>V.fq n v&&V.ej n vs
end
noncomputable def V.pure(v:V):aY:=V.fq 8 v
noncomputable def V.eI(vs:af V):aY:=V.ej 8 vs
noncomputable def ltCps:af ag->af ag->aY
 |[],w=>!w.isEmpty
 |a::r,w=>match w with
  |b::t=>bh (a<b)||(a==b&&ltCps r t)
  |[]=>aQ
noncomputable def V.rank:V->ag
 |.int _=>0
 |.str _=>1
 |.tup _=>2
 |_=>3
mutual
noncomputable def V.low:V->V->aY
 |.int a,w=>match w with
  |.int b=>bh (a<b)
  |_=>aQ
 |.str a,w=>match w with
  |.str b=>ltCps a.cps.toList b.cps.toList
  |_=>aQ
 |.tup a,w=>match w with
  |.tup b=>V.Ql a b
  |_=>aQ
 |_,_=>aQ
noncomputable def V.Ql:af V->af V->aY
 |[],w=>!w.isEmpty
 |a::as,w=>match w with
  |b::bs=>if V.beq a b then V.Ql as bs else bh (V.rank a<V.rank b)||V.low a b
  |[]=>aQ
end
noncomputable def V.lt(a b:V):aY:=bh (V.rank a<V.rank b)||V.low a b
mutual
noncomputable def V.fV:V->V->aY
 |.int _,w=>match w with
  |.int _=>aj
  |_=>aQ
 |.str _,w=>match w with
  |.str _=>aj
  |_=>aQ
 |.tup a,w=>match w with
  |.tup b=>V.jf a b
  |_=>aQ
 |_,_=>aQ
noncomputable def V.jf:af V->af V->aY
 |a::as,w=>match w with
  |b::bs=>if V.beq a b then V.jf as bs else V.fV a b
  |[]=>aj
 |[],_=>aj
end
noncomputable def ins(x:V):af V->af V
 |[]=>[x]
 |y::ys=>if V.lt x y then x::y::ys else y::ins x ys
noncomputable def dh:af V->af V
 |[]=>[]
 |x::xs=>ins x (dh xs)
noncomputable def has(x:V)(vs:af V):aY:=vs.any (V.beq x)
noncomputable def cF:af V->af V
 |[]=>[]
 |x::xs=>x::(cF xs).filter λy=>!V.beq x y
noncomputable def once:af V->aY
 |[]=>aj
 |x::xs=>!has x xs&&once xs
noncomputable def V.full:V->aY
 |.tup []=>aQ
 |_=>aj
noncomputable def cZ(vs:af V):aY:=V.eI vs&&bh (vs.length<64)&&(vs.all λa=>vs.all λb=>V.fV a b)&&(once vs||decide (vs.length<=2))&&(bh (vs.length<2)||vs.all V.full)
noncomputable def V.word:V->aY
 |.str _=>aj
 |_=>aQ
noncomputable def V.flat:V->aY
 |.int _=>aj
 |.str _=>aj
 |_=>aQ
noncomputable def sG:V->aY
 |.tup _=>aj
 |_=>aQ
noncomputable def VF:V->aY
 |.int _=>aj
 |_=>aQ
noncomputable def setOk(vs:af V):aY:=V.eI vs&&(vs.all VF||vs.all V.word||(vs.all sG&&bh ((cF vs.dropLast).length<=4)))
noncomputable def indexOf(x:V):af V->aS ag
 |[]=>aC
 |y::ys=>if V.beq y x then ae 0 else(indexOf x ys).map (·+1)
noncomputable def bI(k:V):af (V×V)->aS V
 |[]=>aC
 |(a,b)::r=>if V.beq a k then ae b else bI k r
noncomputable def du(k v:V):af (V×V)->af (V×V)
 |[]=>[(k,v)]
 |(a,b)::r=>if V.beq a k then(a,v)::r else(a,b)::du k v r
noncomputable def lm(k:V):af (V×V)->af (V×V)
 |[]=>[]
 |(a,b)::r=>if V.beq a k then r else(a,b)::lm k r
noncomputable def rX(x:aA):af (aA×V)->aS V
 |[]=>aC
 |(a,b)::r=>if a==x then ae b else rX x r
noncomputable def u6(x:aA)(v:V):af (aA×V)->af (aA×V)
 |[]=>[(x,v)]
 |(a,b)::r=>if a==x then(a,v)::r else(a,b)::u6 x v r
theorem nV{k a b:V}{r:af (V×V)}:bI k ((a,b)::r)=if V.beq a k then ae b else bI k r:=ac
theorem kj{k v a b:V}{r:af (V×V)}:du k v ((a,b)::r)=if V.beq a k then(a,v)::r else(a,b)::du k v r:=ac
theorem qN{k a b:V}{r:af (V×V)}:lm k ((a,b)::r)=if V.beq a k then r else(a,b)::lm k r:=ac
theorem Af{x a:aA}{b:V}{r:af (aA×V)}:rX x ((a,b)::r)=if a==x then ae b else rX x r:=ac
theorem Ag{x a:aA}{v b:V}{r:af (aA×V)}:u6 x v ((a,b)::r)=if a==x then(a,v)::r else(a,b)::u6 x v r:=ac
theorem Ei{x y:V}{ys:af V}:ins x (y::ys)=if V.lt x y then x::y::ys else y::ins x ys:=ac
theorem A9{x y:V}{ys:af V}:indexOf x (y::ys)=if V.beq y x then ae 0 else(indexOf x ys).map (·+1):=ac
inductive Op where|add|sub|mul|mod (u:cH)
inductive GD where|eq|ne|lt|le|gt|isin|mP|X6 (u:cH)
mutual
inductive PE where
 |none
 |bool(b:aY)
 |int(i:aJ)
 |str(s:aA)
 |var(x:aA)
 |tup(es:af PE)
 |list(es:af PE)
 |kT
 |r8(a b c d:PE)
 |bin(op:Op)(a b:PE)
 |neg(a:PE)
 |cmp(op:GD)(a b:PE)
 |xX(a:PE)(op:GD)(b:PE)(MZ:GD)(c:PE)
 |and(a b:PE)
 |or(a b:PE)
 |not(a:PE)
 |ite(t a b:PE)
 |idx(e i:PE)
 |gB(e:PE)
 |gV(e hi:PE)
 |attr(e:PE)(x:aA)
 |call(f:aA)(args:af PE)
 |new(c:aA)(args:af PE)
 |cu(e:PE)(m:aA)(args:af PE)
 |bi(f:aA)(arg:PE)
 |comp(elt:PE)(gens:af Gen)
inductive Gen where
 |mk(fe:af aA)(src:Src)(ifs:af PE)
inductive Src where
 |seq(e:PE)
 |range(e:PE)
 |nW(e:PE)
 |zip(a b:PE)
end
inductive PT where
 |name(x:aA)
 |names(xs:af aA)
 |attr(e:PE)(x:aA)
 |idx(e i:PE)
inductive PS where
 |assign(t:PT)(e:PE)
 |expr(e:PE)
 |ret(e:PE)
 |iff(t:PE)(a b:af PS)
 |loop(fe:af aA)(src:Src)(body:af PS)
 |while(t:PE)(body:af PS)
 |fail
inductive Flow where
 |next
 |ret(v:V)
structure PF where
 params:af aA
 body:af PS
noncomputable abbrev Env:=aA->aS V
noncomputable def Env.upd(m:Env)(x:aA)(v:V):Env:=λy=>if y==x then ae v else m y
noncomputable def Env.drop(m:Env)(xs:af aA):Env:=λy=>if xs.contains y then aC else m y
noncomputable def Env.empty:Env:=λ_=>aC
noncomputable def Env.bind(m:Env):af aA->af V->Env
 |x::xs,v::vs=>(m.upd x v).bind xs vs
 |_,_=>m
noncomputable abbrev P(α:Type):=af O->aS (α×af O)
noncomputable def ret{α:Type}(a:α):P α:=λst=>ae (a,st)
noncomputable def fail{α:Type}:P α:=λ_=>aC
noncomputable def cI{α β:Type}(x:P α)(f:α->P β):P β:=λst=>match x st with
 |some (a,st')=>f a st'
 |none=>aC
noncomputable def bP{α β:Type}(o:aS α)(f:α->P β):P β:=match o with
 |some a=>f a
 |none=>fail
noncomputable def alloc(o:O):P V:=λst=>ae (.ref st.length,st++[o])
noncomputable def newList(vs:af V):P V:=if vs.length<=16777216 then alloc (.list vs) else fail
noncomputable def load(a:ag):P O:=λst=>match st[a]? with
 |some o=>ae (o,st)
 |none=>aC
noncomputable def store(a:ag)(o:O):P cH:=λst=>if a<st.length/\a≠0 then ae ((),st.set a o) else aC
noncomputable def p6(ev:PE->P V):af PE->P (af V)
 |[]=>ret []
 |e::es=>cI (ev e) λv=>cI (p6 ev es) λvs=>ret (v::vs)
noncomputable def ml:V->P aY
 |.bool b=>ret b
 |_=>fail
noncomputable def fits(i:aJ):aY:=bh (-1152921504606846976<i)&&bh (i<1152921504606846976)
noncomputable def kU:V->aS aJ
 |.int i=>ae i
 |_=>aC
noncomputable def tx:V->aS aM
 |.str z=>ae z
 |_=>aC
noncomputable def mQ:V->aS (af V)
 |.tup vs=>ae vs
 |_=>aC
noncomputable def kW:V->aS ag
 |.ref a=>ae a
 |_=>aC
noncomputable def Ba:O->aS (af V)
 |.list vs=>ae vs
 |_=>aC
noncomputable def xY:O->aS (af (V×V))
 |.dict es=>ae es
 |_=>aC
noncomputable def vG{α:Type}(a:ag)(f:af V->P α):P α:=cI (load a) λo=>bP (Ba o) f
noncomputable def M0{α:Type}(a:ag)(f:af (V×V)->P α):P α:=cI (load a) λo=>bP (xY o) f
noncomputable def IP{α:Type}(v:V)(f:aJ->P α)(g:P α):P α:=match v with
 |.int x=>f x
 |_=>g
noncomputable def qh{α:Type}(v:V)(f:af V->P α)(g:P α):P α:=match v with
 |.tup vs=>f vs
 |_=>g
noncomputable def tz{α:Type}(v:V)(f:aM->P α)(g:P α):P α:=match v with
 |.str x=>f x
 |_=>g
noncomputable def u7{α:Type}(v:V)(f g:P α):P α:=match v with
 |.none=>f
 |_=>g
theorem xZ{α:Type}{v:V}{f:aJ->P α}{g:P α}{st:af O}{r:α×af O}{C:Prop}(e:IP v f g st=ae r)(k1:∀x,v=.int x->f x st=ae r->C)(k2:g st=ae r->C):C:=
 V.casesOn (motive_1:=λu=>v=u->IP u f g st=ae r->C) v (λ_=>k2) (λ_ _=>k2) (λx h=>k1 x h) (λ_ _=>k2) (λ_ _=>k2) (λ_ _=>k2) ac e
theorem Ej{α:Type}{v:V}{f:af V->P α}{g:P α}{st:af O}{r:α×af O}{C:Prop}(e:qh v f g st=ae r)(k1:∀x,v=.tup x->f x st=ae r->C)(k2:g st=ae r->C):C:=
 V.casesOn (motive_1:=λu=>v=u->qh u f g st=ae r->C) v (λ_=>k2) (λ_ _=>k2) (λ_ _=>k2) (λ_ _=>k2) (λx h=>k1 x h) (λ_ _=>k2) ac e
theorem x5{α:Type}{v:V}{f:aM->P α}{g:P α}{st:af O}{r:α×af O}{C:Prop}(e:tz v f g st=ae r)(k1:∀x,v=.str x->f x st=ae r->C)(k2:g st=ae r->C):C:=
 V.casesOn (motive_1:=λu=>v=u->tz u f g st=ae r->C) v (λ_=>k2) (λ_ _=>k2) (λ_ _=>k2) (λx h=>k1 x h) (λ_ _=>k2) (λ_ _=>k2) ac e
theorem Ah{α:Type}{v:V}{f g:P α}{st:af O}{r:α×af O}{C:Prop}(e:u7 v f g st=ae r)(k1:v=.none->f st=ae r->C)(k2:g st=ae r->C):C:=
 V.casesOn (motive_1:=λu=>v=u->u7 u f g st=ae r->C) v (λh=>k1 h) (λ_ _=>k2) (λ_ _=>k2) (λ_ _=>k2) (λ_ _=>k2) (λ_ _=>k2) ac e
noncomputable def M1{α:Type}(o:O)(f:af V->P α)(g:P α):P α:=match o with
 |.list vs=>f vs
 |_=>g
noncomputable def nY{α:Type}(a:ag)(f:af V->P α)(g:af (V×V)->P α):P α:=cI (load a) λo=>M1 o f (bP (xY o) g)
noncomputable def Bb(a b:V)(f:aJ->aJ->P V):P V:=bP (kU a) λx=>bP (kU b) λy=>f x y
noncomputable def IQ(a b:V)(f:af V->af V->P V):P V:=bP (kW a) λx=>bP (kW b) λy=>vG x λxs=>vG y λys=>f xs ys
noncomputable def r9(op:Op)(a b:V):P V:=match op with
 |.add=>IP a (λ_=>Bb a b λx y=>if fits x&&fits y then ret (.int (x+y)) else fail)
  (tz a (λx=>bP (tx b) λy=>if x.length+y.length<=1000 then ret (.str (x++y)) else fail)
  (qh a (λx=>bP (mQ b) λy=>if x.length+y.length<=16777216 then ret (.tup (x++y)) else fail)
  (IQ a b λxs ys=>newList (xs++ys))))
 |.sub=>Bb a b λx y=>if fits x&&fits y then ret (.int (x-y)) else fail
 |.mul=>Bb a b λx y=>if fits x&&fits y then ret (.int (x*y)) else fail
 |.mod _=>Bb a b λx y=>if bh (0<y)&&fits y then ret (.int (x%y)) else fail
noncomputable def yes(r b:aY):P V:=match r with
 |true=>ret (.bool b)
 |false=>ret (.bool (!b))
noncomputable def QA(r:aY)(a b:V):P V:=IP a (λ_=>Bb a b λx y=>yes r (x==y)) (tz a (λx=>bP (tx b) λy=>yes r (x==y))
 (IQ a b λxs ys=>if V.eI xs&&V.eI ys then yes r (V.oR xs ys) else fail))
noncomputable def mo(op:GD)(a b:V):P V:=match op with
 |.eq=>QA aj a b
 |.ne=>QA aQ a b
 |.lt=>Bb a b λx y=>ret (.bool (bh (x<y)))
 |.le=>Bb a b λx y=>ret (.bool (bh (x<=y)))
 |.gt=>Bb a b λx y=>ret (.bool (bh (y<x)))
 |.mP=>qh b (λys=>if V.pure a&&V.eI ys then ret (.bool (!has a ys)) else fail) (bP (kW b) λy=>vG y λys=>if V.pure a&&V.eI ys then ret (.bool (!has a ys)) else fail)
 |.isin=>tz b (λy=>bP (tx a) λx=>if x.length=1 then ret (.bool (y.cps.toList.any λc=>[c]==x.cps.toList)) else fail) (bP (kW b) λy=>M0 y λes=>if V.pure a then ret (.bool (bI a es).isSome) else fail)
 |.X6 _=>u7 b (u7 a (ret (.bool aj)) (bP (mQ a) λ_=>ret (.bool aQ))) fail
noncomputable def place(i:aJ)(n:ag):aS ag:=
 if fits i then
  if bh (0<=i)&&bh (i<n) then ae i.toNat
  else if bh (i<0)&&bh (0<=i+n) then ae (i+n).toNat else aC
 else aC
noncomputable def KR(i:V)(vs:af V):P V:=bP (kU i) λk=>bP ((place k vs.length).bind (vs[·]?)) λv=>ret v
noncomputable def M2(i:V)(es:af (V×V)):P V:=if V.pure i then bP (bI i es) λv=>ret v else fail
noncomputable def vH(e i:V):P V:=qh e (KR i) (tz e (λs=>bP (kU i) λk=>bP ((place k s.length).bind (s.cps[·]?)) λc=>ret (.str ⟨#[c]⟩)) (bP (kW e) λa=>nY a (KR i) (M2 i)))
noncomputable def wD(e:V):P V:=bP (mQ e) λvs=>if bh (0<vs.length)&&bh (vs.length<=16777216) then ret (.tup (vs.drop 1)) else fail
noncomputable def x6(e h:V):P V:=tz e (λs=>bP (kU h) λk=>if bh (k=1)&&bh (s.length<=1000) then ret (.str ⟨(s.cps.toList.take 1).toArray⟩) else fail)
 (bP (kW e) λa=>bP (kU h) λk=>vG a λvs=>if bh (0<=k)&&fits k&&bh (vs.length<=16777216) then newList (vs.take k.toNat) else fail)
noncomputable def allInts:af V->aS (af aJ)
 |[]=>ae []
 |.int i::r=>(allInts r).map (i::·)
 |_=>aC
noncomputable def x8{α:Type}:af α->aS α
 |[v]=>ae v
 |_=>aC
noncomputable def M3{α:Type}:af α->aS (α×α)
 |[v,u]=>ae (v,u)
 |_=>aC
theorem Ai{α:Type}{l:af α}{a:α}(h:x8 l=ae a):l=[a]:=by
 cases l with
 |nil=>cases h
 |cons b l=>
  cases l with
  |nil=>rw[aU h]
  |cons _ _=>cases h
theorem x9{α:Type}{l:af α}{a:α×α}(h:M3 l=ae a):l=[a.1,a.2]:=by
 cases l with
 |nil=>cases h
 |cons b l=>
  cases l with
  |nil=>cases h
  |cons b l=>
   cases l with
   |nil=>rw[<-aU h]
   |cons _ _=>cases h
theorem GF{v:V}{x:af V}(h:mQ v=ae x):v=.tup x:=V.casesOn (motive_1:=λv=>mQ v=ae x->v=.tup x) v eP (λ_=>eP) (λ_=>eP) (λ_=>eP) (λ_ e=>bf V.tup (aU e)) (λ_=>eP) h
theorem sI{v:V}{x:ag}(h:kW v=ae x):v=.ref x:=V.casesOn (motive_1:=λv=>kW v=ae x->v=.ref x) v eP (λ_=>eP) (λ_=>eP) (λ_=>eP) (λ_=>eP) (λ_ e=>bf V.ref (aU e)) h
theorem VG{v:V}{x:aJ}(h:kU v=ae x):v=.int x:=V.casesOn (motive_1:=λv=>kU v=ae x->v=.int x) v eP (λ_=>eP) (λ_ e=>bf V.int (aU e)) (λ_=>eP) (λ_=>eP) (λ_=>eP) h
theorem VH{v:V}{x:aM}(h:tx v=ae x):v=.str x:=V.casesOn (motive_1:=λv=>tx v=ae x->v=.str x) v eP (λ_=>eP) (λ_=>eP) (λ_ e=>bf V.str (aU e)) (λ_=>eP) (λ_=>eP) h
theorem mS{o:O}{x:af V}(h:Ba o=ae x):o=.list x:=O.casesOn (motive:=λo=>Ba o=ae x->o=.list x) o (λ_ e=>bf O.list (aU e)) (λ_=>eP) (λ_ _=>eP) (λ_=>eP) eP h
theorem mT{o:O}{x:af (V×V)}(h:xY o=ae x):o=.dict x:=O.casesOn (motive:=λo=>xY o=ae x->o=.dict x) o (λ_=>eP) (λ_ e=>bf O.dict (aU e)) (λ_ _=>eP) (λ_=>eP) eP h
noncomputable def pairsOf:af V->aS (af (V×V))
 |[]=>ae []
 |v::r=>(mQ v).bind λvs=>(M3 vs).bind λp=>(pairsOf r).map (p::·)
noncomputable def dictOf(ps:af (V×V)):af (V×V):=ps.foldl (λd p=>du p.1 p.2 d) []
noncomputable def cO(es:af (V×V)):af V:=es.map λp=>.tup [p.1,p.2]
noncomputable def maxOf:af aJ->aS aJ
 |[]=>aC
 |i::is=>ae (is.foldl max i)
noncomputable def listAt{α:Type}(v:V)(f:ag->af V->P α):P α:=bP (kW v) λi=>vG i (f i)
noncomputable def dictAt{α:Type}(v:V)(f:ag->af (V×V)->P α):P α:=bP (kW v) λi=>M0 i (f i)
noncomputable def VI(vs:af V):P V:=if vs.length<=16777216 then ret (.int vs.length) else fail
noncomputable def lenOf(v:V):P V:=qh v VI (listAt v λ_ vs=>VI vs)
noncomputable def tupleOf(v:V):P V:=qh v (λvs=>ret (.tup vs)) (listAt v λ_ vs=>if vs.length<=16777216 then ret (.tup vs) else fail)
noncomputable def jl(vs:af V):P V:=if cZ vs then newList (dh vs) else fail
noncomputable def sortedOf(v:V):P V:=bP (kW v) λa=>nY a jl λes=>jl (es.map (·.1))
noncomputable def QB(v:V):P V:=bP (kW v) λa=>nY a (λvs=>bP (pairsOf vs) λps=>if(ps.all λp=>V.pure p.1)&&bh (ps.length<1000) then alloc (.dict (dictOf ps)) else fail)
 λes=>if(es.all λp=>V.flat p.1)&&bh (es.length<16777216) then alloc (.dict es) else fail
noncomputable def iV(f:aA)(v:V):P V:=
 if f="len" then lenOf v
 else if f="sortedSet" then listAt v λ_ vs=>if setOk vs then jl (cF vs) else fail
 else if f="sorted" then sortedOf v
 else if f="tuple" then tupleOf v
 else if f="dict" then QB v
 else if f="abs" then bP (kU v) λi=>ret (.int i.natAbs)
 else if f="str" then bP (kU v) λi=>if bh (0<=i)&&bh (i<10) then ret (.str (aB (toString i))) else fail
 else if f="list" then listAt v λ_ vs=>newList vs
 else if f="sum" then listAt v λ_ vs=>bP (allInts vs) λis=>if is.all fits&&bh (is.length<1000) then ret (.int (is.foldl (·+·) 0)) else fail
 else if f="max" then listAt v λ_ vs=>bP (allInts vs) λis=>bP (maxOf is) λi=>ret (.int i)
 else if f="listRange" then bP (kU v) λn=>if fits n&&bh (n<=16777216) then newList ((c5 n.toNat).map λ(k:ag)=>.int k) else fail
 else if f="lenSet" then listAt v λ_ vs=>if setOk vs&&bh ((cF vs).length<=64) then ret (.int (cF vs).length) else fail
 else if f="sortedItems" then dictAt v λ_ es=>if es.all λp=>V.word p.1 then jl (cO es) else fail
 else if f="listItems" then dictAt v λ_ es=>if(es.all λp=>V.word p.1)&&bh (es.length<=16777216) then newList (cO es) else fail
 else fail
noncomputable def Yv(o:V):P V:=listAt o λi vs=>if vs.length<=16777216 then bP (vs.getLast?) λv=>cI (store i (.list vs.dropLast)) λ_=>ret v else fail
noncomputable def Yw(o k:V):P V:=bP (kU k) λk=>dictAt o λi es=>if es.length<16777216 then bP (bI (.int k) es) λv=>cI (store i (.dict (lm (.int k) es))) λ_=>ret v else fail
noncomputable def Bc(o v:V):P V:=listAt o λi vs=>if vs.length<16777216 then cI (store i (.list (vs++[v]))) λ_=>ret .none else fail
noncomputable def Be(o u:V):P V:=bP (kW u) λj=>listAt o λi vs=>vG j λws=>if vs.length+ws.length<=16777216&&i !=j then cI (store i (.list (vs++ws))) λ_=>ret .none else fail
noncomputable def GG(o v:V):P V:=listAt o λ_ vs=>if V.pure v&&V.eI vs&&bh (vs.length<=16777216) then bP (indexOf v vs) λk=>ret (.int k) else fail
noncomputable def VJ(o k d:V):P V:=dictAt o λ_ es=>if V.pure k then ret ((bI k es).getD d) else fail
noncomputable def M4(o k d:V):P V:=dictAt o λi es=>if V.pure k&&bh (es.length<16777216) then match bI k es with
   |some v=>ret v
   |none=>cI (store i (.dict (es++[(k,d)]))) λ_=>ret d
  else fail
noncomputable def Yx(o:V)(args:af V):P V:=match args with
  |[]=>Yv o
  |k::_=>bP (x8 args) λ_=>Yw o k
noncomputable def ya(o:V):P V:=bP (tx o) λs=>if bh (s.length=1)&&s.cps.toList.all (λc=>bh (64<c)&&bh (c<128)) then ret (.bool aQ) else fail
noncomputable def iJ(o:V)(m:aA)(args:af V):P V:=
 if m="append" then bP (x8 args) (Bc o)
 else if m="extend" then bP (x8 args) (Be o)
 else if m="index" then bP (x8 args) (GG o)
 else if m="get" then bP (M3 args) λp=>VJ o p.1 p.2
 else if m="setdefault" then bP (M3 args) λp=>M4 o p.1 p.2
 else if m="pop" then Yx o args
 else if m="isspace" then if args.isEmpty then ya o else fail
 else fail
noncomputable def yb(e i v:V):P cH:=bP (kW e) λa=>nY a (λvs=>bP (kU i) λk=>if bh (0<=k)&&bh (k<vs.length)&&fits k then store a (.list (vs.set k.toNat v)) else fail)
 λes=>if V.pure i&&bh (es.length<16777216) then store a (.dict (du i v es)) else fail
noncomputable def GH:O->aS (aA×ag)
 |.inst c d=>ae (c,d)
 |_=>aC
noncomputable def VK:O->aS (af (aA×V))
 |.ns es=>ae es
 |_=>aC
noncomputable def Bf{α:Type}(v:V)(f:ag->af (aA×V)->P α):P α:=bP (kW v) λa=>cI (load a) λo=>bP (GH o) λq=>cI (load q.2) λo'=>bP (VK o') λes=>f q.2 es
noncomputable def getAttr(e:V)(x:aA):P V:=Bf e λ_ es=>bP (rX x es) λv=>ret v
noncomputable def setAttr(e:V)(x:aA)(v:V):P cH:=Bf e λd es=>if es.length<100 then store d (.ns (u6 x v es)) else fail
theorem Yy{o:O}(h:O.kind o=0):∃x,o=.list x:=O.casesOn (motive:=λo=>O.kind o=0->∃x,o=.list x) o (λx _=>⟨x,ac⟩) (λ_ e=>(qO _ e).elim) (λ_ _ e=>(qO _ e).elim) (λ_ e=>(qO _ e).elim) (λe=>(qO _ e).elim) h
theorem Yz{o:O}(h:O.kind o=1):∃x,o=.dict x:=O.casesOn (motive:=λo=>O.kind o=1->∃x,o=.dict x) o (λ_ e=>(Nat.zero_ne_one e).elim) (λx _=>⟨x,ac⟩) (λ_ _ e=>(qO _ (tA e)).elim) (λ_ e=>(qO _ (tA e)).elim) (λe=>(qO _ (tA e)).elim) h
theorem Ek{o:O}{x:aA×ag}(h:GH o=ae x):o=.inst x.1 x.2:=O.casesOn (motive:=λo=>GH o=ae x->o=.inst x.1 x.2) o (λ_=>eP) (λ_=>eP) (λ_ _ e=>aU e▸ac) (λ_=>eP) eP h
theorem KS{o:O}{x:af (aA×V)}(h:VK o=ae x):o=.ns x:=O.casesOn (motive:=λo=>VK o=ae x->o=.ns x) o (λ_=>eP) (λ_=>eP) (λ_ _=>eP) (λ_ e=>bf O.ns (aU e)) eP h
inductive KM where
 |none
 |list(a:ag)(ws:af V)
 |iU(a:ag)
structure eA where
 vs:af V
 QC:KM
noncomputable def UU(it:eA):P cH:=match it.QC with
 |.none=>ret ()
 |.list a ws=>cI (load a) λo=>match o with
  |.list X7=>if V.oR X7 ws then ret () else fail
  |_=>fail
 |.iU a=>cI (load a) λo=>match o with
  |.iU=>ret ()
  |_=>fail
noncomputable def bindTo(m:Env)(xs:af aA)(v:V):aS Env:=(x8 xs).elim ((mQ v).bind λvs=>if xs.length=vs.length then ae (m.bind xs vs) else aC) λx=>ae (m.upd x v)
noncomputable def YA(v:V):P eA:=qh v (λvs=>ret ⟨vs,.none⟩) (tz v (λs=>ret ⟨s.cps.toList.map λc=>.str ⟨#[c]⟩,.none⟩) (listAt v λa vs=>ret ⟨vs,.list a vs⟩))
noncomputable def itemsOf(ev:PE->P V):Src->P eA
 |.seq e=>cI (ev e) YA
 |.range e=>cI (ev e) λv=>bP (kU v) λn=>if fits n then ret ⟨(c5 n.toNat).map λ(k:ag)=>.int k,.none⟩ else fail
 |.nW e=>cI (ev e) λv=>listAt v λa vs=>ret ⟨vs.zipIdx.map λp=>.tup [.int p.2,p.1],.list a vs⟩
 |.zip a b=>cI (ev a) λv=>cI (ev b) λw=>bP (mQ v) λvs=>bP (mQ w) λws=>λst=>ae (⟨(vs.zip ws).map λp=>.tup [p.1,p.2],.iU st.length⟩,st++[.iU])
noncomputable def iK(it:eA)(body:V->P cH):af V->P cH
 |[]=>UU it
 |v::vs=>cI (UU it) λ_=>cI (body v) λ_=>iK it body vs
noncomputable def c9(it:eA)(body:V->Env->P (Flow×Env)):af V->Env->P (Flow×Env)
 |[],m=>cI (UU it) λ_=>ret (.next,m)
 |v::vs,m=>cI (UU it) λ_=>cI (body v m) λr=>match r with
  |(.next,m')=>c9 it body vs m'
  |(.ret v,m')=>ret (.ret v,m')
noncomputable def tests(ev:PE->P V):af PE->P aY
 |[]=>ret aj
 |e::es=>cI (ev e) λv=>cI (ml v) λb=>if b then tests ev es else ret aQ
noncomputable def dA:af Gen->af aA
 |[]=>[]
 |.mk fe _ _::gs=>fe++dA gs
noncomputable def mq(ev:PE->Env->P V)(elt:PE)(acc:ag):af Gen->Env->P cH
 |[],m=>cI (ev elt m) λv=>cI (iJ (.ref acc) "append" [v]) λ_=>ret ()
 |.mk fe src ifs::gs,m=>cI (itemsOf (λe=>ev e m) src) λit=>
  iK it (λv=>bP (bindTo m fe v) λm'=>cI (tests (λe=>ev e m') ifs) λb=>if b then mq ev elt acc gs m' else ret ()) it.vs
structure I where
 ev:PE->Env->P V
 ex:af PS->Env->P (Flow×Env)
 wl:PE->af PS->Env->P (Flow×Env)
 cl:aA->aA->af V->P V
noncomputable abbrev sJ:=aA->aA->aS PF
noncomputable def sL(f:PE->P V)(k1 v1 k2 v2:PE):P V:=cI (alloc (.dict [])) λd=>cI (f k1) λx1=>cI (f v1) λy1=>cI (f k2) λx2=>cI (f v2) λy2=>dictAt d λa es=>
 if es.isEmpty&&(V.pure x1&&V.pure x2) then cI (store a (.dict (dictOf [(x1,y1),(x2,y2)]))) λ_=>ret (.ref a) else fail
noncomputable def gf(i:I)(e:PE)(m:Env):P V:=match e with
 |.none=>ret .none
 |.bool b=>ret (.bool b)
 |.int k=>ret (.int k)
 |.str s=>ret (.str (aB s))
 |.var x=>bP (m x) λv=>ret v
 |.tup es=>cI (p6 (λe=>i.ev e m) es) λvs=>ret (.tup vs)
 |.list es=>cI (p6 (λe=>i.ev e m) es) λvs=>newList vs
 |.kT=>alloc (.dict [])
 |.r8 k1 v1 k2 v2=>sL (λe=>i.ev e m) k1 v1 k2 v2
 |.bin op a b=>cI (i.ev a m) λv=>cI (i.ev b m) λw=>r9 op v w
 |.neg a=>cI (i.ev a m) λv=>match v with
  |.int k=>if fits k then ret (.int (-k)) else fail
  |_=>fail
 |.cmp op a b=>cI (i.ev a m) λv=>cI (i.ev b m) λw=>mo op v w
 |.xX a op b MZ c=>cI (i.ev a m) λv=>cI (i.ev b m) λw=>cI (mo op v w) λr=>cI (ml r) λr=>
  if r then cI (i.ev c m) λx=>mo MZ w x else ret (.bool aQ)
 |.and a b=>cI (i.ev a m) λv=>cI (ml v) λr=>if r then i.ev b m else ret (.bool aQ)
 |.or a b=>cI (i.ev a m) λv=>cI (ml v) λr=>if r then ret (.bool aj) else i.ev b m
 |.not a=>cI (i.ev a m) λv=>cI (ml v) λr=>ret (.bool (!r))
 |.ite t a b=>cI (i.ev t m) λv=>cI (ml v) λr=>if r then i.ev a m else i.ev b m
 |.idx e k=>cI (i.ev e m) λv=>cI (i.ev k m) λw=>vH v w
 |.gB e=>cI (i.ev e m) λv=>wD v
 |.gV e h=>cI (i.ev e m) λv=>cI (i.ev h m) λw=>x6 v w
 |.attr e x=>cI (i.ev e m) λv=>getAttr v x
 |.call f args=>cI (p6 (λe=>i.ev e m) args) λvs=>i.cl "" f vs
 |.new c args=>cI (p6 (λe=>i.ev e m) args) λvs=>cI (alloc (.ns [])) λd=>match d with
  |.ref d=>cI (alloc (.inst c d)) λo=>cI (i.cl c "__init__" (o::vs)) λr=>match r with
   |.none=>ret o
   |_=>fail
  |_=>fail
 |.cu e f args=>cI (i.ev e m) λo=>match o with
  |.ref a=>cI (load a) λob=>match ob with
   |.inst c d=>cI (load d) λMO=>match MO with
    |.ns es=>if(rX f es).isNone then cI (p6 (λe=>i.ev e m) args) λvs=>i.cl c f (o::vs) else fail
    |_=>fail
   |ob=>cI (p6 (λe=>i.ev e m) args) λvs=>cI (load a) λMO=>if O.kind ob==O.kind MO then iJ o f vs else fail
  |_=>cI (p6 (λe=>i.ev e m) args) λvs=>iJ o f vs
 |.bi f a=>cI (i.ev a m) λv=>iV f v
 |.comp elt gens=>match gens with
  |[]=>fail
  |.mk fe src ifs::gs=>cI (itemsOf (λe=>i.ev e m) src) λit=>cI (newList []) λacc=>match acc with
   |.ref a=>
    let Bg:=m.drop (".0"::dA gens)
    cI (iK it (λv=>bP (bindTo Bg fe v) λm'=>cI (tests (λe=>i.ev e m') ifs) λb=>if b then mq i.ev elt a gs m' else ret ()) it.vs) λ_=>ret acc
   |_=>fail
noncomputable def mr(v:V):P (af V):=qh v (λvs=>ret vs) (listAt v λ_ vs=>ret vs)
noncomputable def M5(i:I)(t:PT)(v:V)(m:Env):P Env:=match t with
 |.name x=>ret (m.upd x v)
 |.names xs=>cI (mr v) λvs=>if xs.length=vs.length then ret (m.bind xs vs) else fail
 |.attr o x=>cI (i.ev o m) λw=>cI (setAttr w x v) λ_=>ret m
 |.idx o k=>cI (i.ev o m) λw=>cI (i.ev k m) λj=>cI (yb w j v) λ_=>ret m
noncomputable def tC(i:I)(s:PS)(m:Env):P (Flow×Env):=match s with
 |.assign t e=>cI (i.ev e m) λv=>cI (M5 i t v m) λm'=>ret (.next,m')
 |.expr e=>cI (i.ev e m) λv=>match v with
  |.ref _=>fail
  |.tup _=>fail
  |_=>ret (.next,m)
 |.ret e=>cI (i.ev e m) λv=>ret (.ret v,m)
 |.iff t a b=>cI (i.ev t m) λv=>cI (ml v) λr=>if r then i.ex a m else i.ex b m
 |.loop fe src body=>cI (itemsOf (λe=>i.ev e m) src) λit=>
  c9 it (λv m=>bP (bindTo m fe v) λm'=>i.ex body m') it.vs m
 |.while t body=>i.wl t body m
 |.fail=>fail
noncomputable def dY(i:I):af PS->Env->P (Flow×Env)
 |[],m=>ret (.next,m)
 |s::ss,m=>cI (tC i s m) λr=>match r with
  |(.next,m')=>dY i ss m'
  |(.ret v,m')=>ret (.ret v,m')
noncomputable def YB(i:I)(t:PE)(body:af PS)(m:Env):P (Flow×Env):=
 cI (i.ev t m) λv=>cI (ml v) λr=>if r then cI (i.ex body m) λr=>match r with
  |(.next,m')=>i.wl t body m'
  |(.ret v,m')=>ret (.ret v,m')
 else ret (.next,m)
noncomputable def YC(G:sJ)(i:I)(c f:aA)(vs:af V):P V:=bP (G c f) λpf=>if pf.params.length=vs.length then cI (i.ex pf.body (Env.empty.bind pf.params vs)) λr=>match r with
  |(.ret v,_)=>ret v
  |(.next,_)=>ret .none
  else fail
noncomputable def step(G:sJ)(i:I):I:=⟨gf i,dY i,YB i,YC G i⟩
noncomputable def run(G:sJ):ag->I
 |0=>⟨λ_ _=>fail,λ_ _=>fail,λ_ _ _=>fail,λ_ _ _=>fail⟩
 |n+1=>step G (run G n)
noncomputable def IR:PF:=⟨["text"],[.ret (.and (.cmp .ne (.var "text") (.str "")) (.cmp .eq (.comp (.var "sign") [(.mk ["sign"] (.seq (.var "text")) [(.or (.cu (.var "sign") "isspace" []) (.cmp .isin (.var "sign") (.str "()[]{},:")))])]) (.list [])))]⟩
noncomputable def kH:PF:=⟨["t"],[.ret (.and (.cmp .eq (.bi "len" (.var "t")) (.int 1)) (.cmp .eq (.gV (.idx (.var "t") (.int 0)) (.int 1)) (.str "?")))]⟩
noncomputable def vI:PF:=⟨["self"],[.assign (.attr (.var "self") "nodes") (.list []),
  .assign (.attr (.var "self") "numbers") .kT,
  .assign (.attr (.var "self") "weights") (.list []),
  .assign (.attr (.var "self") "depths") (.list [])]⟩
noncomputable def qi:PF:=⟨["self","op","kids"],[.assign (.name "node") (.bin .add (.tup [(.var "op")]) (.bi "tuple" (.var "kids"))),
  .iff (.cmp .isin (.var "node") (.attr (.var "self") "numbers")) [.ret (.idx (.attr (.var "self") "numbers") (.var "node"))] [],
  .expr (.cu (.var "self") "require" [(.var "op")]),
  .loop ["kid"] (.seq (.gB (.var "node"))) [.iff (.not (.xX (.int 0) .le (.var "kid") .lt (.bi "len" (.attr (.var "self") "nodes")))) [.fail] []],
  .assign (.idx (.attr (.var "self") "numbers") (.var "node")) (.bi "len" (.attr (.var "self") "nodes")),
  .expr (.cu (.attr (.var "self") "nodes") "append" [(.var "node")]),
  .expr (.cu (.attr (.var "self") "weights") "append" [(.bin .add (.int 1) (.bi "sum" (.comp (.idx (.attr (.var "self") "weights") (.var "kid")) [(.mk ["kid"] (.seq (.gB (.var "node"))) [])])))]),
  .expr (.cu (.attr (.var "self") "depths") "append" [(.bin .add (.int 1) (.bi "max" (.bin .add (.comp (.idx (.attr (.var "self") "depths") (.var "kid")) [(.mk ["kid"] (.seq (.gB (.var "node"))) [])]) (.list [(.int 0)]))))]),
  .ret (.bin .sub (.bi "len" (.attr (.var "self") "nodes")) (.int 1))]⟩
noncomputable def qj:PF:=⟨["self","op"],[.iff (.or (.not (.call "is_op" [(.var "op")])) (.cmp .eq (.idx (.var "op") (.int 0)) (.str "?"))) [.fail] []]⟩
noncomputable def Aj:PF:=⟨["self","n"],[.ret (.idx (.idx (.attr (.var "self") "nodes") (.var "n")) (.int 0))]⟩
noncomputable def vJ:PF:=⟨["self","n"],[.ret (.gB (.idx (.attr (.var "self") "nodes") (.var "n")))]⟩
noncomputable def sa:PF:=⟨["self","heap"],[.assign (.attr (.var "self") "heap") (.var "heap")]⟩
noncomputable def jH:PF:=⟨["self","table","c","pattern"],[.assign (.name "op") (.idx (.var "pattern") (.int 0)),
  .iff (.call "is_variable" [(.var "pattern")]) [.assign (.name "late") (.bi "dict" (.var "table")),
  .assign (.idx (.var "late") (.var "op")) (.var "c"),
  .ret (.ite (.cmp .eq (.cu (.var "table") "get" [(.var "op"),(.var "c")]) (.var "c")) (.list [(.var "late")]) (.list []))] [],
  .assign (.name "found") (.list []),
  .loop ["node"] (.seq (.cu (.attr (.var "self") "heap") "nodes_of" [(.var "c")])) [.iff (.and (.cmp .eq (.idx (.var "node") (.int 0)) (.var "op")) (.cmp .eq (.bi "len" (.var "node")) (.bi "len" (.var "pattern")))) [.assign (.name "tables") (.list [(.var "table")]),
  .loop ["kid","part"] (.zip (.gB (.var "node")) (.gB (.var "pattern"))) [.assign (.name "tables") (.comp (.var "late") [(.mk ["one"] (.seq (.var "tables")) []),(.mk ["late"] (.seq (.cu (.var "self") "extended" [(.var "one"),(.var "kid"),(.var "part")])) [])])],
  .expr (.cu (.var "found") "extend" [(.var "tables")])] []],
  .ret (.var "found")]⟩
noncomputable def mU:PF:=⟨["self","c","pattern"],[.assign (.name "substs") .kT,
  .loop ["table"] (.seq (.cu (.var "self") "extended" [.kT,(.cu (.attr (.var "self") "heap") "find" [(.var "c")]),(.var "pattern")])) [.assign (.idx (.var "substs") (.bi "tuple" (.bi "sortedItems" (.var "table")))) (.bool aj)],
  .ret (.bi "sorted" (.var "substs"))]⟩
noncomputable def qk:PF:=⟨["self","pattern"],[.ret (.comp (.tup [(.var "c"),(.var "subst")]) [(.mk ["c"] (.seq (.cu (.attr (.var "self") "heap") "classes" [])) []),(.mk ["subst"] (.seq (.cu (.var "self") "found_in" [(.var "c"),(.var "pattern")])) [])])]⟩
noncomputable def tD:PF:=⟨["self","heap"],[.assign (.attr (.var "self") "heap") (.var "heap"),
  .assign (.attr (.var "self") "walker") (.new "Walker" [(.var "heap")])]⟩
noncomputable def nZ:PF:=⟨["self","rows","pattern"],[.assign (.name "found") (.list []),
  .loop ["told","table"] (.seq (.var "rows")) [.loop ["c"] (.seq (.cu (.attr (.var "self") "heap") "classes" [])) [.expr (.cu (.var "found") "extend" [(.comp (.tup [(.bin .add (.var "told") (.tup [(.var "c")])),(.var "late")]) [(.mk ["late"] (.seq (.cu (.attr (.var "self") "walker") "extended" [(.var "table"),(.var "c"),(.var "pattern")])) [])])])]],
  .ret (.var "found")]⟩
noncomputable def sf:PF:=⟨["self","patterns"],[.assign (.name "rows") (.list [(.tup [(.tup []),.kT])]),
  .loop ["pattern"] (.seq (.var "patterns")) [.assign (.name "rows") (.cu (.var "self") "extended" [(.var "rows"),(.var "pattern")])],
  .assign (.name "found") .kT,
  .loop ["told","table"] (.seq (.var "rows")) [.assign (.idx (.var "found") (.tup [(.var "told"),(.bi "tuple" (.bi "sortedItems" (.var "table")))])) (.bool aj)],
  .ret (.bi "sorted" (.var "found"))]⟩
noncomputable def sg:PF:=⟨["self"],[.assign (.attr (.var "self") "above") (.list []),
  .assign (.attr (.var "self") "lots") (.list []),
  .assign (.attr (.var "self") "merged") (.list [])]⟩
noncomputable def si:PF:=⟨["self"],[.expr (.cu (.attr (.var "self") "above") "append" [(.bi "len" (.attr (.var "self") "above"))]),
  .expr (.cu (.attr (.var "self") "lots") "append" [(.list [(.bi "len" (.attr (.var "self") "lots"))])]),
  .ret (.bin .sub (.bi "len" (.attr (.var "self") "above")) (.int 1))]⟩
noncomputable def sj:PF:=⟨["self"],[.ret (.bi "len" (.attr (.var "self") "above"))]⟩
noncomputable def sk:PF:=⟨["self","a"],[.while (.cmp .ne (.idx (.attr (.var "self") "above") (.var "a")) (.var "a")) [.assign (.name "a") (.idx (.attr (.var "self") "above") (.var "a"))],
  .ret (.var "a")]⟩
noncomputable def mv:PF:=⟨["self","a","b"],[.assign (.names ["kept","gone"]) (.bi "sorted" (.list [(.cu (.var "self") "find" [(.var "a")]),(.cu (.var "self") "find" [(.var "b")])])),
  .iff (.cmp .eq (.var "kept") (.var "gone")) [.ret .none] [],
  .assign (.idx (.attr (.var "self") "above") (.var "gone")) (.var "kept"),
  .expr (.cu (.idx (.attr (.var "self") "lots") (.var "kept")) "extend" [(.idx (.attr (.var "self") "lots") (.var "gone"))]),
  .expr (.cu (.attr (.var "self") "merged") "append" [(.tup [(.var "kept"),(.var "gone")])]),
  .ret (.tup [(.var "kept"),(.var "gone")])]⟩
noncomputable def oc:PF:=⟨["self","a"],[.ret (.bi "sorted" (.idx (.attr (.var "self") "lots") (.cu (.var "self") "find" [(.var "a")])))]⟩
noncomputable def og:PF:=⟨["self"],[.ret (.comp (.var "a") [(.mk ["a"] (.range (.bi "len" (.attr (.var "self") "above"))) [(.cmp .eq (.idx (.attr (.var "self") "above") (.var "a")) (.var "a"))])])]⟩
noncomputable def vK:PF:=⟨["self"],[.assign (.attr (.var "self") "bank") (.new "Bank" []),
  .assign (.attr (.var "self") "unions") (.new "Unions" []),
  .assign (.attr (.var "self") "edges") (.list []),
  .assign (.attr (.var "self") "forest") (.list []),
  .assign (.attr (.var "self") "known") .kT,
  .assign (.attr (.var "self") "above") .kT,
  .assign (.attr (.var "self") "waiting") (.list [])]⟩
noncomputable def vL:PF:=⟨["self","n"],[.ret (.bin .add (.tup [(.cu (.attr (.var "self") "bank") "op" [(.var "n")])]) (.bi "tuple" (.comp (.cu (.var "self") "find" [(.var "kid")]) [(.mk ["kid"] (.seq (.cu (.attr (.var "self") "bank") "kids" [(.var "n")])) [])])))]⟩
noncomputable def sM:PF:=⟨["self","op","numbers"],[.assign (.name "n") (.cu (.attr (.var "self") "bank") "take" [(.var "op"),(.var "numbers")]),
  .iff (.cmp .lt (.var "n") (.cu (.attr (.var "self") "unions") "size" [])) [.ret (.var "n")] [],
  .expr (.cu (.attr (.var "self") "unions") "make" []),
  .assign (.idx (.attr (.var "self") "above") (.var "n")) (.list []),
  .loop ["c"] (.seq (.bi "sortedSet" (.comp (.cu (.var "self") "find" [(.var "kid")]) [(.mk ["kid"] (.seq (.var "numbers")) [])]))) [.expr (.cu (.idx (.attr (.var "self") "above") (.var "c")) "append" [(.var "n")])],
  .expr (.cu (.var "self") "look_at" [(.var "n")]),
  .ret (.var "n")]⟩
noncomputable def sN:PF:=⟨["self","term"],[.ret (.cu (.var "self") "add" [(.idx (.var "term") (.int 0)),(.bi "tuple" (.comp (.cu (.var "self") "put" [(.var "part")]) [(.mk ["part"] (.seq (.gB (.var "term"))) [])]))])]⟩
noncomputable def ql:PF:=⟨["self","n"],[.assign (.name "other") (.cu (.attr (.var "self") "known") "setdefault" [(.cu (.var "self") "node" [(.var "n")]),(.var "n")]),
  .iff (.cmp .ne (.cu (.var "self") "find" [(.var "other")]) (.cu (.var "self") "find" [(.var "n")])) [.expr (.cu (.var "self") "join" [(.var "other"),(.var "n"),(.tup [(.str "like")])])] []]⟩
noncomputable def vM:PF:=⟨["self","n"],[.ret (.cu (.attr (.var "self") "unions") "find" [(.var "n")])]⟩
noncomputable def tE:PF:=⟨["self","a","b","reason"],[.ret (.cu (.var "self") "join" [(.var "a"),(.var "b"),(.var "reason")])]⟩
noncomputable def vN:PF:=⟨["self","a","b","reason"],[.expr (.cu (.attr (.var "self") "edges") "append" [(.tup [(.var "a"),(.var "b"),(.var "reason")])]),
  .assign (.name "merged") (.cu (.attr (.var "self") "unions") "merge" [(.var "a"),(.var "b")]),
  .iff (.cmp (.X6 ()) (.var "merged") .none) [.ret (.bool aQ)] [],
  .assign (.names ["kept","gone"]) (.var "merged"),
  .expr (.cu (.attr (.var "self") "forest") "append" [(.bin .sub (.bi "len" (.attr (.var "self") "edges")) (.int 1))]),
  .expr (.cu (.attr (.var "self") "waiting") "extend" [(.idx (.attr (.var "self") "above") (.var "gone"))]),
  .assign (.idx (.attr (.var "self") "above") (.var "kept")) (.bin .add (.idx (.attr (.var "self") "above") (.var "kept")) (.cu (.attr (.var "self") "above") "pop" [(.var "gone")])),
  .ret (.bool aj)]⟩
noncomputable def sq:PF:=⟨["self"],[.while (.cmp .gt (.bi "len" (.attr (.var "self") "waiting")) (.int 0)) [.expr (.cu (.var "self") "look_at" [(.cu (.attr (.var "self") "waiting") "pop" [])])]]⟩
noncomputable def qm:PF:=⟨["self"],[.ret (.cu (.attr (.var "self") "unions") "classes" [])]⟩
noncomputable def qo:PF:=⟨["self","c"],[.ret (.cu (.attr (.var "self") "unions") "members" [(.var "c")])]⟩
noncomputable def p7:PF:=⟨["self","c"],[.ret (.bi "sortedSet" (.comp (.cu (.var "self") "node" [(.var "n")]) [(.mk ["n"] (.seq (.cu (.var "self") "members" [(.var "c")])) [])]))]⟩
noncomputable def tF:PF:=⟨["well","many"],[.assign (.name "at") (.idx (.var "well") (.str "at")),
  .assign (.idx (.var "well") (.str "at")) (.bin .add (.var "at") (.int 1)),
  .ret (.bin (.mod ()) (.ite (.cmp .lt (.var "at") (.bi "len" (.idx (.var "well") (.str "cells")))) (.idx (.idx (.var "well") (.str "cells")) (.var "at")) (.bin .add (.bin .add (.bin .mul (.bin .mul (.int 5) (.var "at")) (.var "at")) (.bin .mul (.int 4) (.var "at"))) (.int 3))) (.var "many"))]⟩
noncomputable def lp:PF:=⟨["well","known"],[.assign (.name "way") (.call "_law_number" [(.var "well"),(.int 4)]),
  .iff (.or (.cmp .lt (.var "way") (.int 2)) (.cmp .eq (.var "known") (.list []))) [.ret (.tup [(.idx (.str "ab") (.bin (.mod ()) (.var "way") (.int 2)))])] [],
  .assign (.name "one") (.idx (.var "known") (.call "_law_number" [(.var "well"),(.bi "len" (.var "known"))])),
  .ret (.ite (.cmp .eq (.var "way") (.int 2)) (.tup [(.str "f"),(.var "one")]) (.tup [(.str "g"),(.var "one"),(.idx (.var "known") (.call "_law_number" [(.var "well"),(.bi "len" (.var "known"))]))]))]⟩
noncomputable def p8:PF:=⟨["t"],[.ret (.bin .add (.comp (.var "late") [(.mk ["kid"] (.seq (.gB (.var "t"))) []),(.mk ["late"] (.seq (.call "_law_all_parts" [(.var "kid")])) [])]) (.list [(.var "t")]))]⟩
noncomputable def tG:PF:=⟨["terms","pairs"],[.assign (.names ["home","goes_on"]) (.tup [(.bi "listRange" (.bi "len" (.var "terms"))),(.bool aj)]),
  .assign (.name "told") (.comp (.tup [(.cu (.var "terms") "index" [(.var "one")]),(.cu (.var "terms") "index" [(.var "other")])]) [(.mk ["one","other"] (.seq (.var "pairs")) [])]),
  .while (.var "goes_on") [.assign (.name "goes_on") (.bool aQ),
  .assign (.name "alike") (.bi "list" (.var "told")),
  .loop ["k"] (.range (.bi "len" (.var "terms"))) [.loop ["j"] (.range (.var "k")) [.iff (.and (.cmp .eq (.idx (.idx (.var "terms") (.var "k")) (.int 0)) (.idx (.idx (.var "terms") (.var "j")) (.int 0))) (.cmp .eq (.bi "len" (.idx (.var "terms") (.var "k"))) (.bi "len" (.idx (.var "terms") (.var "j"))))) [.iff (.cmp .eq (.comp (.idx (.var "home") (.cu (.var "terms") "index" [(.var "kid")])) [(.mk ["kid"] (.seq (.gB (.idx (.var "terms") (.var "k")))) [])]) (.comp (.idx (.var "home") (.cu (.var "terms") "index" [(.var "kid")])) [(.mk ["kid"] (.seq (.gB (.idx (.var "terms") (.var "j")))) [])])) [.expr (.cu (.var "alike") "append" [(.tup [(.var "j"),(.var "k")])])] []] []]],
  .loop ["k","j"] (.seq (.var "alike")) [.iff (.cmp .ne (.idx (.var "home") (.var "k")) (.idx (.var "home") (.var "j"))) [.assign (.names ["low","high"]) (.bi "sorted" (.list [(.idx (.var "home") (.var "k")),(.idx (.var "home") (.var "j"))])),
  .assign (.name "home") (.comp (.ite (.cmp .eq (.var "one") (.var "high")) (.var "low") (.var "one")) [(.mk ["one"] (.seq (.var "home")) [])]),
  .assign (.name "goes_on") (.bool aj)] []]],
  .ret (.var "home")]⟩
noncomputable def nL:PF:=⟨["well","floors"],[.assign (.name "way") (.ite (.cmp .gt (.var "floors") (.int 0)) (.call "_law_number" [(.var "well"),(.int 5)]) (.call "_law_number" [(.var "well"),(.int 2)])),
  .iff (.cmp .lt (.var "way") (.int 2)) [.ret (.ite (.cmp .eq (.var "way") (.int 0)) (.tup [(.idx (.list [(.str "?x"),(.str "?y")]) (.call "_law_number" [(.var "well"),(.int 2)]))]) (.tup [(.str "a")]))] [],
  .iff (.cmp .lt (.var "way") (.int 4)) [.ret (.tup [(.str "f"),(.call "_law_pattern" [(.var "well"),(.bin .sub (.var "floors") (.int 1))])])] [],
  .ret (.tup [(.str "g"),(.call "_law_pattern" [(.var "well"),(.bin .sub (.var "floors") (.int 1))]),(.call "_law_pattern" [(.var "well"),(.bin .sub (.var "floors") (.int 1))])])]⟩
noncomputable def tH:PF:=⟨["pattern","table","rows"],[.iff (.cmp .eq (.gV (.idx (.var "pattern") (.int 0)) (.int 1)) (.str "?")) [.ret (.idx (.var "table") (.idx (.var "pattern") (.int 0)))] [],
  .ret (.cu (.var "rows") "get" [(.bin .add (.tup [(.idx (.var "pattern") (.int 0))]) (.bi "tuple" (.comp (.call "_law_stands" [(.var "kid"),(.var "table"),(.var "rows")]) [(.mk ["kid"] (.seq (.gB (.var "pattern"))) [])]))),(.neg (.int 1))])]⟩
noncomputable def tI:PF:=⟨["names","lots"],[.assign (.name "found") (.list [.kT]),
  .loop ["name"] (.seq (.var "names")) [.assign (.name "found") (.comp (.bi "dict" (.bin .add (.bi "listItems" (.var "one")) (.list [(.tup [(.var "name"),(.var "c")])]))) [(.mk ["one"] (.seq (.var "found")) []),(.mk ["c"] (.seq (.var "lots")) [])])],
  .ret (.var "found")]⟩
noncomputable def vO:PF:=⟨["script"],[.assign (.name "well") (.r8 (.str "cells") (.comp (.bin (.mod ()) (.bi "abs" (.var "cell")) (.int 1000003)) [(.mk ["cell"] (.seq (.gV (.var "script") (.int 63))) [])]) (.str "at") (.int 0)),
  .assign (.names ["heap","terms"]) (.tup [(.new "Heap" []),(.list [])]),
  .loop ["lap"] (.range (.bin .add (.int 2) (.call "_law_number" [(.var "well"),(.int 4)]))) [.assign (.name "late") (.call "_law_some_term" [(.var "well"),(.var "terms")]),
  .iff (.cmp .le (.bi "lenSet" (.bin .add (.var "terms") (.call "_law_all_parts" [(.var "late")]))) (.int 7)) [.expr (.cu (.var "heap") "put" [(.var "late")]),
  .assign (.name "terms") (.bin .add (.var "terms") (.comp (.var "part") [(.mk ["part"] (.seq (.call "_law_all_parts" [(.var "late")])) [(.cmp .mP (.var "part") (.var "terms"))])])),
  .assign (.name "terms") (.comp (.var "part") [(.mk ["k","part"] (.nW (.var "terms")) [(.cmp .mP (.var "part") (.gV (.var "terms") (.var "k")))])])] []],
  .assign (.name "pairs") (.list []),
  .loop ["lap"] (.range (.call "_law_number" [(.var "well"),(.int 3)])) [.expr (.cu (.var "pairs") "append" [(.tup [(.idx (.var "terms") (.call "_law_number" [(.var "well"),(.bi "len" (.var "terms"))])),(.idx (.var "terms") (.call "_law_number" [(.var "well"),(.bi "len" (.var "terms"))]))])]),
  .expr (.cu (.var "heap") "merge" [(.cu (.var "terms") "index" [(.idx (.idx (.var "pairs") (.neg (.int 1))) (.int 0))]),(.cu (.var "terms") "index" [(.idx (.idx (.var "pairs") (.neg (.int 1))) (.int 1))]),(.tup [(.str "told"),(.bin .add (.str "t") (.bi "str" (.var "lap")))])])],
  .expr (.cu (.var "heap") "settle" []),
  .assign (.name "home") (.call "_law_closed" [(.var "terms"),(.var "pairs")]),
  .assign (.name "lots") (.bi "sortedSet" (.var "home")),
  .assign (.name "rows") (.bi "dict" (.comp (.tup [(.bin .add (.tup [(.idx (.var "t") (.int 0))]) (.bi "tuple" (.comp (.idx (.var "home") (.cu (.var "terms") "index" [(.var "kid")])) [(.mk ["kid"] (.seq (.gB (.var "t"))) [])]))),(.idx (.var "home") (.var "k"))]) [(.mk ["k","t"] (.nW (.var "terms")) [])])),
  .assign (.name "patterns") (.comp (.call "_law_pattern" [(.var "well"),(.int 2)]) [(.mk ["lap"] (.range (.bin .add (.int 1) (.call "_law_number" [(.var "well"),(.int 2)]))) [])]),
  .assign (.name "names") (.bi "sortedSet" (.comp (.idx (.var "part") (.int 0)) [(.mk ["pattern"] (.seq (.var "patterns")) []),(.mk ["part"] (.seq (.call "_law_all_parts" [(.var "pattern")])) [(.cmp .eq (.gV (.idx (.var "part") (.int 0)) (.int 1)) (.str "?"))])])),
  .assign (.name "due") (.list []),
  .loop ["table"] (.seq (.call "_law_tables" [(.var "names"),(.var "lots")])) [.assign (.name "told") (.bi "tuple" (.comp (.call "_law_stands" [(.var "pattern"),(.var "table"),(.var "rows")]) [(.mk ["pattern"] (.seq (.var "patterns")) [])])),
  .iff (.cmp .mP (.neg (.int 1)) (.var "told")) [.expr (.cu (.var "due") "append" [(.tup [(.var "told"),(.bi "tuple" (.comp (.tup [(.var "name"),(.idx (.var "table") (.var "name"))]) [(.mk ["name"] (.seq (.var "names")) [])]))])])] []],
  .assign (.name "joint") (.new "Joint" [(.var "heap")]),
  .iff (.or (.cmp .ne (.cu (.var "joint") "found" [(.var "patterns")]) (.bi "sorted" (.var "due"))) (.cmp .ne (.cu (.var "joint") "found" [(.list [])]) (.list [(.tup [(.tup []),(.tup [])])]))) [.ret (.bool aQ)] [],
  .ret (.cmp .eq (.comp (.tup [(.tup [(.var "c")]),(.var "subst")]) [(.mk ["c","subst"] (.seq (.cu (.new "Walker" [(.var "heap")]) "found" [(.idx (.var "patterns") (.int 0))])) [])]) (.cu (.var "joint") "found" [(.gV (.var "patterns") (.int 1))]))]⟩
noncomputable def yc:af ((aA×aA)×PF):=[
 (("","is_op"),IR),
 (("","is_variable"),kH),
 (("Bank","__init__"),vI),
 (("Bank","take"),qi),
 (("Bank","require"),qj),
 (("Bank","op"),Aj),
 (("Bank","kids"),vJ),
 (("Walker","__init__"),sa),
 (("Walker","extended"),jH),
 (("Walker","found_in"),mU),
 (("Walker","found"),qk),
 (("Joint","__init__"),tD),
 (("Joint","extended"),nZ),
 (("Joint","found"),sf),
 (("Unions","__init__"),sg),
 (("Unions","make"),si),
 (("Unions","size"),sj),
 (("Unions","find"),sk),
 (("Unions","merge"),mv),
 (("Unions","members"),oc),
 (("Unions","classes"),og),
 (("Heap","__init__"),vK),
 (("Heap","node"),vL),
 (("Heap","add"),sM),
 (("Heap","put"),sN),
 (("Heap","look_at"),ql),
 (("Heap","find"),vM),
 (("Heap","merge"),tE),
 (("Heap","join"),vN),
 (("Heap","settle"),sq),
 (("Heap","classes"),qm),
 (("Heap","members"),qo),
 (("Heap","nodes_of"),p7),
 (("","_law_number"),tF),
 (("","_law_some_term"),lp),
 (("","_law_all_parts"),p8),
 (("","_law_closed"),tG),
 (("","_law_pattern"),nL),
 (("","_law_stands"),tH),
 (("","_law_tables"),tI),
 (("","law"),vO)]
noncomputable def prog:sJ:=λc f=>yc.lookup (c,f)
end
section
open PySem PySem.W PyProof.Rows PySem.SeqAt PySem.Calls
noncomputable def KU:Op->Operator
 |.add=>.Add
 |.sub=>.Sub
 |.mul=>.Mult
 |.mod _=>.Mod
noncomputable def iy:GD->CmpOp
 |.eq=>.Eq
 |.ne=>.NotEq
 |.lt=>.Lt
 |.le=>.LtE
 |.gt=>.Gt
 |.isin=>.In
 |.mP=>.NotIn
 |.X6 _=>.Is
structure IS(K:jm)(C:ao):Prop where
 hga:iW K (.ref C) "__getattribute__"=ae (ae (.builtin "object.__getattribute__"))
 hk:iW K (.ref C) "__getattr__"=ae aC
 hsa:iW K (.ref C) "__setattr__"=ae (ae (.builtin "object.__setattr__"))
 plain:IT K C=aj
 has:(clsIn K C).any (·.hasDict)=aj
noncomputable abbrev wF(K:jm)(C:ao)(x:aA):Prop:=iW K (.ref C) (aB x)=ae aC
noncomputable def oh(sc:aX)(x:aA):aY:=match sc.names.lookup (aB x) with
 |some .local=>aj
 |some .cell=>aj
 |some .free=>aB x !="__classdict__"
 |_=>aQ
noncomputable def gC(sc:aX)(x:aA):aY:=match sc.names.lookup (aB x) with
 |some .local=>aj
 |some .cell=>aj
 |_=>aQ
noncomputable def sr(sc:aX)(f:aA):Prop:=sc.names.lookup (aB f)=ae .globalImplicit/\(aB f==("__debug__":aM))=aQ
noncomputable def gW:af aA:=["nodes","numbers","weights","depths","heap","walker","above","lots","merged","bank","unions","edges","forest","known","waiting"]
noncomputable def noStar(e:aK):aY:=!(e.ctorIdx==22)
theorem El{e:aK}{es:af aK}{env:bD}(ns:noStar e=aj):iX (e::es) env=(aQ,bw e env)::iX es env:=
 Expr.casesOn (motive_1:=λe=>noStar e=aj->iX (e::es) env=(aQ,bw e env)::iX es env) e (λ_ _ _ _=>ac) (λ_ _ _ _=>ac) (λ_ _ _ _ _=>ac) (λ_ _ _ _=>ac) (λ_ _ _ _ _=>ac) (λ_ _ _ _ _=>ac) (λ_ _ _ _=>ac) (λ_ _ _ _=>ac) (λ_ _ _ _ _=>ac) (λ_ _ _ _ _=>ac) (λ_ _ _ _ _ _=>ac) (λ_ _ _ _ _=>ac) (λ_ _ _=>ac) (λ_ _ _=>ac) (λ_ _ _=>ac) (λ_ _ _ _ _=>ac) (λ_ _ _ _ _=>ac) (λ_ _ _ _ _=>ac) (λ_ _ _=>ac) (λ_ _ _ _=>ac) (λ_ _ _ _=>ac) (λ_ _ _ _=>ac) (λ_ _=>ff) (λ_ _ _=>ac) (λ_ _ _=>ac) (λ_ _ _ _=>ac) (λ_ _ _ _ _=>ac) ns
noncomputable def eQ(o:aK)(x:aM):Prop:=∀env t,attributeBase o x env t=t
noncomputable def tJ(e:aK):Prop:=∀env x,foldedSetIterable e env x=bB x
noncomputable def oi:Src->af aA->aY
 |.nW _,[_,_]=>aj
 |.nW _,_=>aQ
 |.zip _ _,[_,_]=>aj
 |.zip _ _,_=>aQ
 |_,_=>aj
noncomputable def gD(scope sc:aX):aX:=
 {scope with names:=scope.names.map λ(n,k)=>if(k==.free&&sc.kind==.function&&sc.names.lookup n==ae .cell) then(n,.cell) else(n,k)}
theorem M6(scope:aX)(env:bD):wG scope env=gD scope env.scope:=ac
structure sO(sc scope:aX)(xs:af aA):Prop where
 kind:scope.kind=.function
 nodup:(scope.names.map (·.1)).Nodup
 VL:xs.Nodup
 free:∀n,(n,jo)∈scope.names->sc.names.lookup n=ae .cell\/sc.names.lookup n=ae .free
 own:∀p∈scope.names,p.2=.local\/p.2=.cell->p.1∈(".0"::xs).map aB
 fe:∀x∈xs,scope.names.lookup (aB x)=ae .local\/scope.names.lookup (aB x)=ae .cell
inductive TT:af aA->aK->Prop
 |name{x:aA}{pos:bu}:TT [x] (.Name (aB x) pos)
 |two{x y:aA}{p1 p2 pos:bu}{k:ag}:TT [x,y] (.Tuple [.Name (aB x) p1,.Name (aB y) p2] k pos)
noncomputable def ce:af aA:=["len","abs","str","tuple","list","sum","max","sorted","dict"]
noncomputable def M7:af (aA×aA×aA):=[("sorted","set","sortedSet"),("len","set","lenSet"),("list","range","listRange")]
noncomputable def GI:af (aA×aA):=[("sorted","sortedItems"),("list","listItems")]
inductive Ak(T:aK->PE->Prop):af aK->af PE->Prop
 |nil:Ak T [] []
 |cons {e p es ps}:T e p->noStar e=aj->Ak T es ps->Ak T (e::es) (p::ps)
inductive nM(T:aK->PE->Prop)(sc:aX):aK->Src->Prop
 |seq {e p}:T e p->tJ e->nM T sc e (.seq p)
 |range {e p fp pos}:sr sc "range"->T e p->noStar e=aj->nM T sc (.Call (.Name (aB "range") fp) [e] [] pos) (.range p)
 |nW {e p fp pos}:sr sc "enumerate"->T e p->noStar e=aj->nM T sc (.Call (.Name (aB "enumerate") fp) [e] [] pos) (.nW p)
 |zip {a b p q fp pos}:sr sc "zip"->T a p->T b q->noStar a=aj->noStar b=aj->nM T sc (.Call (.Name (aB "zip") fp) [a,b] [] pos) (.zip p q)
inductive QD(T:aK->PE->Prop)(sc:aX):af fY->af Gen->Prop
 |nil:QD T sc [] []
 |cons {xs fe it src ifs qs gs hs}:TT xs fe->oi src xs=aj->nM T sc it src->Ak T ifs qs->QD T sc gs hs->QD T sc (⟨fe,it,ifs,0⟩::gs) (.mk xs src qs::hs)
inductive eJ(T:aX->aK->PE->Prop)(sc:aX):aK->PE->Prop
 |none {c pos}:eJ T sc (.Constant .none c pos) .none
 |bool {b c pos}:eJ T sc (.Constant (.bool b) c pos) (.bool b)
 |int {i c pos}:eJ T sc (.Constant (.int i) c pos) (.int i)
 |str {x y c pos}:x=aB y->eJ T sc (.Constant (.str x) c pos) (.str y)
 |var {x y pos}:x=aB y->oh sc y=aj->(aB y==("__debug__":aM))=aQ->eJ T sc (.Name x pos) (.var y)
 |tup {es ps k pos}:Ak (T sc) es ps->es.length<=1000->eJ T sc (.Tuple es k pos) (.tup ps)
 |list {es ps pos}:Ak (T sc) es ps->eJ T sc (.List es pos) (.list ps)
 |kT {pos}:eJ T sc (.Dict [] [] pos) .kT
 |r8 {a b c d p q u w pos}:T sc a p->T sc b q->T sc c u->T sc d w->eJ T sc (.Dict [ae a,ae c] [b,d] pos) (.r8 p q u w)
 |bin {a b o p q pos}:T sc a p->T sc b q->eJ T sc (.BinOp a (KU o) b pos) (.bin o p q)
 |not {a p pos}:T sc a p->eJ T sc (.UnaryOp .Not a pos) (.not p)
 |neg {a p pos}:T sc a p->eJ T sc (.UnaryOp .USub a pos) (.neg p)
 |cmp {a b o p q pos}:Bh (iy o) b=aQ->T sc a p->T sc b q->eJ T sc (.Compare a [iy o] [b] pos) (.cmp o p q)
 |xX {a b c o o' p q u pos}:Bj [iy o,iy o'] [b,c]=aQ->T sc a p->T sc b q->T sc c u->eJ T sc (.Compare a [iy o,iy o'] [b,c] pos) (.xX p o q o' u)
 |and {a b p q pos}:T sc a p->T sc b q->eJ T sc (.BoolOp .And [a,b] pos) (.and p q)
 |or {a b p q pos}:T sc a p->T sc b q->eJ T sc (.BoolOp .Or [a,b] pos) (.or p q)
 |ite {t a b u p q pos}:T sc t u->T sc a p->T sc b q->eJ T sc (.IfExp t a b pos) (.ite u p q)
 |gB {a c p p2 pos}:(∃k p1,c=.Constant (.int 1) k p1)->T sc a p->eJ T sc (.Subscript a (.Slice (ae c) aC aC p2) pos) (.gB p)
 |gV {a b p q p2 pos}:T sc a p->T sc b q->eJ T sc (.Subscript a (.Slice aC (ae b) aC p2) pos) (.gV p q)
 |idx {a b p q pos}:(∀o k,tK b aQ o k=tM [o,k] (oS o k))->T sc a p->T sc b q->eJ T sc (.Subscript a b pos) (.idx p q)
 |attr {a x y p pos}:x=aB y->y∈gW->eQ a (aB y)->T sc a p->eJ T sc (.Attribute a x pos) (.attr p y)
 |fn {f g es ps pos}:(∃p,f=.Name (aB g) p)->sr sc g->Ak (T sc) es ps->eJ T sc (.Call f es [] pos) (.call g ps)
 |new {f g es ps pos}:(∃p,f=.Name (aB g) p)->g≠""->sr sc g->Ak (T sc) es ps->eJ T sc (.Call f es [] pos) (.new g ps)
 |bi {f g a p pos}:(∃p,f=.Name (aB g) p)->g∈ce->sr sc g->T sc a p->noStar a=aj->eJ T sc (.Call f [a] [] pos) (.bi g p)
 |nest {f h g x c a p pos}:(f,h,g)∈M7->(∃p,x=.Name (aB f) p)->(∃p q,c=.Call (.Name (aB h) p) [a] [] q)->sr sc f->sr sc h->T sc a p->noStar a=aj->eJ T sc (.Call x [c] [] pos) (.bi g p)
 |items {f g x c a p ap p2 pos}:(f,g)∈GI->(∃p,x=.Name (aB f) p)->c=.Call (.Attribute a (aB "items") ap) [] [] p2->sr sc f->eQ a (aB "items")->(ap.endLine==p2.line)=aj->T sc a p->eJ T sc (.Call x [c] [] pos) (.bi g p)
 |cu {f a y p es ps ap pos}:f=.Attribute a (aB y) ap->eQ a (aB y)->(ap.endLine==pos.line)=aj->es.length<29->T sc a p->Ak (T sc) es ps->eJ T sc (.Call f es [] pos) (.cu p y ps)
 |comp {elt scope pos fe it ifs gs xs src qs hs pe}:sO sc scope (dA (.mk xs src qs::hs))->TT xs fe->oi src xs=aj->nM (T sc) sc it src->Ak (T (gD scope sc)) ifs qs->QD (T (gD scope sc)) (gD scope sc) gs hs->T (gD scope sc) elt pe->
   eJ T sc (.ListComp elt (⟨fe,it,ifs,0⟩::gs) scope pos) (.comp pe (.mk xs src qs::hs))
noncomputable def QE:ag->aX->aK->PE->Prop
 |0=>λ_ _ _=>io
 |k+1=>eJ (QE k)
noncomputable def TE(sc:aX)(e:aK)(p:PE):Prop:=∃k,QE k sc e p
noncomputable abbrev Gw(sc:aX):=Ak (TE sc)
noncomputable abbrev GJ(sc:aX):=nM (TE sc) sc
noncomputable abbrev ch(sc:aX):=QD (TE sc) sc
theorem Ak.up{k:ag}{sc:aX}{es:af aK}{ps:af PE}(t:Ak (QE k sc) es ps):Gw sc es ps:=by
 induction t with
 |nil=>exact .nil
 |cons h s _ ih=>exact .cons ⟨k,h⟩ s ih
theorem nM.up{sc:aX}{e:aK}{s:Src}(k:ag)(t:nM (QE k sc) sc e s):GJ sc e s:=by
 induction t with
 |seq h p=>exact .seq ⟨k,h⟩ p
 |range g h n=>exact .range g ⟨k,h⟩ n
 |nW g h n=>exact .nW g ⟨k,h⟩ n
 |zip g h h' n n'=>exact .zip g ⟨k,h⟩ ⟨k,h'⟩ n n'
theorem QD.up{k:ag}{sc:aX}{gs:af fY}{hs:af Gen}(t:QD (QE k sc) sc gs hs):ch sc gs hs:=by
 induction t with
 |nil=>exact .nil
 |cons h o s q _ ih=>exact .cons h o (s.up k) q.up ih
inductive TL:aX->aK->PT->Prop
 |name{sc:aX} {x pos}:gC sc x=aj->TL sc (.Name (aB x) pos) (.name x)
 |names{sc:aX} {x y p1 p2 k pos}:gC sc x=aj->gC sc y=aj->x≠y->TL sc (.Tuple [.Name (aB x) p1,.Name (aB y) p2] k pos) (.names [x,y])
 |attr{sc:aX} {e p x pos}:x∈gW->TE sc e p->TL sc (.Attribute e (aB x) pos) (.attr p x)
 |idx{sc:aX} {e i p q pos}:TE sc e p->TE sc i q->TL sc (.Subscript e i pos) (.idx p q)
noncomputable def ye(sc:aX)(t v:aK)(line:ag):Prop:=∀env:bD,env.scope=sc->swapsWithSole [t] v line env=bB aQ/\IU [t] v env=bB aC
noncomputable def Al(sc:aX)(t v:aK)(line:ag):Prop:=∀env:bD,env.scope=sc->Bl v (ae t) line env=bB aj
inductive TS(B:af d6->af PS->Prop)(sc:aX):d6->PS->Prop
 |assign {t e pt p pos}:TL sc t pt->TE sc e p->ye sc t e pos.line->TS B sc (.Assign [t] e pos) (.assign pt p)
 |used {x tp elt gens scope cp p pos}:gC sc x=aj->TE sc (.ListComp elt gens scope cp) p->Al sc (.Name (aB x) tp) (.ListComp elt gens scope cp) pos.line->
   TS B sc (.Assign [.Name (aB x) tp] (.ListComp elt gens scope cp) pos) (.assign (.name x) p)
 |expr {e p pos}:TE sc e p->(∀env:bD,Bl e aC pos.line env=bB aQ)->TS B sc (.Expr e pos) (.expr p)
 |ret {e p pos}:TE sc e p->TS B sc (.Return (ae e) pos) (.ret p)
 |YD {pos}:TS B sc (.Return .none pos) (.ret .none)
 |iff {t r a b p q pos}:TE sc t r->B a p->B b q->TS B sc (.If t a b pos) (.iff r p q)
 |loop {xs fe it src body ps pos}:TT xs fe->oi src xs=aj->(∀x∈xs,gC sc x=aj)->GJ sc it src->B body ps->TS B sc (.For fe it body [] pos) (.loop xs src ps)
 |while {t r body ps pos}:TE sc t r->B body ps->TS B sc (.While t body [] pos) (.while r ps)
 |fail {s}:TS B sc s .fail
inductive X8(B:af d6->af PS->Prop)(sc:aX):af d6->af PS->Prop
 |nil:X8 B sc [] []
 |cons {s p ss ps}:TS B sc s p->X8 B sc ss ps->X8 B sc (s::ss) (p::ps)
noncomputable def cr:ag->aX->af d6->af PS->Prop
 |0=>λ_ _ _=>io
 |k+1=>λsc=>X8 (cr k sc) sc
noncomputable def UW(sc:aX)(ss:af d6)(ps:af PS):Prop:=∃k,cr k sc ss ps
noncomputable def kI:af (aA×ak):=[("len",.builtin "len"),("abs",.builtin "abs"),("str",.type "str"),("tuple",.type "tuple"),("list",.type "list"),("sum",.builtin "sum"),("max",.builtin "max"),("sorted",.builtin "sorted"),
 ("set",.type "set"),("dict",.type "dict"),("range",.type "range"),("enumerate",.type "enumerate"),("zip",.type "zip")]
structure Wd where
 prog:mV
 w:d7
 cls:aA->aS ao
 h₀:aO
 K:jm
 G:sJ
 fn:aA->aA->aS ao
 gv:aA->aS ak
inductive VM(W:Wd)(a:ao)(pf:PF):Prop
 |mk(o:cM)(fd:qP)(body:af d6)(ho:W.h₀.get? a=ae o)(hd:o.data=.func fd)(X9:W.h₀.CodeRec fd.code fd.qualname)(hb:fd.body=.stmts body)(Bm:fd.closure=[])(dL:fd.globals=fZ)(hbn:fd.builtins=tN)
  (UX:∀vals:af ak,vals.length=pf.params.length->bindArgs fd ⟨vals,[]⟩=bB ((pf.params.map aB).zip vals))(u9:∀x∈pf.params,gC fd.scope x=aj)(hnd:pf.params.Nodup)
  (hk:fd.scope.kind=.function)(f8:fd.scope.isCoroutine=aQ)(ge:fd.scope.isGenerator=aQ)(KT:∀p∈fd.scope.names,p.2≠.free)(hnn:(fd.scope.names.map (·.1)).Nodup)(tr:UW fd.scope body pf.body)
structure Wd.Ok(W:Wd):Prop where
 Bo:W.cls ""=aC
 UY:W.K.In W.h₀
 mods:gk<W.h₀.objs.size
 IV:W.h₀.NoLimit
 co:∀c C,W.cls c=ae C->IS W.K C
 make:∀c C,W.cls c=ae C->makesIn W.K C=aj/\W.gv c=ae (.ref C)/\qQ W.K (.ref C)=aj
 fo:∀x∈gW,∀c C,W.cls c=ae C->wF W.K C x
 glob:∃mg mb,W.h₀.Ns fZ mg/\W.h₀.Ns tN mb/\∀f v,W.gv f=ae v->mg (aB f)=ae v\/(mg (aB f)=aC/\mb (aB f)=ae v)
 im:∀p∈kI,W.gv p.1=ae p.2
 func:∀f pf,W.G "" f=ae pf->∃a,W.fn "" f=ae a/\W.gv f=ae (.ref a)/\qQ W.K (.ref a)=aj
 cu:∀c f pf,W.G c f=ae pf->c≠""->∃C a,W.cls c=ae C/\W.fn c f=ae a/\iW W.K (.ref C) (aB f)=ae (ae (.ref a))/\typeIn W.K (.ref a)=ae (.type "function")/\qQ W.K (.ref a)=aj
 fns:∀c f pf a,W.G c f=ae pf->W.fn c f=ae a->VM W a pf
theorem M8{A:aW}{c d:ag}(h:A.units+d<b6)(k:jk (1+c) d=aj):A.in1.units+c<b6:=rL (lT (bJ (wC A.units 1 c)) (bL (lB k))) h
noncomputable abbrev dC:ak->aq->Prop:=λ_ _=>io
noncomputable def KV(W:Wd):Prop:=W.Ok->∀(n:ag)(s:aq)(a l:ao)(vs:af ak)(ns:af aJ)(st':af O)(v:V),W.h₀=s.heap->W.fn "" "law"=ae a->n<=190->Bp vs ns->
 s.heap.get? l=ae {cls:=.type "list",data:=.seq vs.toArray}->(l==gk)=aQ->(run W.G n).cl "" "law" [.ref 0] [.list (ns.map V.int)]=ae (v,st')->
 aw (ay W.prog W.w) callerA (cf (.ref a) [.ref l]) (λv' s'=>(∀b o,s.heap.get? b=ae o->s'.heap.get? b=ae o)/\s'.os=s.os/\s'.gens=s.gens/\(∀b,v=.bool b->v'=.bool b)) dC s
theorem YE:∃W,¬KV W\/∀U,KV U:=
 (yf (∃W,¬KV W)).elim (λh=>h.imp λ_=>.inl) λh=>⟨⟨yg,⟨λ_ _=>0,{strHash:=λ_=>0,shareClass:=id,mergeTok:=id,idOf:=λ_=>0,idOfShared:=λ_ _=>0,followText:=λ_=>aQ,idOfImm:=λ_=>0}⟩,λ_=>aC,yg,yg,λ_ _=>aC,λ_ _=>aC,λ_=>aC⟩,.inr λU=>GK λq=>h ⟨U,q⟩⟩
@[irreducible]noncomputable def Wc:Wd:=YE.choose
theorem says(h:KV Wc)(U:Wd):KV U:=by unfold Wc at h;exact YE.choose_spec.elim (λq=>aV h q) λq=>q U
noncomputable def gd{α:Type}(b:aY)(o:aS α):aS α:=match b with
 |true=>o
 |false=>aC
theorem IY{C:Prop}{α:Type}{b:aY}{o:aS α}{a:α}(e:gd b o=ae a)(h:b=aj->o=ae a->C):C:=by
 induction b with
 |false=>exact eP e
 |true=>exact h ac e
noncomputable def gq{α:Type}:(b:aY)->(b=aj->aS α)->aS α
 |true,f=>f ac
 |false,_=>aC
noncomputable def VN(x:aM):aS {y:aA//x=aB y}:=gq (x.cps.toList.all λc=>bh (c<55296)) λh=>ae ⟨QF (x.cps.toList.map GL),by
 rewrite[Fast.ofString_ofList]
 refine az iz ?_
 have:x.cps.toList.map (M9∘GL)=x.cps.toList:=by
  conv=>rhs;rw[<-Bq x.cps.toList]
  refine wH λc hc=>?_
  have hc:c<55296:=cA (eH.mp h c hc)
  have hv:c.isValidChar:=.inl hc
  show(GL c).toNat=c
  rewrite[GL]
  refine az (tO hv) ?_;rfl
 refine az this ?_
 rfl⟩
noncomputable def Em(sc:aX)(f:aA):aS (qR (sr sc f)):=
 gq (sc.names.lookup (aB f)==ae .globalImplicit) λa=>gq (!(aB f==("__debug__":aM))) λb=>ae ⟨jp.mp a,oT _▸b⟩
inductive Vw:aK->Type
 |name (x p):Vw (.Name x p)
 |attr (a x p):Vw (.Attribute a x p)
 |sub (a i p):Vw (.Subscript a i p)
 |call (f es p):Vw (.Call f es [] p)
 |tup (es k p):Vw (.Tuple es k p)
 |slice (a b c p):Vw (.Slice a b c p)
 |const (c k p):Vw (.Constant c k p)
 |un (o a p):Vw (.UnaryOp o a p)
 |bin (a o b p):Vw (.BinOp a o b p)
 |comp (a gs s p):Vw (.ListComp a gs s p)
 |other (e):Vw e
noncomputable def vw:(e:aK)->Vw e
 |.Name _ _=>.name _ _
 |.Attribute _ _ _=>.attr _ _ _
 |.Subscript _ _ _=>.sub _ _ _
 |.Call _ _ [] _=>.call _ _ _
 |.Tuple _ _ _=>.tup _ _ _
 |.Slice _ _ _ _=>.slice _ _ _ _
 |.Constant _ _ _=>.const _ _ _
 |.UnaryOp _ _ _=>.un _ _ _
 |.BinOp _ _ _ _=>.bin _ _ _ _
 |.ListComp _ _ _ _=>.comp _ _ _ _
 |e=>.other e
noncomputable abbrev YF(i:aK):Prop:=∀o k,tK i aQ o k=tM [o,k] (oS o k)
noncomputable def nameP(e:aK):aS {x:aA//∃p,e=.Name (aB x) p}:=match e,vw e with
 |_,.name x p=>(VN x).bind λy=>ae ⟨y.1,p,y.2▸ac⟩
 |_,_=>aC
noncomputable def Na(e:aK):aS {q:aK×aA×bu//e=.Attribute q.1 (aB q.2.1) q.2.2}:=match e,vw e with
 |_,.attr a x p=>(VN x).bind λy=>ae ⟨(a,y.1,p),y.2▸ac⟩
 |_,_=>aC
noncomputable def UZ(e:aK):aS {q:aK×af aK×bu//e=.Call q.1 q.2.1 [] q.2.2}:=match e,vw e with
 |_,.call f es p=>ae ⟨(f,es,p),ac⟩
 |_,_=>aC
theorem KW{x:aM}{o f a:aK}{as:af aK}{p:bu}{y:aA}(h:o=.Call f (a::as) [] p)(h':∃p,f=.Name (aB y) p):eQ o x:=by refine eh h' λ_ z1=>?_;subst z1;subst h;exactλ_ _=>ac
noncomputable def Nb(x:aM)(o:aK):aS (qR (eQ o x)):=match o,vw o with
 |_,.name _ _=>ae ⟨λ_ _=>ac⟩
 |_,.attr _ _ _=>ae ⟨λ_ _=>ac⟩
 |_,.sub _ _ _=>ae ⟨λ_ _=>ac⟩
 |_,.call f (a::as) p=>(nameP f).bind λy=>ae ⟨KW ac y.2⟩
 |_,_=>aC
noncomputable def Nc(e:aK):aS (qR (tJ e/\YF e)):=match e,vw e with
 |_,.other _=>aC
 |_,.comp _ _ _ _=>aC
 |_,.slice _ _ _ _=>aC
 |_,.name _ _=>ae ⟨λ_ _=>ac,λ_ _=>ac⟩
 |_,.attr _ _ _=>ae ⟨λ_ _=>ac,λ_ _=>ac⟩
 |_,.sub _ _ _=>ae ⟨λ_ _=>ac,λ_ _=>ac⟩
 |_,.call _ _ _=>ae ⟨λ_ _=>ac,λ_ _=>ac⟩
 |_,.tup _ _ _=>ae ⟨λ_ _=>ac,λ_ _=>ac⟩
 |_,.const _ _ _=>ae ⟨λ_ _=>ac,λ_ _=>ac⟩
 |_,.un _ _ _=>ae ⟨λ_ _=>ac,λ_ _=>ac⟩
 |_,.bin _ _ _ _=>ae ⟨λ_ _=>ac,λ_ _=>ac⟩
theorem VO{sc scope:aX}{xs:af aA}(h1:bh (scope.kind=.function)=aj)(h2:bh (scope.names.map (·.1)).Nodup=aj)(h3:bh xs.Nodup=aj)(h4:(scope.names.all λp=>p.2 !=.free||(sc.names.lookup p.1==ae .cell||sc.names.lookup p.1==ae .free))=aj)(h5:(scope.names.all λp=>!(p.2==.local||p.2==.cell)||((".0"::xs).map aB).contains p.1)=aj)(h6:(xs.all λx=>scope.names.lookup (aB x)==ae .local||scope.names.lookup (aB x)==ae .cell)=aj):sO sc scope xs:=by
 rw[eH] at h4 h5 h6;refine⟨cA h1,cA h2,cA h3,λn hn=>?_,λp hp hk=>?_,λx hx=>?_⟩
 ·simpa using h4 _ hn
 ·have:=h5 p hp;rcases hk with hk|hk<;>(rw[hk] at this;exact Br.mp (by trivial))
 ·simpa using h6 x hx
noncomputable def YG(sc scope:aX)(xs:af aA):aS (qR (sO sc scope xs)):=
 gq _ λh1=>gq _ λh2=>gq _ λh3=>gq _ λh4=>gq _ λh5=>gq _ λh6=>ae ⟨VO h1 h2 h3 h4 h5 h6⟩
theorem TT.one{e:aK}{x:aA}(h:∃p,e=.Name (aB x) p):TT [x] e:=h.elim λ_ e=>e▸.name
theorem TT.M3{a b:aK}{x y:aA}{k:ag}{pos:bu}(h:∃p,a=.Name (aB x) p)(h':∃p,b=.Name (aB y) p):TT [x,y] (.Tuple [a,b] k pos):=h.elim λ_ e=>h'.elim λ_ e'=>e▸e'▸.two
noncomputable def VP(e:aK):aS {xs:af aA//TT xs e}:=match e,vw e with
 |_,.name x p=>(nameP (.Name x p)).bind λy=>ae ⟨[y.1],.one y.2⟩
 |_,.tup [a,b] _ _=>(nameP a).bind λx=>(nameP b).bind λy=>ae ⟨[x.1,y.1],.M3 x.2 y.2⟩
 |_,_=>aC
noncomputable def LE:(o:Operator)->aS {p:Op//o=KU p}
 |.Add=>ae ⟨.add,ac⟩
 |.Sub=>ae ⟨.sub,ac⟩
 |.Mult=>ae ⟨.mul,ac⟩
 |.Mod=>ae ⟨.mod (),ac⟩
 |_=>aC
noncomputable def Nd:(o:CmpOp)->aS {p:GD//o=iy p}
 |.Eq=>ae ⟨.eq,ac⟩
 |.NotEq=>ae ⟨.ne,ac⟩
 |.Lt=>ae ⟨.lt,ac⟩
 |.LtE=>ae ⟨.le,ac⟩
 |.Gt=>ae ⟨.gt,ac⟩
 |.In=>ae ⟨.isin,ac⟩
 |.NotIn=>ae ⟨.mP,ac⟩
 |.Is=>ae ⟨.X6 (),ac⟩
 |_=>aC
noncomputable abbrev Tr(T:aK->PE->Prop):=(e:aK)->aS {p:PE//T e p}
section
variable{T:aK->PE->Prop}(r:Tr T)
noncomputable def GN:(es:af aK)->aS {ps:af PE//Ak T es ps}
 |[]=>ae ⟨[],.nil⟩
 |e::es=>gq (noStar e) λh=>(r e).bind λp=>(GN es).bind λps=>ae ⟨p.1::ps.1,.cons p.2 h ps.2⟩
noncomputable def YH(sc:aX)(e:aK):aS {s:Src//nM T sc e s}:=(Nc e).bind λh=>(r e).bind λp=>ae ⟨.seq p.1,.seq p.2 h.1.1⟩
noncomputable abbrev yh(f:aA)(es:af aK)(e:aK):Prop:=∃fp pos,e=.Call (.Name (aB f) fp) es [] pos
theorem KX{f x:aA}{e g:aK}{es:af aK}{pos:bu}(h:∃p,g=.Name (aB x) p)(h2:x=f)(h3:e=.Call g es [] pos):yh f es e:=by refine eh h λp z2=>?_;subst z2;subst h2;exact⟨p,pos,h3⟩
noncomputable def isCall(f:aA)(e:aK):aS {es:af aK//yh f es e}:=
 (UZ e).bind λq=>(nameP q.1.1).bind λx=>gq (bh (x.1=f)) λh=>ae ⟨q.1.2.1,KX x.2 (cA h) q.2⟩
theorem nM.QG{sc:aX}{e a:aK}{p:PE}(h:yh "range" [a] e)(g:sr sc "range")(t:T a p)(n:noStar a=aj):nM T sc e (.range p):=h.elim λ_ h=>h.elim λ_ e=>e▸.range g t n
theorem nM.VQ{sc:aX}{e a:aK}{p:PE}(h:yh "enumerate" [a] e)(g:sr sc "enumerate")(t:T a p)(n:noStar a=aj):nM T sc e (.nW p):=h.elim λ_ h=>h.elim λ_ e=>e▸.nW g t n
theorem nM.YI{sc:aX}{e a b:aK}{p q:PE}(h:yh "zip" [a,b] e)(g:sr sc "zip")(t:T a p)(u:T b q)(n:noStar a=aj)(k:noStar b=aj):nM T sc e (.zip p q):=h.elim λ_ h=>h.elim λ_ e=>e▸.zip g t u n k
noncomputable def Nf(sc:aX)(e:aK):aS {s:Src//nM T sc e s}:=(isCall "range" e).bind λ
 |⟨[a],h⟩=>(Em sc "range").bind λg=>gq (noStar a) λn=>(r a).bind λp=>ae ⟨.range p.1,.QG h g.1 p.2 n⟩
 |_=>aC
noncomputable def QH(sc:aX)(e:aK):aS {s:Src//nM T sc e s}:=(isCall "enumerate" e).bind λ
 |⟨[a],h⟩=>(Em sc "enumerate").bind λg=>gq (noStar a) λn=>(r a).bind λp=>ae ⟨.nW p.1,.VQ h g.1 p.2 n⟩
 |_=>aC
noncomputable def VS(sc:aX)(e:aK):aS {s:Src//nM T sc e s}:=(isCall "zip" e).bind λ
 |⟨[a,b],h⟩=>(Em sc "zip").bind λg=>gq (noStar a) λn=>gq (noStar b) λk=>(r a).bind λp=>(r b).bind λq=>ae ⟨.zip p.1 q.1,.YI h g.1 p.2 q.2 n k⟩
 |_=>aC
noncomputable def orElse{α:Type}:aS α->aS α->aS α
 |some a,_=>ae a
 |none,b=>b
noncomputable def Nh(sc:aX)(e:aK):aS {s:Src//nM T sc e s}:=orElse (Nf r sc e) (orElse (QH r sc e) (orElse (VS r sc e) (YH r sc e)))
noncomputable def YJ(sc:aX):(gs:af fY)->aS {hs:af Gen//QD T sc gs hs}
 |[]=>ae ⟨[],.nil⟩
 |⟨fe,it,ifs,0⟩::gs=>(VP fe).bind λxs=>(Nh r sc it).bind λsrc=>gq (oi src.1 xs.1) λh=>(GN r ifs).bind λqs=>(YJ sc gs).bind λhs=>ae ⟨.mk xs.1 src.1 qs.1::hs.1,.cons xs.2 h src.2 qs.2 hs.2⟩
 |_=>aC
end
section
variable{T:aX->aK->PE->Prop}(r:(sc:aX)->Tr (T sc))(sc:aX)
noncomputable abbrev Ni(e:aK):=aS {p:PE//eJ T sc e p}
noncomputable def trC{k:ag}{pos:bu}:(c:Const)->Ni (T:=T) sc (.Constant c k pos)
 |.none=>ae ⟨_,.none⟩
 |.bool _=>ae ⟨_,.bool⟩
 |.int _=>ae ⟨_,.int⟩
 |.str x=>(VN x).bind λy=>ae ⟨_,.str y.2⟩
 |_=>aC
noncomputable def VT(pos:bu)(f:aK)(es:af aK):Ni (T:=T) sc (.Call f es [] pos):=orElse
 ((nameP f).bind λg=>(Em sc g.1).bind λh=>gq (!(ce.contains g.1)) λ_=>(GN (r sc) es).bind λps=>orElse
   (gq (["Heap","Bank","Unions","Walker","Joint"].contains g.1) λ_=>gq (bh (g.1≠"")) λh1=>ae ⟨.new g.1 ps.1,.new g.2 (cA h1) h.1 ps.2⟩)
   (ae ⟨.call g.1 ps.1,.fn g.2 h.1 ps.2⟩))
 ((Na f).bind λq=>(Nb (aB q.1.2.1) q.1.1).bind λh=>gq (q.1.2.2.endLine==pos.line) λh1=>gq (bh (es.length<29)) λh2=>(r sc q.1.1).bind λp=>(GN (r sc) es).bind λps=>
   ae ⟨.cu p.1 q.1.2.1 ps.1,.cu q.2 h.1 h1 (cA h2) p.2 ps.2⟩)
noncomputable def LT(pos:bu)(f:aK):(es:af aK)->Ni (T:=T) sc (.Call f es [] pos)
 |[a]=>(nameP f).bind λg=>gq (ce.contains g.1) λh1=>(Em sc g.1).bind λh=>gq (noStar a) λh2=>(r sc a).bind λp=>ae ⟨.bi g.1 p.1,.bi g.2 (Br.mp h1) h.1 p.2 h2⟩
 |_=>aC
noncomputable def GO(f h g:aA)(m:(f,h,g)∈M7){pos:bu}{x c:aK}(hx:∃p,x=.Name (aB f) p):Ni (T:=T) sc (.Call x [c] [] pos):=(isCall h c).bind λ
 |⟨[a],hc⟩=>(Em sc f).bind λg1=>(Em sc h).bind λg2=>gq (noStar a) λn=>(r sc a).bind λp=>ae ⟨.bi g p.1,.nest m hx hc g1.1 g2.1 p.2 n⟩
 |_=>aC
theorem Nj{c y a:aK}{x z:aA}{ap p2:bu}(h:y=.Attribute a (aB x) ap)(h2:x=z)(h3:c=.Call y [] [] p2):c=.Call (.Attribute a (aB z) ap) [] [] p2:=by subst h;subst h2;exact h3
noncomputable def IZ(f g:aA)(m:(f,g)∈GI){pos:bu}{x c:aK}(hx:∃p,x=.Name (aB f) p):Ni (T:=T) sc (.Call x [c] [] pos):=(UZ c).bind λ
 |⟨(y,[],p2),hc⟩=>(Na y).bind λq=>gq (bh (q.1.2.1="items")) λe2=>(Em sc f).bind λg1=>(Nb (aB "items") q.1.1).bind λb=>gq (q.1.2.2.endLine==p2.line) λn=>(r sc q.1.1).bind λp=>
   ae ⟨.bi g p.1,.items m hx (Nj q.2 (cA e2) hc) g1.1 b.1 n p.2⟩
 |_=>aC
noncomputable def Ne(pos:bu)(x:aK):(es:af aK)->Ni (T:=T) sc (.Call x es [] pos)
 |[c]=>(nameP x).bind λf=>orElse (gq (bh (f.1="sorted")) λe=>have hx:=cA e▸f.2;orElse (GO r sc "sorted" "set" "sortedSet" (.head _) hx) (IZ r sc "sorted" "sortedItems" (.head _) hx))
   (orElse (gq (bh (f.1="len")) λe=>GO r sc "len" "set" "lenSet" (.tail _ (.head _)) (cA e▸f.2))
    (gq (bh (f.1="list")) λe=>have hx:=cA e▸f.2;orElse (GO r sc "list" "range" "listRange" (.tail _ (.tail _ (.head _))) hx) (IZ r sc "list" "listItems" (.tail _ (.head _)) hx)))
 |_=>aC
noncomputable def No(e:aK):aS (qR (∃k p,e=.Constant (.int 1) k p)):=match e,vw e with
 |_,.const (.int i) k p=>gq (bh (i=1)) λh=>ae ⟨k,p,cA h▸ac⟩
 |_,_=>aC
noncomputable def YK{a:aK}(p:{p:PE//T sc a p})(pos:bu)(i:aK):Ni (T:=T) sc (.Subscript a i pos):=match i,vw i with
 |_,.slice (ae c) aC aC _=>(No c).bind λh=>ae ⟨.gB p.1,.gB h.1 p.2⟩
 |_,.slice aC (ae b) aC _=>(r sc b).bind λq=>ae ⟨.gV p.1 q.1,.gV p.2 q.2⟩
 |i,_=>(Nc i).bind λh=>(r sc i).bind λq=>ae ⟨.idx p.1 q.1,.idx h.1.2 p.2 q.2⟩
noncomputable def VU(pos:bu):(ks:af (aS aK))->(vs:af aK)->Ni (T:=T) sc (.Dict ks vs pos)
 |[],[]=>ae ⟨_,.kT⟩
 |[ae a,ae c],[b,d]=>(r sc a).bind λp=>(r sc b).bind λq=>(r sc c).bind λu=>(r sc d).bind λw=>ae ⟨_,.r8 p.2 q.2 u.2 w.2⟩
 |_,_=>aC
theorem eJ.ofCmp{a b:aK}{o:CmpOp}{o':GD}{p q:PE}{pos:bu}(e:o=iy o')(h:Bh o b=aQ)(t:T sc a p)(u:T sc b q):eJ T sc (.Compare a [o] [b] pos) (.cmp o' p q):=by subst e;exact .cmp h t u
theorem eJ.VV{a b c:aK}{o o':CmpOp}{k k':GD}{p q u:PE}{pos:bu}(e:o=iy k)(e':o'=iy k')(h:Bj [o,o'] [b,c]=aQ)(x:T sc a p)(y:T sc b q)(z:T sc c u):eJ T sc (.Compare a [o,o'] [b,c] pos) (.xX p k q k' u):=by subst e;subst e';exact .xX h x y z
theorem eJ.ofBin{a b:aK}{o:Operator}{o':Op}{p q:PE}{pos:bu}(e:o=KU o')(t:T sc a p)(u:T sc b q):eJ T sc (.BinOp a o b pos) (.bin o' p q):=by subst e;exact .bin t u
noncomputable def VW{a:aK}(p:{p:PE//T sc a p})(pos:bu):(os:af CmpOp)->(bs:af aK)->Ni (T:=T) sc (.Compare a os bs pos)
 |[o],[b]=>(Nd o).bind λk=>gq (!Bh o b) λh=>(r sc b).bind λq=>ae ⟨.cmp k.1 p.1 q.1,.ofCmp sc k.2 (oT _▸h) p.2 q.2⟩
 |[o,o'],[b,c]=>(Nd o).bind λk=>(Nd o').bind λk'=>gq (!Bj [o,o'] [b,c]) λh=>(r sc b).bind λq=>(r sc c).bind λu=>ae ⟨.xX p.1 k.1 q.1 k'.1 u.1,.VV sc k.2 k'.2 (oT _▸h) p.2 q.2 u.2⟩
 |_,_=>aC
noncomputable def On{elt:aK}{scope:aX}{pos:bu}:(gs:af fY)->Ni (T:=T) sc (.ListComp elt gs scope pos)
 |⟨fe,it,ifs,0⟩::gs=>(VP fe).bind λxs=>(Nh (r sc) sc it).bind λsrc=>gq (oi src.1 xs.1) λh=>(GN (r (gD scope sc)) ifs).bind λqs=>(YJ (r (gD scope sc)) (gD scope sc) gs).bind λhs=>
   (YG sc scope (dA (.mk xs.1 src.1 qs.1::hs.1))).bind λc=>(r (gD scope sc) elt).bind λpe=>ae ⟨_,.comp c.1 xs.2 h src.2 qs.2 hs.2 pe.2⟩
 |_=>aC
noncomputable def VX:(e:aK)->Ni (T:=T) sc e
 |.Constant c _ _=>trC sc c
 |.Name x _=>(VN x).bind λy=>gq (oh sc y.1) λh=>gq (!(aB y.1==("__debug__":aM))) λk=>ae ⟨.var y.1,.var y.2 h (oT _▸k)⟩
 |.Tuple es _ _=>gq (bh (es.length<=1000)) λh=>(GN (r sc) es).bind λps=>ae ⟨.tup ps.1,.tup ps.2 (cA h)⟩
 |.List es _=>(GN (r sc) es).bind λps=>ae ⟨.list ps.1,.list ps.2⟩
 |.Dict ks vs pos=>VU r sc pos ks vs
 |.BinOp a o b _=>(LE o).bind λk=>(r sc a).bind λp=>(r sc b).bind λq=>ae ⟨.bin k.1 p.1 q.1,.ofBin sc k.2 p.2 q.2⟩
 |.UnaryOp .Not a _=>(r sc a).bind λp=>ae ⟨_,.not p.2⟩
 |.UnaryOp .USub a _=>(r sc a).bind λp=>ae ⟨_,.neg p.2⟩
 |.Compare a os bs pos=>(r sc a).bind λp=>VW r sc p pos os bs
 |.BoolOp .And [a,b] _=>(r sc a).bind λp=>(r sc b).bind λq=>ae ⟨_,.and p.2 q.2⟩
 |.BoolOp .Or [a,b] _=>(r sc a).bind λp=>(r sc b).bind λq=>ae ⟨_,.or p.2 q.2⟩
 |.IfExp t a b _=>(r sc t).bind λu=>(r sc a).bind λp=>(r sc b).bind λq=>ae ⟨_,.ite u.2 p.2 q.2⟩
 |.Subscript a i pos=>(r sc a).bind λp=>YK r sc p pos i
 |.Attribute a x _=>(VN x).bind λy=>gq (gW.contains y.1) λh=>(Nb (aB y.1) a).bind λb=>(r sc a).bind λp=>ae ⟨.attr p.1 y.1,.attr y.2 (Br.mp h) b.1 p.2⟩
 |.Call f es [] pos=>orElse (Ne r sc pos f es) (orElse (LT r sc pos f es) (VT r sc pos f es))
 |.ListComp _ gs _ _=>On r sc gs
 |_=>aC
end
noncomputable def trE:(k:ag)->(sc:aX)->Tr (QE k sc)
 |0=>λ_ _=>aC
 |k+1=>λsc=>VX (trE k) sc
theorem TL.nm{sc:aX}{e:aK}{x:aA}(h:∃p,e=.Name (aB x) p)(o:gC sc x=aj):TL sc e (.name x):=by refine eh h λ_ z1=>?_;subst z1;exact .name o
theorem TL.at_{sc:aX}{e a:aK}{x:aA}{p:PE}{pos:bu}(h:e=.Attribute a (aB x) pos)(o:x∈gW)(t:TE sc a p):TL sc e (.attr p x):=by subst h;exact .attr o t
theorem TL.two{sc:aX}{a b:aK}{x y:aA}{k:ag}{pos:bu}(h:∃p,a=.Name (aB x) p)(h':∃p,b=.Name (aB y) p)(o:gC sc x=aj)(o':gC sc y=aj)(n:x≠y):TL sc (.Tuple [a,b] k pos) (.names [x,y]):=by refine eh h λ_ z3=>?_;subst z3;refine eh h' λ_ z2=>?_;subst z2;exact .names o o' n
noncomputable def trL{k:ag}{sc:aX}(r:Tr (QE k sc))(e:aK):aS {p:PT//TL sc e p}:=match e,vw e with
 |_,.name x p=>(nameP (.Name x p)).bind λs=>gq (gC sc s.1) λh=>ae ⟨.name s.1,.nm s.2 h⟩
 |_,.attr a x p=>(Na (.Attribute a x p)).bind λq=>gq (gW.contains q.1.2.1) λh=>(r q.1.1).bind λp=>ae ⟨.attr p.1 q.1.2.1,.at_ q.2 (Br.mp h) ⟨k,p.2⟩⟩
 |_,.sub e i _=>(r e).bind λp=>(r i).bind λq=>ae ⟨.idx p.1 q.1,.idx ⟨k,p.2⟩ ⟨k,q.2⟩⟩
 |_,.tup [a,b] _ _=>(nameP a).bind λx=>(nameP b).bind λy=>gq (gC sc x.1) λh1=>gq (gC sc y.1) λh2=>gq (bh (x.1≠y.1)) λh3=>ae ⟨.names [x.1,y.1],.two x.2 y.2 h1 h2 (cA h3)⟩
 |_,_=>aC
theorem Nk{α:Type}{c:Prop} [sF c] {a b:α} (h:b=a):(if c then a else b)=a:=by(refine az h ?_;rewrite[ite_self];rfl)
theorem VY{sc:aX}{x y:aM}{p1 p2 vp pos:bu}{k kk:ag}{vs:af aK}(h:(sc.names.lookup x !=ae .local||sc.names.lookup y !=ae .local)=aj)(env:bD)(e:env.scope=sc):IU [.Tuple [.Name x p1,.Name y p2] k pos] (.Tuple vs kk vp) env=bB aC:=by
 subst e;refine Nk (Nk (aF<|Bool.or_eq_true_iff.mpr (.inl ?_)));have h:(!(env.kindOf x==ae .local)||!(env.kindOf y==ae .local))=aj:=h;refine az qS<|az qS<|az List.filterMap_nil ?_;dsimp only;generalize(env.kindOf x==ae .local)=a at h⊢;generalize(env.kindOf y==ae .local)=b at h⊢;generalize(p2.line==_)=d;generalize(p1.line==_)=c;induction a with
 |false=>generalize(b&&d)=q;induction q<;>rfl
 |true=>induction b with
  |false=>induction c<;>rfl
  |true=>exact ff h
noncomputable abbrev Bs(sc:aX)(t v:aK):Prop:=∀env:bD,env.scope=sc->IU [t] v env=bB aC
noncomputable def Os(sc:aX)(x y:aA){pos:bu}{k:ag}(v:aK):aS (qR (∀p q,Bs sc (.Tuple [.Name (aB x) p,.Name (aB y) q] k pos) v)):=match v,vw v with
 |_,.tup vs kk vp=>gq (sc.names.lookup (aB x)!=ae .local||sc.names.lookup (aB y)!=ae .local) λh=>ae ⟨λ_ _=>VY h⟩
 |_,.call _ _ _=>ae ⟨λ_ _ _ _=>ac⟩
 |_,.name _ _=>ae ⟨λ_ _ _ _=>ac⟩
 |_,_=>aC
theorem VZ{sc:aX}{a b v:aK}{x y:aA}{k:ag}{pos:bu}(h:∃p,a=.Name (aB x) p)(h':∃p,b=.Name (aB y) p)(g:∀p q,Bs sc (.Tuple [.Name (aB x) p,.Name (aB y) q] k pos) v):Bs sc (.Tuple [a,b] k pos) v:=by refine eh h λp z5=>?_;subst z5;refine eh h' λq z4=>?_;subst z4;exact g p q
noncomputable def YL(sc:aX)(v t:aK):aS (qR (Bs sc t v)):=match t,vw t with
 |_,.name _ _=>ae ⟨λ_ _=>ac⟩
 |_,.attr _ _ _=>ae ⟨λ_ _=>ac⟩
 |_,.sub _ _ _=>ae ⟨λ_ _=>ac⟩
 |_,.tup [a,b] _ _=>(nameP a).bind λx=>(nameP b).bind λy=>(Os sc x.1 y.1 v).bind λh=>ae ⟨VZ x.2 y.2 λp q=>h.1 p q⟩
 |_,_=>aC
noncomputable def V0(e:aK):aY:=e.ctorIdx==8||e.ctorIdx==9||e.ctorIdx==10
theorem YM{e:aK}(h:(!V0 e)=aj)(t:aS aK)(l:ag)(env:bD):Bl e t l env=bB aQ:=by cases e<;>first|rfl|exact ff h
noncomputable def Nn(sc:aX)(x:aM)(tp:bu)(scope:aX)(cp:bu):aY:=
 sc.names.lookup x==ae .local&&tp.line==cp.line&&!(scope.names.any λ(n,k)=>n==x&&(k==.local||k==.cell))
theorem I0{sc:aX}{x:aM}{tp:bu}{elt:aK}{gens:af fY}{scope:aX}{cp:bu}{l:ag}{b:aY}(hk:sc.kind=.function)(h:Nn sc x tp scope cp=b)(env:bD)(e:env.scope=sc):Bl (.ListComp elt gens scope cp) (ae (.Name x tp)) l env=bB b:=by
 subst e;subst h;show bB (env.blockKind==ScopeKind.function&&env.kindOf x==ae .local&&tp.line==cp.line&&!(scope.names.any λ(n,k)=>n==x&&(k==.local||k==.cell)))=_;have:env.blockKind=.function:=by unfold Env.blockKind;refine az hk ?_;rfl
 exact az this ac
section
variable{k:ag}{sc:aX}(hk:sc.kind=.function)(r:Tr (QE k sc)){B:af d6->af PS->Prop}(b:(ss:af d6)->aS {ps:af PS//B ss ps})
noncomputable abbrev Sn(B:af d6->af PS->Prop)(sc:aX)(s:d6):=aS {p:PS//TS B sc s p}
noncomputable def QI(t e:aK)(pos:bu):Sn B sc (.Assign [t] e pos):=
 gq (!V0 e) λh=>(YL sc e t).bind λg=>(trL r t).bind λpt=>(r e).bind λp=>ae ⟨.assign pt.1 p.1,.assign pt.2 ⟨k,p.2⟩ λenv he=>⟨YM h _ _ _,g.1 env he⟩⟩
noncomputable def V1(elt:aK)(gs:af fY)(scope:aX)(cp:bu)(x:aM)(tp:bu)(pos:bu):Sn B sc (.Assign [.Name x tp] (.ListComp elt gs scope cp) pos):=
 (VN x).bind λs=>gq (gC sc s.1) λh=>(r (.ListComp elt gs scope cp)).bind λp=>orElse
  (gq (Nn sc x tp scope cp) λu=>ae ⟨.assign (.name s.1) p.1,by
   obtain⟨s,rfl⟩:=s;exact .used h ⟨k,p.2⟩ λenv he=>I0 hk u env he⟩)
  (gq (!Nn sc x tp scope cp) λu=>ae ⟨.assign (.name s.1) p.1,by
   obtain⟨s,rfl⟩:=s;exact .assign (.name h) ⟨k,p.2⟩ λenv he=>⟨I0 (l:=pos.line) hk (oT _▸u) env he,ac⟩⟩)
noncomputable def Np(pos:bu)(t e:aK):Sn B sc (.Assign [t] e pos):=match e,vw e with
 |_,.comp elt gs scope cp=>(match t,vw t with
  |_,.name x tp=>V1 hk r elt gs scope cp x tp pos
  |_,_=>aC)
 |e,_=>QI r t e pos
noncomputable def QJ:(s:d6)->Sn B sc s
 |.Assign [t] e pos=>Np hk r pos t e
 |.Expr e _=>gq (!V0 e) λh=>(r e).bind λp=>ae ⟨_,.expr ⟨k,p.2⟩ λenv=>YM h _ _ _⟩
 |.Return aC _=>ae ⟨_,.YD⟩
 |.Return (ae e) _=>(r e).bind λp=>ae ⟨_,.ret ⟨k,p.2⟩⟩
 |.If t x y _=>(r t).bind λu=>(b x).bind λp=>(b y).bind λq=>ae ⟨_,.iff ⟨k,u.2⟩ p.2 q.2⟩
 |.For fe it body [] _=>(VP fe).bind λxs=>(Nh r sc it).bind λsrc=>gq (oi src.1 xs.1) λh1=>gq (xs.1.all (gC sc)) λh2=>(b body).bind λps=>ae ⟨_,.loop xs.2 h1 (eH.mp h2) (src.2.up k) ps.2⟩
 |.While t body [] _=>(r t).bind λu=>(b body).bind λps=>ae ⟨_,.while ⟨k,u.2⟩ ps.2⟩
 |_=>ae ⟨_,.fail⟩
noncomputable def YN:(ss:af d6)->aS {ps:af PS//X8 B sc ss ps}
 |[]=>ae ⟨[],.nil⟩
 |s::ss=>(QJ hk r b s).bind λp=>(YN ss).bind λps=>ae ⟨p.1::ps.1,.cons p.2 ps.2⟩
noncomputable def YO:(j:ag)->(ss:af d6)->aS {ps:af PS//cr j sc ss ps}
 |0=>λ_=>aC
 |j+1=>YN hk r (YO j)
end
theorem GP:∀(ns:af aM)(vs:af ak)(n:aM),vs.length=ns.length->n∈ns->∃v,(ns.zip vs).lookup n=ae v:=by
 intro ns;induction ns with
 |nil=>exactλ_ _ _ h=>aV h gu
 |cons a ns ih=>
  intro vs n h m;cases vs with
  |nil=>exact nomatch h
  |cons v vs=>
  refine az wI<|az jI ?_;cases q:n==a with
  |true=>exact⟨v,ac⟩
  |false=>exact ih vs n (tA h) ((ci.mp m).resolve_left λe=>by(replace q:=e▸q;rewrite[gE] at q);cases q)
theorem KY:∀(ns:af aM)(vs:af ak)(f:aM->aS ak),vs.length=ns.length->ns.Nodup->(∀n∈ns,f n=(ns.zip vs).lookup n)->ns.filterMap (λn=>(f n).map λv=>(n,v))=ns.zip vs:=by
 intro ns;induction ns with
 |nil=>exactλ_ _ _ _ _=>ac
 |cons a ns ih=>
  intro vs f h d hf;cases vs with
  |nil=>exact nomatch h
  |cons v vs=>
  refine fB (eV.mp d) λna d=>?_;have e:f a=ae v:=by(refine az (hf a lD) ?_;refine az wI ?_;refine az jI ?_;rewrite[gE];rfl)
  rw[qS,e,ih vs f (tA h) d λn m=>by
   refine az (hf n (iY _ m))<|az wI<|az jI<|az (jG.mpr λq:n=a=>na (q▸m)) ?_;rfl]
  rfl
theorem KZ{ns:af aM}{vals:af ak}(hl:vals.length=ns.length)(hn:ns.Nodup){E1 E2:cX (af (aM×ak))}{f:aM×ak->af (aM×ak)->cX (Bt (af (aM×ak)))}:
  (if(bh (vals.length>ns.length)&&aj)=aj then E1 else if(!(List.filter (λn=>((ns.zip vals).lookup n).isNone) (List.take (ns.length-(Bu (0-ns.length) ([]:af ak)).length) ns)).isEmpty)=aj then E2 else do
   let s<-nN ((Bu (ns.length-(Bu (0-ns.length) ([]:af ak)).length) ns).zip (Bu (0-ns.length) ([]:af ak))) (ns.zip vals) f
   bB ((ns++[]).filterMap λn=>(s.lookup n).map (n,·)))=bB (ns.zip vals):=by
 refine az List.drop_nil<|az List.zip_nil_right ?_
 rewrite[lr]
 refine az (aG (by refine az hl ?_;simp)) ?_
 rewrite[aG]
 ·exact bf (bB (f:=cX)) (KY _ vals _ hl hn λ_ _=>ac)
 ·have hf:(List.take (ns.length-0) ns).filter (λn=>((ns.zip vals).lookup n).isNone)=[]:=by
   rw[QK]
   intro n hn
   exact eh (GP _ vals n hl (QL hn)) λv hv=>az hv (λh=>nomatch h)
  exact az wJ<|az hf (λh=>nomatch h)
theorem GQ(fd:qP)(vals:af ak)(hpo:fd.params.posonlyargs=[])(hva:fd.params.vararg=aC)(hko:fd.params.kwonlyargs=[])(hkw:fd.params.kwarg=aC)(hd:fd.defaults=.none)(hn:(fd.params.args.map (·.arg)).Nodup)(hl:vals.length=fd.params.args.length):bindArgs fd ⟨vals,[]⟩=bB ((fd.params.args.map (·.arg)).zip vals):=by obtain⟨f1,f2,ps,f4,f5,f6,f7,df,f9,f10,f11,f12,f13,f14,f15⟩:=fd;obtain⟨po,ar,va,ko,p1,kw,p2⟩:=ps;dsimp only at*;subst hpo;subst hva;subst hko;subst hkw;subst hd;exact KZ (by(refine hl.trans ?_;rewrite[be];rfl)) hn
noncomputable def lf(o:aS cM):aO:=o.elim yg (Heap.push yg)
theorem Bv{h:aO}{a:ao}:(lf (h.get? a)).get? 0=h.get? a:=by
 cases e:h.get? a with
 |none=>rfl
 |some o=>exact cT yg (Heap.get?_some_iff.mp e).2
noncomputable abbrev Gt:=ao->aS cM
noncomputable def U0(g:Gt)(a:ao)(f:aA):aS ak:=(lf (g a)).nsMap 0 (aB f)
noncomputable def YQ(g:Gt)(a:ao):aY:=(lf (g a)).isNs 0
theorem sP{h:aO}{a:ao}{f:aA}:U0 h.get? a f=h.nsMap a (aB f):=by unfold U0 Heap.nsMap;rw[Bv]
theorem Bw{h:aO}{a:ao}:YQ h.get? a=h.isNs a:=by unfold YQ Heap.isNs;rw[Bv]
noncomputable def QM(g:Gt)(n:ag):jm:=(c5 n).filterMap λa=>(g a).map λo=>(a,o)
theorem QN(h:aO):(QM h.get? h.objs.size).In h:=by
 intro a o e
 have:∀l:af ag,(l.filterMap λa=>(h.get? a).map λo=>(a,o)).lookup a=ae o->h.get? a=ae o:=by
  intro l;induction l with
  |nil=>intro e;exact eP e
  |cons b l ih=>
   intro e;replace e:=qS▸e;cases q:h.get? b with
   |none=>replace e:=q▸e;exact ih e
   |some o'=>
    replace e:=q▸e;dsimp only[wK] at e;rw[jI] at e;cases q2:a==b with
    |true=>replace e:=q2▸e;(replace e:=aU e;subst e);refine az (jp.mp q2) ?_;exact q
    |false=>replace e:=q2▸e;exact ih e
 exact this _ e
noncomputable def K0(g:Gt)(f:aA):aS ak:=match U0 g fZ f with
 |some v=>ae v
 |none=>U0 g tN f
noncomputable def refOf:aS ak->aS ao
 |some (.ref a)=>ae a
 |_=>aC
noncomputable def QO:af aA:=["Heap","Bank","Unions","Walker","Joint"]
noncomputable def clsAt(g:Gt)(c:aA):aS ao:=gd (QO.contains c) (refOf (U0 g fZ c))
noncomputable def fnAt(g:Gt)(K:jm)(c f:aA):aS ao:=match c=="" with
 |true=>refOf (U0 g fZ f)
 |false=>(clsAt g c).bind λC=>(iW K (.ref C) (aB f)).bind refOf
theorem mw{v:aS ak}{a:ao}(e:refOf v=ae a):v=ae (.ref a):=by
 induction v with
 |none=>exact eP e
 |some v=>induction v<;>first|exact bf (λa=>ae (oU a)) (aU e)|exact eP e
theorem tP{C:Prop}{α:Type}{o:aS α}{f:α->aY}(e:o.any f=aj)(h:∀a,o=ae a->f a=aj->C):C:=by
 induction o with
 |none=>exact ff e
 |some a=>exact h a ac e
noncomputable def cdG(g:Gt)(v:ak)(q:aM):aY:=(refOf (ae v)).any λc=>(lf (g c)).codeRecOk (.ref 0) q
theorem V2{h:aO}{v:ak}{q:aM}(e:cdG h.get? v q=aj):h.CodeRec v q:=tP e λc h1 h2=>by refine az (aU (mw h1)) (.of_ok ?_);unfold Heap.codeRecOk at h2⊢;dsimp only at h2⊢;rw[Bv] at h2;exact h2
noncomputable def YR(g:Gt)(fd:qP)(xs:af aA):aY:=
 fd.closure.isEmpty&&(fd.globals==fZ&&(fd.builtins==tN&&(cdG g fd.code fd.qualname&&(fd.params.posonlyargs.isEmpty&&(fd.params.vararg.isNone&&(fd.params.kwonlyargs.isEmpty&&(fd.params.kwarg.isNone&&
 (fd.defaults==.none&&(bh (fd.params.args.map (·.arg)).Nodup&&(bh (fd.scope.kind=.function)&&(!fd.scope.isCoroutine&&(!fd.scope.isGenerator&&(fd.scope.names.all (·.2 !=.free)&&(bh (fd.scope.names.map (·.1)).Nodup&&
 (xs.all (gC fd.scope)&&bh xs.Nodup)))))))))))))))
noncomputable def I5:FuncBody->aS (af d6)
 |.stmts b=>ae b
 |_=>aC
noncomputable def Nq(o:cM):aS qP:=match o.data with
 |.func fd=>ae fd
 |_=>aC
theorem En{o:cM}{fd:qP}(e:Nq o=ae fd):o.data=.func fd:=by obtain⟨_,_,d,_⟩:=o;induction d<;>first|exact bf Data.func (aU e)|exact eP e
theorem Bx{b:FuncBody}{l:af d6}(e:I5 b=ae l):b=.stmts l:=by induction b<;>first|exact bf FuncBody.stmts (aU e)|exact eP e
noncomputable def I8:(l:af Arg)->aS {xs:af aA//l.map (·.arg)=xs.map aB}
 |[]=>ae ⟨[],ac⟩
 |a::l=>(VN a.arg).bind λx=>(I8 l).bind λxs=>ae ⟨x.1::xs.1,congr (bf Nr x.2) xs.2⟩
theorem YS{W:Wd}{a:ao}{o:cM}{fd:qP}{body:af d6}{xs:af aA}{ps:af PS}(h1:W.h₀.get? a=ae o)(h2:o.data=.func fd)(h3:fd.body=.stmts body)(hn:fd.params.args.map (·.arg)=xs.map aB)(h5:YR W.h₀.get? fd xs=aj)(t:UW fd.scope body ps):VM W a ⟨xs,ps⟩:=by have a1:=cb.mp h5;have a2:=cb.mp a1.2;have a3:=cb.mp a2.2;have a4:=cb.mp a3.2;have a5:=cb.mp a4.2;have a6:=cb.mp a5.2;have a7:=cb.mp a6.2;have a8:=cb.mp a7.2;have a9:=cb.mp a8.2;have a10:=cb.mp a9.2;have Pi:=cb.mp a10.2;have a12:=cb.mp Pi.2;have a13:=cb.mp a12.2;have a14:=cb.mp a13.2;have a15:=cb.mp a14.2;have a16:=cb.mp a15.2;refine⟨o,fd,body,h1,h2,V2 a4.1,h3,wL.mp a1.1,gX a2.1,gX a3.1,λvals hl=>az (GQ fd vals (wL.mp a5.1) (QP.mp a6.1) (wL.mp a7.1) (QP.mp a8.1) (gX a9.1) (cA a10.1) (by(refine az hl ?_;refine dm (be (f:=aB) (as:=xs)) ?_;refine dm hn ?_;rewrite[be];rfl))) ?_,eH.mp a16.1,cA a16.2,cA Pi.1,oT _▸a12.1,oT _▸a13.1,λp hp=>I9.mp (eH.mp a14.1 p hp),cA a15.1,t⟩;exact az hn ac
noncomputable def trB(fd:qP)(body:af d6):aS {ps:af PS//UW fd.scope body ps}:=gq (bh (fd.scope.kind=.function)) λk=>(YO (cA k) (trE 24 fd.scope) 10 body).bind λps=>ae ⟨ps.1,10,ps.2⟩
noncomputable def Ps(g:Gt)(a:ao):aS PF:=
 (g a).bind λo=>(Nq o).bind λfd=>(I5 fd.body).bind λbody=>(I8 fd.params.args).bind λxs=>gd (YR g fd xs.1) ((trB fd body).bind λps=>ae ⟨xs.1,ps.1⟩)
theorem oV{C:Prop}{α β:Type}{o:aS α}{f:α->aS β}{b:β}(e:o.bind f=ae b)(h:∀a,o=ae a->f a=ae b->C):C:=let⟨a,p,q⟩:=wM.mp e;h a p q
theorem V3{W:Wd}{a:ao}{pf:PF}(e:Ps W.h₀.get? a=ae pf):VM W a pf:=
 oV e λo h1 e=>oV e λfd h2 e=>oV e λbody h3 e=>oV e λxs _ e=>IY e λh5 e=>oV e λps _ e=>aU e▸YS h1 (En h2) (Bx h3) xs.2 h5 ps.2
noncomputable def Nt(K:jm)(C:ao):aY:=
 iW K (.ref C) "__getattribute__"==ae (ae (.builtin "object.__getattribute__"))&&(iW K (.ref C) "__getattr__"==ae aC&&(iW K (.ref C) "__setattr__"==ae (ae (.builtin "object.__setattr__"))&&
 (IT K C&&((clsIn K C).any (·.hasDict)&&(makesIn K C&&(qQ K (.ref C)&&gW.all λx=>iW K (.ref C) (aB x)==ae aC))))))
noncomputable def U1(K:jm)(a:ao):aY:=typeIn K (.ref a)==ae (.type "function")&&qQ K (.ref a)
noncomputable def tQ(g:Gt)(n:ag)(K:jm):aY:=
 bh (gk<n)&&((YQ g cStatics&&(U0 g cStatics "sys.recursionlimit").isNone)&&(YQ g fZ&&(YQ g tN&&((kI.all λp=>K0 g p.1==ae p.2)&&((QO.all λc=>(clsAt g c).any (Nt K))&&
 (yc.all λk=>(fnAt g K k.1.1 k.1.2).any (U1 K)&&(k.1.1==""||QO.contains k.1.1)))))))
noncomputable def By(g:Gt)(K:jm):af (aS PF):=yc.map λk=>(fnAt g K k.1.1 k.1.2).bind (Ps g)
noncomputable abbrev qp(h:aO):jm:=QM h.get? h.objs.size
noncomputable def QQ(p:mV)(w:d7)(h:aO):Wd:=⟨p,w,clsAt h.get?,h,qp h,prog,fnAt h.get? (qp h),K0 h.get?⟩
structure YT(K:jm)(C:ao):Prop where
 q1:iW K (.ref C) "__getattribute__"=ae (ae (.builtin "object.__getattribute__"))
 q2:iW K (.ref C) "__getattr__"=ae aC
 q3:iW K (.ref C) "__setattr__"=ae (ae (.builtin "object.__setattr__"))
 q4:IT K C=aj
 q5:(clsIn K C).any (·.hasDict)=aj
 q6:makesIn K C=aj
 q7:qQ K (.ref C)=aj
 q8:∀x∈gW,iW K (.ref C) (aB x)=ae aC
theorem Pv{K:jm}{C:ao}(h:Nt K C=aj):YT K C:=
 have h1:=cb.mp h
 have h2:=cb.mp h1.2
 have h3:=cb.mp h2.2
 have h4:=cb.mp h3.2
 have h5:=cb.mp h4.2
 have h6:=cb.mp h5.2
 have h7:=cb.mp h6.2
 ⟨gX h1.1,gX h2.1,gX h3.1,h4.1,h5.1,h6.1,h7.1,λx hx=>gX (eH.mp h7.2 x hx)⟩
theorem Nu{α β:Type}{f g:α->β}{a:α}:∀{l:af α},l.map f=l.map g->a∈l->f a=g a
 |x::l,e,m=>(ci.mp m).elim (λq=>q▸(fk e).1) λm=>Nu (fk e).2 m
theorem lookup_mem{α β:Type} [BEq α] [LawfulBEq α] {l:af (α×β)} {a:α} {b:β} (e:l.lookup a=ae b):(a,b)∈l:=by
 induction l with
 |nil=>exact eP e
 |cons x l ih=>
  obtain⟨x,y⟩:=x;rw[jI] at e;cases q:a==x with
  |true=>replace e:=q▸e;(replace e:=aU e;subst e);refine az (gX q) ?_;exact lD
  |false=>replace e:=q▸e;exact iY _ (ih e)
theorem Nv{p:mV}{w:d7}{h:aO}(e1:tQ h.get? h.objs.size (qp h)=aj)(e2:By h.get? (qp h)=yc.map λk=>ae k.2):(QQ p w h).Ok:=by
 have j1:=cb.mp e1;have j2:=cb.mp j1.2;have j3:=cb.mp j2.2;have j4:=cb.mp j3.2;have j5:=cb.mp j4.2;have j6:=cb.mp j5.2;have k7:=eH.mp j6.2;have V4:∀c C,clsAt h.get? c=ae C->YT (qp h) C/\h.nsMap fZ (aB c)=ae (.ref C):=λc C e=>
  IY e λh1 h2=>tP ((eH.mp j6.1) c (Br.mp h1)) λC' h3 h4=>by exact⟨Pv ((aU (h3.symm.trans e))▸h4),(sP▸mw h2)⟩
 have Nw:∀c f pf,prog c f=ae pf->∃a,fnAt h.get? (qp h) c f=ae a/\U1 (qp h) a=aj/\(c=""\/QO.contains c=aj)/\Ps h.get? a=ae pf:=λc f pf e=>by have m:=lookup_mem e;have k:=cb.mp (k7 _ m);refine tP k.1 λa h1 h2=>⟨a,h1,h2,(Nx.mp k.2).imp gX id,?_⟩;have:=Nu (a:=((c,f),pf)) e2 m;replace this:=(h1)▸this;exact this
 have gv:∀{f:aA}{v:ak},h.nsMap fZ (aB f)=ae v->K0 h.get? f=ae v:=λe=>by unfold K0;(refine az (sP.trans e) ?_;rfl)
 constructor
 case UY=>exact QN h
 case Bo=>rfl
 case mods=>exact cA j1.1
 case IV=>exact .of_ok (by unfold Heap.noLimitOk;exact Bw▸sP▸j2.1)
 case co=>
  intro c C e;have q:=(V4 c C e).1;exact⟨q.q1,q.q2,q.q3,q.q4,q.q5⟩
 case make=>
  intro c C e;have q:=V4 c C e;exact⟨q.1.q6,gv q.2,q.1.q7⟩
 case fo=>exactλx hx c C e=>(V4 c C e).1.q8 x hx
 case glob=>
  refine⟨_,_,.of_isNs (Bw▸j3.1),.of_isNs (Bw▸j4.1),λf v e=>?_⟩;have e:K0 h.get? f=ae v:=e;unfold K0 at e;rw[sP,sP] at e;cases q:h.nsMap fZ (aB f) with
  |some u=>replace e:=q▸e;exact .inl (q.trans e)
  |none=>replace e:=q▸e;exact .inr ⟨q,e⟩
 case im=>exactλq hq=>gX (eH.mp j5.1 q hq)
 case func=>
  intro f pf e;exact xU (Nw "" f pf e) λa h1 h2 _ _=>⟨a,h1,gv (sP▸mw h1),(cb.mp h2).2⟩
 case cu=>
  intro c f pf e hc;refine xU (Nw c f pf e) λa h1 h2 h3 _=>?_;have h2:=cb.mp h2;have MP:=h1;unfold fnAt at h1;replace h1:=(jG.mpr hc)▸h1;exact oV h1 λC h4 h5=>oV h5 λr h6 h7=>⟨C,a,h4,MP,((mw h7)▸h6),gX h2.1,h2.2⟩
 case fns=>
  intro c f pf a e h1;exact xU (Nw c f pf e) λa' h2 _ _ h3=>V3 ((km (aU (h1.symm.trans h2)))▸h3)
end
section
open PySem PySem.W PyProof.Rows PySem.Challenge
noncomputable abbrev pw:mV:=gF.prog
noncomputable def qv:mV:={pw with main:={pw.main with body:=pw.main.body.drop 24}}
noncomputable def oW:af aM:=pw.boundNames.filter λn=>n !=("law":aM)&&n !=("__name__":aM)
noncomputable def nP:bu:=⟨0,0,0,0⟩
noncomputable def QR:bD:={scope:=pw.main.scope,locals:=mainNs,globals:=mainNs,cells:=[],code:=.ref 13,frame:=ae 14}
noncomputable def U2:Code:=.body (Bz pw) QR
noncomputable def oA:af cM:=
 [{cls:=.type "tuple",data:=.seq #[]},{cls:=.none,data:=.fields #[]},
  {cls:=.type "code",data:=.fields #[.str (aB "<module>") 182,.str (aB "<module>") 183,.str (aB "/claim/cut.py") 184,.int 1 0,.int 0 0,.int 0 0,.int 0 0,.int 0 0,.ref 11,.bool aQ,.int 181 0,.ref 12,.none,.none,.none,.none,.int 185 0,.int 1 0,.str (aB "/claim/cut.py") 186]},
  {cls:=.type "frame",slots:=#[ae (.ref 13),ae (.ref 3),ae (.ref 3),aC,ae (.str (aB "__main__") 164),aC,ae (.ref 0)]}]
noncomputable def Ja(P:Params):aO:={objs:=⟨(oX P).objs.toList++oA⟩}
noncomputable def U4:af cM->ag->BT->BT
 |[],_,t=>t
 |o::os,n,t=>U4 os (n+1) (t.ins n o)
noncomputable def YU(P:Params):BT:=U4 (Ja P).objs.toList 0 .nil
noncomputable def SA(w:d7)(os:OsState):wN:=⟨YU w.params,15,{},#[],BA,187,os⟩
theorem Re:opening pw=plainProg pw.main.scope.names:=by rfl
theorem Rs(s:aq):fenceModules? pw s=ae s:=by rfl
theorem QS:∀w:d7,(λos=>topGo jJ pw w 11 (ae (.ref 6)) 12 ⟨oX w.params,#[],BA,boot_toks,os⟩ (topStub pw))=λos=>ae (⟨Ja w.params,#[],BA,187,os⟩,⟨denote jJ U2,U2,nP,[oY nP]⟩):=by intro w;kernel_rfl
theorem K3:∀w:d7,(λos=>segRun jJ pw w 11 (ae (.ref 6)) 1 1 ⟨Ja w.params,#[],BA,187,os⟩ (blockOf (Bz pw) QR U2 nP [oY nP]))=λos=>ae (.next,(SA w os).abs,U2,nP):=by intro w;kernel_rfl
theorem K4:∀w:d7,((oX w.params).isNs fZ&&(#[]:bj GenState).size==0,(oX w.params).objs.size,(oX w.params).nsMap fZ "__annotations__")=(aj,11,ae (.ref 6)):=by intro w;kernel_rfl
theorem QT(w:d7)(S:aq)(c:Code)(pos:bu):topRun jJ pw w 11 (ae (.ref 6)) 2 S ⟨doneF .next,c,pos,[oY nP]⟩=ae S:=by rfl
noncomputable def Sc(s:aq):aY:=recOk (RowW.records gF.row.toRowW) s
noncomputable def YV{α:Type}(Yt:wN->α)(w:d7)(s:wN):=
 ((BB (tR pw.main.body) (oX w.params) s.abs.heap&&BC pw s.abs.heap&&BD s.abs&&BE (oX w.params) s.abs.heap),openSeen qv oW (tR pw.main.body) Sc aj s.abs,Yt s)
noncomputable def YW(w:d7)(os:OsState):=segRunT jJ pw w 11 (ae (.ref 6)) 1 6000 (SA w os) (piecesOf (Bz pw) QR U2 nP [oY nP])
noncomputable abbrev BF{α:Type}(Yt:wN->α)(Ya:d7->α):Prop:=∀w:d7,(λos=>(YW w os).map λx=>(x.1,x.2.2.1,YV Yt w x.2.1))=λos=>ae (.next,U2,aj,openGood qv oW,Ya w)
theorem GR{tb:aA->aS Builtin}{p:mV}{w:d7}{N m:ag}{ann:aS ak}{oj cW:aq}(a:(oj.heap.isNs fZ&&oj.gens.size==0,oj.heap.objs.size,oj.heap.nsMap fZ "__annotations__")=(aj,m,ann))(r:topRun tb p w m ann N oj (topStub p)=ae cW)(l:(BB (tR p.main.body) oj.heap cW.heap&&BC p cW.heap&&BD cW&&BE oj.heap cW.heap)=aj):topFrom tb p w N oj=ae cW:=by
 obtain⟨z1,z2,z3⟩:_/\_/\_:=by simpa only[QU] using a
 unfold topFrom;rw[z1,z2,z3];dsimp only;rw[r];show(match BB (tR p.main.body) oj.heap cW.heap&&BC p cW.heap&&BD cW&&BE oj.heap cW.heap with|true=>ae cW|false=>aC)=_;rw[l]
theorem Ny{p q:mV}{loose:af aM}{Xt:aq->aY}{α:Type}{Yf:aq->α}{Ya:d7->α}{N n m:ag}{ann:aS ak}{H HA:Params->aO}{d:Drawn}{k k':ag}{env:bD}{b:af d6}{c:Code}{pos q₀:bu}{T:d7->OsState->wN}(he:∀w:d7,(fencedOpening jJ p w N).map (λs=>(s.heap,s.gens,s.drawn,s.toks))=ae (H w.params,#[],d,k))(hs:∀w:d7,((H w.params).isNs fZ&&(#[]:bj GenState).size==0,(H w.params).objs.size,(H w.params).nsMap fZ "__annotations__")=(aj,m,ann))(hp:∀w:d7,(λos=>topGo jJ p w m ann 12 ⟨H w.params,#[],d,k,os⟩ (topStub p))=λos=>ae (⟨HA w.params,#[],d,k',os⟩,⟨denote jJ (.body b env),c,pos,[oY q₀]⟩))(hb:∀w:d7,(λos=>segRun jJ p w m ann 1 1 ⟨HA w.params,#[],d,k',os⟩ (blockOf b env c pos [oY q₀]))=λos=>ae (.next,(T w os).abs,c,pos))(hf:∀(w:d7) (S:aq) (pos:bu),topRun jJ p w m ann 2 S ⟨doneF .next,c,pos,[oY q₀]⟩=ae S)(hN:12+(1+(n+2))<=N)(h:∀w:d7,(λos=>(segRunT jJ p w m ann 1 n (T w os) (piecesOf b env c pos [oY q₀])).map λx=>(x.1,x.2.2.1,((BB (tR p.main.body) (H w.params) x.2.1.abs.heap&&BC p x.2.1.abs.heap&&BD x.2.1.abs&&BE (H w.params) x.2.1.abs.heap),openSeen q loose (tR p.main.body) Xt aj x.2.1.abs,Yf x.2.1.abs)))=λos=>ae (.next,c,aj,openGood q loose,Ya w)):LeftO p q loose Xt Yf Ya N:=λw=>by
 obtain⟨⟨yi,gs,d',k'',os⟩,e,e'⟩:=lE.mp (he w);obtain⟨rfl,rfl,rfl,rfl⟩:yi=H w.params/\gs=#[]/\d'=d/\k''=k:=by simpa using e'
 obtain⟨⟨f,S,c',pos'⟩,e1,e2⟩:=lE.mp (congrFun (h w) os);simp only[QU] at e2;obtain⟨rfl,rfl,l1,l2,l3⟩:=e2;have r1:=piece_app (env:=env) (rest:=[]) (segRun_of e1) (piece_nil (hf w S.abs pos'));rw[lr] at r1;have r2:=go_top (congrFun (hp w) os) (piece_block (congrFun (hb w) os) r1);have r3:=topRun_mono (N-(12+(1+(n+2)))) _ _ _ _ r2;rw[wO hN] at r3;unfold openEnds;rw[e];show(topFrom jJ p w N _).map _=_;rw[GR (hs w) r3 l1];exact bf ae (Prod.ext l2 l3)
theorem QV{α:Type}{Yf:aq->α}{Ya:d7->α}(h:BF (λs=>Yf s.abs) Ya):LeftO pw qv oW Sc Yf Ya 7000:=
 Ny (n:=6000) (H:=oX) (HA:=Ja) (T:=SA) (env:=QR) (c:=U2) (pos:=nP) (q₀:=nP) (b:=Bz pw) (boot_open (N:=7000) Re ac Rs) K4 QS K3 (λw S pos=>QT w S U2 pos) (by decide) h
theorem SB:gF.wellSaid=aj:=by rw[show@OpenLaw.wellSaid=_ from PySem.W.Fast.te9446332074065402090];kernel_rfl
theorem Eo:(defOf qv gF.row.name).isSome=aj:=by decide+kernel
noncomputable def su:DefRec×af (aM×aK):=(defOf qv gF.row.name).get Eo
theorem QW:defOf qv gF.row.name=ae (su.1,su.2):=(Option.some_get Eo).symm
theorem QX:gF.row.prog.theDef gF.row.name=ae (su.1.params,su.1.body,su.1.scope):=by kernel_rfl
theorem V5:kwWritten? su.1.params.kwonlyargs su.1.params.kw_defaults=ae su.2:=by kernel_rfl
theorem V6:(chainsOk qv&&opensWell gF.row.prog&&(frees gF.row.toRowW&&gF.row.within.isEmpty))=aj:=by decide+kernel
theorem Nz:gF.row.prog.bare:=⟨ac,ac,ac,ac,ac,by decide+kernel⟩
theorem QY:gF.row.toRowW.promised:=by w_witness2
theorem head{α:Type}{Yf:aq->α}{Ya:d7->α}{YP:d7->aO->Prop}(hY:∀w s,Yf s=Ya w->YP w s.heap)(hYk:∀w h h',YP w h->(∀b o,h.get? b=ae o->h'.get? b=ae o)->YP w h')(h:BF (λs=>Yf s.abs) Ya)
  (call:WalkO qv oW (λ_ _=>iZ) YP gF.row.toRowW su.1 su.2 λf vs=>cf f vs):gF.Holds:=
 holds_law SB λk1=>holds_open (Xt:=Sc) (QV h) hY hYk (λ_ _=>bp) (λ_ _ _ _ _=>bp) QW QX V5 (λs e=>recFacts_of e) ac k1 V6 Nz QY call
noncomputable def BG(g:Gt)(n:Nat):Bool:=(List.range n).all λa=>(g a).any λo=>o.cls !=.type "list"
noncomputable def NA(g:Gt)(n:Nat):=(tQ g n (QM g n)&&BG g n,By g (QM g n))
noncomputable def U5(s:Shared):=NA s.heap.get? s.heap.objs.size
noncomputable def YX(s:SharedT)(a:Addr):Option Obj:=cond (Nat.blt a s.n) ((s.tree.get a).elim (s.abs.heap.get? a) alive) none
theorem QZ{α β:Type}{o:Option α}{f:α->β}{b:β}(h:∀a,o=some a->b=f a):b=o.elim b f:=by
 induction o with
 |none=>rfl
 |some a=>exact h a rfl
theorem Q0{α:Type}{b:Bool}{x y z:α}(h:b=true->x=y)(k:b=false->x=z):x=cond b y z:=by
 induction b with
 |true=>exact h rfl
 |false=>exact k rfl
theorem Q1(s:SharedT):s.abs.heap.get?=YX s:=
 funext λ_=>Q0 (λe=>QZ λ_=>abs_get (Nat.le_of_ble_eq_true e)) λe=>abs_get_none λh=>ff (e.symm.trans (Nat.ble_eq_true_of_le h))
theorem whole:BF (λs=>U5 s.abs) λ_=>(true,yc.map λk=>some k.2):=by rw[show(λs:SharedT=>U5 s.abs)=λs=>NA (YX s) s.n from funext λs=>congr (congrArg NA (Q1 s)) (absHeap_size _ _ _)];unfold BF YW;rw[show@segRunT=_ from PySem.W.Fast.te10110043849684766642,show treeTable=_ from PySem.W.Fast.te14364793385576792824];intro w;kernel_rfl
end
section
open PySem PySem.W PyProof.Rows PySem.SeqAt PySem.Calls
noncomputable abbrev mM(s:aq):ag:=s.heap.objs.size
theorem qq{H:aO}{b I:ao}{o:cM}(e:H.get? b=ae o)(h:H.objs.size<=I):b≠I:=b8 (Qx (cB e) h)
theorem Am(h:aO)(a:ao)(f:cM->cM):(h.update a f).objs.size=h.objs.size:=(dF h a f).1
theorem vb{M:gY}{Γ:Ctx}{p:bu}{t:cX lF}{fs:af Frame}{s s':aq}{e:End}(h:Runs M Γ p t fs s e s'):s.heap.objs.size<=s'.heap.objs.size:=by induction h<;>(try simp only[Shared.setGen,Am,eW] at*)<;>omega
theorem BH{M:gY}{Γ:Ctx}{p:bu}{s s':aq}{r:jq}(h:Returns M Γ p s r s'):mM s<=mM s':=vb h
theorem GS{M:gY}{Γ:Ctx}{p:bu}{g:ag}{r:Resume}{s s':aq}{res:GenResult}(h:Wakes M Γ p g r s res s'):mM s<=mM s':=by
 unfold Wakes at h;split at h
 ·induction h
 ·split at h
  ·obtain⟨_,cW,hr,_,_,rfl⟩:=h;exact(vb hr:(s.setGen g .running).heap.objs.size<=cW.heap.objs.size)
  ·rw[h.2];exact aP (mM s)
  ·rw[h.2];exact aP (mM s)
 ·obtain⟨_,cW,hr,_,_,rfl⟩:=h;exact(vb hr:(s.setGen g .running).heap.objs.size<=cW.heap.objs.size)
 ·rw[h.2];exact aP (mM s)
 ·rw[h.2];exact aP (mM s)
theorem Q2{α:Type}(M:gY)(Γ:Ctx)(n:ag)(t:cX α):∀(Q:α->bu->aq->Prop)(E:ak->bu->aq->Prop)(p:bu)(s:aq),n<=mM s->Sem.wp M Γ t Q E p s->Sem.wp M Γ t (λa p' s'=>n<=mM s'/\Q a p' s') (λe p' s'=>n<=mM s'/\E e p' s') p s:=by
 induction t with
 |pure a=>intro Q E p s hn h;exact⟨hn,h⟩
 |raise e=>intro Q E p s hn h;exact⟨hn,h⟩
 |unsupported _=>intro Q E p s _ h;exact h
 |finish _=>intro Q E p s _ h;exact h
 |rule _ k ih=>intro Q E p s hn h;exact ih () Q E p s hn h
 |«at» p' k ih=>intro Q E p s hn h;exact ih () Q E p' s hn h
 |load a _ k ih=>intro Q E p s hn ⟨o,ho,h⟩;exact⟨o,ho,ih o Q E p s hn h⟩
 |update a _ f k ih=>intro Q E p s hn h;exact⟨h.1,ih () Q E p _ (by show n<=(s.heap.update a f).objs.size;rw[Am];exact hn) h.2⟩
 |loadIfAlive a k ih=>intro Q E p s hn h;exact ih _ Q E p s hn h
 |point _ k ih=>intro Q E p s hn h;exact ih () Q E p s hn h
 |register _ _=>intro Q E p s _ h;exact h
 |alloc o k ih=>intro Q E p s hn h;exact ih _ Q E p _ (by show n<=(s.heap.push o).objs.size;rw[eW];exact Nat.le_succ_of_le hn) h
 |fresh k ih=>intro Q E p s hn h;exact ih _ Q E p _ hn h
 |ask k ih=>intro Q E p s hn h;exact ih _ Q E p s hn h
 |choose src m k ih=>intro Q E p s hn h;exact⟨h.1,ih _ Q E p _ hn h.2⟩
 |os q _ k ih=>intro Q E p s hn h;exact ih _ Q E p _ hn h
 |call c hd _ _ k ih=>intro Q E p s hn ⟨r,s',hr,h⟩;exact⟨r,s',hr,ih r Q E p s' (oO hn (BH hr)) h⟩
 |handled own k ih=>intro Q E p s hn h;exact ih _ Q E p s hn h
 |genState g k ih=>intro Q E p s hn ⟨st,hs,h⟩;exact⟨st,hs,ih _ Q E p s hn h⟩
 |newGen c k ih=>intro Q E p s hn h;exact ih _ Q E p _ hn h
 |resume g r _ k ih=>intro Q E p s hn ⟨res,s',hw,h⟩;exact⟨res,s',hw,ih res Q E p s' (oO hn (GS hw)) h⟩
 |yield _ _ _ _=>intro Q E p s _ h;exact h
 |stack k ih=>intro Q E p s hn h;exact ih _ Q E p s hn h
 |fork _ _=>intro Q E p s _ h;exact h
 |thread k ih=>intro Q E p s hn h;exact ih _ Q E p s hn h
 |await _ _ _ _ _=>intro Q E p s _ h;exact h
theorem bG{α:Type}{M:gY}{A:aW}{s:aq}{t:cX α}{Q:α->aq->Prop}{E:ak->aq->Prop}(n:ag)(hn:n<=s.heap.objs.size)
  (h:aw M A t (λa s'=>n<=s'.heap.objs.size->Q a s') (λe s'=>n<=s'.heap.objs.size->E e s') s):aw M A t Q E s:=
 λΓ p lw=>Sem.wp_mono M Γ _ (λ_ _ _ x=>x.2 x.1) (λ_ _ _ x=>x.2 x.1) _ _ (Q2 M Γ n t _ _ p s hn (h Γ p lw))
noncomputable def Tp(h:aO)(ρ:af ao)(a:ao)(items:bj ak):Prop:=a∉ρ/\∃n,h.get? a=ae {cls:=.type "tuple",dict:=aC,data:=.seq items n,slots:=#[]}
theorem Tp.ex{h:aO}{ρ:af ao}{a:ao}{items:bj ak}(t:Tp h ρ a items):∃n,h.get? a=ae {cls:=.type "tuple",dict:=aC,data:=.seq items n,slots:=#[]}:=t.2
theorem Tp.is{h:aO}{ρ:af ao}{a:ao}{items:bj ak}(t:Tp h ρ a items):h.IsTuple a items:=let⟨_,n,e⟩:=t;⟨_,e,ac,n,ac⟩
theorem Tp.same{h:aO}{ρ:af ao}{a:ao}{i j:bj ak}(t:Tp h ρ a i)(u:Tp h ρ a j):i=j:=
 eh t.ex λ_ e=>eh u.ex λ_ e'=>(Data.seq.inj (bf BI (aU (e.symm.trans e')))).1
mutual
inductive VR(h:aO)(ρ:af ao):ak->V->Prop
 |none:VR h ρ .none .none
 |bool(b:aY):VR h ρ (.bool b) (.bool b)
 |int(i:aJ)(t:Tok):VR h ρ (.int i t) (.int i)
 |str(x:aM)(t:Tok):VR h ρ (.str x t) (.str x)
 |tup{a:ao}{items:bj ak}{vs:af V}:Tp h ρ a items->eB h ρ items.toList vs->VR h ρ (.ref a) (.tup vs)
 |ref{i:ag}{a:ao}:ρ[i]?=ae a->VR h ρ (.ref a) (.ref i)
inductive eB(h:aO)(ρ:af ao):af ak->af V->Prop
 |nil:eB h ρ [] []
 |cons{v':ak}{v:V}{fG:af ak}{vs:af V}:VR h ρ v' v->eB h ρ fG vs->eB h ρ (v'::fG) (v::vs)
end
section
variable{h h':aO}{ρ dP:af ao}
noncomputable def dc(h:aO)(ρ:af ao)(h':aO)(dP:af ao):Prop:=∀(a:ao)(items:bj ak),Tp h ρ a items->Tp h' dP a items
noncomputable def Pre(ρ dP:af ao):Prop:=∀(i:ag)(a:ao),ρ[i]?=ae a->dP[i]?=ae a
theorem VR.mono(k:dc h ρ h' dP)(p:Pre ρ dP){v':ak}{v:V}(x:VR h ρ v' v):VR h' dP v' v:=
 VR.rec (motive_1:=λv' v _=>VR h' dP v' v) (motive_2:=λa b _=>eB h' dP a b) .none .bool .int .str (λt _ i=>.tup (k _ _ t) i) (λe=>.ref (p _ _ e)) .nil (λ_ _ a b=>.cons a b) x
theorem eB.mono(k:dc h ρ h' dP)(p:Pre ρ dP){fG:af ak}{vs:af V}(x:eB h ρ fG vs):eB h' dP fG vs:=
 eB.rec (motive_1:=λv' v _=>VR h' dP v' v) (motive_2:=λa b _=>eB h' dP a b) .none .bool .int .str (λt _ i=>.tup (k _ _ t) i) (λe=>.ref (p _ _ e)) .nil (λ_ _ a b=>.cons a b) x
@[elab_as_elim]theorem eB.GU{l:af ak}{p:af ak->Prop}(x:eB h ρ l [])(k:p []):p l:=
 eB.casesOn (motive_2:=λl vs _=>vs=[]->p l) x (λ_=>k) (λ_ _ e=>(yj _ _ e).elim) ac
@[elab_as_elim]theorem eB.Ao{l:af ak}{v:V}{vs:af V}{p:af ak->Prop}(x:eB h ρ l (v::vs))(k:∀v' l',VR h ρ v' v->eB h ρ l' vs->p (v'::l')):p l:=
 eB.casesOn (motive_2:=λl us _=>us=v::vs->p l) x (λe=>(yj _ _ e.symm).elim) (λa b e=>k _ _ ((fk e).1▸a) ((fk e).2▸b)) ac
theorem eB.length{fG:af ak}{vs:af V}(x:eB h ρ fG vs):fG.length=vs.length:=by
 induction vs generalizing fG with
 |nil=>exact x.GU ac
 |cons v vs ih=>exact x.Ao λ_ _ a b=>bf (·+1) (ih b)
theorem eB.get{fG:af ak}{vs:af V}(x:eB h ρ fG vs):∀{i:ag}{v:V},vs[i]?=ae v->∃v',fG[i]?=ae v'/\VR h ρ v' v:=by
 induction vs generalizing fG with
 |nil=>exactλe=>eP (tS.symm.trans e)
 |cons w vs ih=>
  intro i v e;refine x.Ao λv' l a b=>?_;induction i with
  |zero=>exact⟨_,ac,aU e▸a⟩
  |succ i=>exact ih b e
theorem eB.get'{fG:af ak}{vs:af V}(x:eB h ρ fG vs):∀{i:ag}{v':ak},fG[i]?=ae v'->∃v,vs[i]?=ae v/\VR h ρ v' v:=by
 induction vs generalizing fG with
 |nil=>exact x.GU λe=>eP (tS.symm.trans e)
 |cons w vs ih=>
  intro i v;refine x.Ao λv' l a b=>?_;induction i with
  |zero=>exactλe=>⟨_,ac,aU e▸a⟩
  |succ i=>exact ih b
theorem eB.append{a' b':af ak}{a b:af V}(x:eB h ρ a' a)(y:eB h ρ b' b):eB h ρ (a'++b') (a++b):=by
 induction a generalizing a' with
 |nil=>exact x.GU y
 |cons v a ih=>exact x.Ao λ_ _ p q=>.cons p (ih q)
theorem eB.snoc{a':af ak}{v':ak}{a:af V}{v:V}(x:eB h ρ a' a)(y:VR h ρ v' v):eB h ρ (a'++[v']) (a++[v]):=x.append (.cons y .nil)
theorem eB.take{a':af ak}{a:af V}(x:eB h ρ a' a):∀n:ag,eB h ρ (a'.take n) (a.take n):=by
 induction a generalizing a' with
 |nil=>exact x.GU λn=>by induction n<;>exact .nil
 |cons v a ih=>
  refine x.Ao λ_ _ p q n=>?_;induction n with
  |zero=>exact .nil
  |succ n=>exact .cons p (ih q n)
theorem eB.drop{a':af ak}{a:af V}(x:eB h ρ a' a):∀n:ag,eB h ρ (a'.drop n) (a.drop n):=by
 induction a generalizing a' with
 |nil=>exact x.GU λn=>by induction n<;>exact .nil
 |cons v a ih=>
  refine x.Ao λ_ _ p q n=>?_;induction n with
  |zero=>exact .cons p q
  |succ n=>exact ih q n
theorem eB.set{a':af ak}{a:af V}{v':ak}{v:V}(x:eB h ρ a' a)(y:VR h ρ v' v):∀n:ag,eB h ρ (a'.set n v') (a.set n v):=by
 induction a generalizing a' with
 |nil=>exact x.GU λn=>.nil
 |cons w a ih=>
  refine x.Ao λ_ _ p q n=>?_;induction n with
  |zero=>exact .cons y q
  |succ n=>exact .cons p (ih q n)
theorem Aq{n:ag}{vs:af V}(p:V.fq n (.tup vs)=aj):∃m,n=m+1/\V.ej m vs=aj:=by
 induction n with
 |zero=>exact ff p
 |succ m=>exact⟨m,ac,p⟩
@[elab_as_elim]theorem dG{n:ag}{v':ak}{v:V}{motive:ak->V->Prop}(p:V.fq n v=aj)(x:VR h ρ v' v)(k1:∀i t,motive (.int i t) (.int i))(k2:∀z t,motive (.str z t) (.str z))
  (k3:∀m a items vs,n=m+1->V.ej m vs=aj->Tp h ρ a items->eB h ρ items.toList vs->motive (.ref a) (.tup vs)):motive v' v:=
 VR.casesOn (motive_1:=λv' v _=>V.fq n v=aj->motive v' v) x ff (λ_=>ff) (λ_ _ _=>k1 _ _) (λ_ _ _=>k2 _ _) (λt r p=>bH (Aq p) λm e q=>k3 m _ _ _ e q t r) (λ_=>ff) p
theorem d9{n:ag}{v:V}{vs:af V}(h:V.ej n (v::vs)=aj):v.fq n=aj/\V.ej n vs=aj:=cb.mp h
theorem d5{n:ag}{vs:af V}(h:V.ej n vs=aj):∀v∈vs,v.fq n=aj:=by
 induction vs with
 |nil=>exactλ_ m=>(gu m).elim
 |cons v vs ih=>exactλ_ m=>(ci.mp m).elim (λe=>e▸(d9 h).1) (ih (d9 h).2 _)
theorem eB.Ar{n k:ag}(IH:∀v w v',v.fq n=aj->w.fq k=aj->VR h ρ v' v->VR h ρ v' w->v=w)(vs:af V):∀(ws:af V)(fG:af ak),V.ej n vs=aj->V.ej k ws=aj->eB h ρ fG vs->eB h ρ fG ws->vs=ws:=by
 induction vs with
 |nil=>exactλws _ _ _ x y=>(List.eq_nil_of_length_eq_zero (y.length.symm.trans x.length)).symm
 |cons v vs ih=>
  intro ws;induction ws with
  |nil=>exactλ_ _ _ x y=>nomatch x.length.symm.trans y.length
  |cons w ws _=>exactλ_ pv pw x=>x.Ao λv' l a b y=>bH (y.get (i:=0) ac) λv1 e a1=>(IH _ _ _ (d9 pv).1 (d9 pw).1 a (aU e▸a1))▸(ih _ _ (d9 pv).2 (d9 pw).2 b (y.drop 1))▸ac
noncomputable def VRI(h:aO)(ρ:af ao)(w:V):ak->Prop
 |.int i _=>w=.int i
 |.str x _=>w=.str x
 |.ref a=>(∃items vs,w=.tup vs/\Tp h ρ a items/\eB h ρ items.toList vs)\/∃i,w=.ref i/\ρ[i]?=ae a
 |_=>iZ
theorem VR.K5{v':ak}{w:V}(y:VR h ρ v' w):VRI h ρ w v':=VR.casesOn (motive_1:=λv' w _=>VRI h ρ w v') y bp (λ_=>bp) (λ_ _=>ac) (λ_ _=>ac) (λt r=>.inl ⟨_,_,ac,t,r⟩) (λp=>.inr ⟨_,ac,p⟩)
theorem VR.unique(v w:V)(n k:ag)(v':ak)(pv:v.fq n=aj)(pw:w.fq k=aj)(x:VR h ρ v' v)(y:VR h ρ v' w):v=w:=by
 induction n generalizing v w k v' with
 |zero=>revert y;exact dG pv x (λi t y=>y.K5.symm) (λz t y=>y.K5.symm) λm a items vs e=>nomatch e
 |succ n ih=>
  revert y;exact dG pv x (λi t y=>y.K5.symm) (λz t y=>y.K5.symm) λm a items vs e pv t r y=>
   y.K5.elim (λh=>kS h λSL ws z t' r'=>bH (Aq (z▸pw)) λk' _ q=>z▸bf V.tup (eB.Ar (λv w v'=>ih v w k' v') _ _ _ (tA e▸pv) q r (t.same t'▸r'))) λh=>bH h λi z p=>ff (z▸pw:V.fq k (.ref i)=aj)
end
theorem V.beq_refl(v:V):V.beq v v=aj:=
 V.rec (motive_1:=λv=>V.beq v v=aj) (motive_2:=λvs=>V.oR vs vs=aj) ac gE gE gE (λ_ h=>h) gE ac (λ_ _ h k=>cb.mpr ⟨h,k⟩) v
theorem V.eq_of_beq(v:V):∀w,V.beq v w=aj->v=w:=by
 refine V.rec (motive_1:=λv=>∀w,V.beq v w=aj->v=w) (motive_2:=λvs=>∀ws,V.oR vs ws=aj->vs=ws) ?_ ?_ ?_ ?_ ?_ ?_ ?_ ?_ v
 ·exactλw e=>by cases w<;>first|rfl|exact ff e
 ·exactλb w e=>by cases w<;>first|exact bf V.bool (gX (show(b==_)=aj from e))|exact ff e
 ·exactλi w e=>by cases w<;>first|exact bf V.int (gX (show(i==_)=aj from e))|exact ff e
 ·exactλs w e=>by cases w<;>first|exact bf V.str (gX (show(s==_)=aj from e))|exact ff e
 ·exactλvs ih w e=>by cases w<;>first|exact bf V.tup (ih _ e)|exact ff e
 ·exactλa w e=>by cases w<;>first|exact bf V.ref (gX (show(a==_)=aj from e))|exact ff e
 ·exactλws e=>by cases ws<;>first|rfl|exact ff e
 ·exactλv vs h ih ws e=>by
   cases ws with
   |nil=>exact ff e
   |cons w ws=>exact fB (cb.mp (show(V.beq v w&&V.oR vs ws)=aj from e)) λe1 e2=>congr (bf Nr (h w e1)) (ih ws e2)
theorem V.beq_iff{v w:V}:V.beq v w=aj↔v=w:=⟨V.eq_of_beq v w,λe=>e▸V.beq_refl v⟩
theorem V.qT(v:af V):V.oR v v=aj:=V.beq_refl (.tup v)
theorem V.tT{v w:af V}:V.oR v w=aj↔v=w:=⟨λe=>V.tup.inj (V.eq_of_beq (.tup v) (.tup w) e),λe=>e▸V.qT v⟩
theorem V.beq_comm(v w:V):V.beq v w=V.beq w v:=by rw[V7,V.beq_iff,V.beq_iff];exact eq_comm
theorem yl(vs:af V):∀ws:af V,((c5 (min vs.length ws.length)).all (λj=>V.beq (vs.getD j .none) (ws.getD j .none))&&vs.length==ws.length)=V.oR vs ws:=by
 induction vs with
 |nil=>intro ws;induction ws<;>rfl
 |cons v vs ih=>
  intro ws;induction ws with
  |nil=>rfl
  |cons w ws _=>exact az (Q3 _ _)<|az Q4<|az List.all_cons<|az List.all_map<|az (Bool.and_assoc _ _ _) (bf (V.beq v w&&·) ((bf (_&&·) (by simp)).trans (ih ws)))
section
variable{s:aq}{ρ:af ao}
theorem eB.item{h:aO}{items:bj ak}{vs:af V}(r:eB h ρ items.toList vs){j:ag}(hj:j<items.size):∃h1:j<vs.length,VR h ρ items[j] vs[j]/\vs.getD j .none=vs[j]:=by
 have hl:j<vs.length:=by refine dm r.length ?_;trivial
 refine bH (r.get (dq hl)) λv0 e x=>?_;rw[dS,jK hj] at e;exact(aU e)▸⟨hl,x,by(refine az (Jb) ?_;refine az (dq hl) ?_);rfl⟩
theorem om(v w:V)(n k:ag)(A:aW)(v' w':ak)(pv:v.fq n=aj)(pw:w.fq k=aj)(x:VR s.heap ρ v' v)(y:VR s.heap ρ w' w)(hu:A.units+n<b6):EqAt A s v' w' (V.beq v w):=by
 induction n generalizing v w k A v' w' with
 |zero=>
  refine dG pv x (λi t=>?_) (λz t=>?_) λm a items vs e=>nomatch e
  ·exact dG pw y (λj u=>EqAt.int_int _ _ _ _) (λ_ _=>EqAt.int_str _ _ _ _) λm a items vs e pv t r=>Q5 _ _ t.is (by assumption)
  ·exact dG pw y (λj u=>EqAt.str_int _ _ _ _) (λ_ _=>EqAt.str_str _ _ _ _) λm a items vs e pv t r=>Q6 _ _ t.is (by assumption)
 |succ n ih=>
  refine dG pv x (λi t=>?_) (λz t=>?_) λm a items vs e pv t r=>?_
  ·exact dG pw y (λj u=>EqAt.int_int _ _ _ _) (λ_ _=>EqAt.int_str _ _ _ _) λm a items vs e pv t r=>Q5 _ _ t.is (rL (bc _ _) hu)
  ·exact dG pw y (λj u=>EqAt.str_int _ _ _ _) (λ_ _=>EqAt.str_str _ _ _ _) λm a items vs e pv t r=>Q6 _ _ t.is (rL (bc _ _) hu)
  cases e;refine dG pw y (λj u=>EqAt.tuple_int _ _ t.is (by exact rL (bc _ _) hu)) (λ_ _=>EqAt.tuple_str _ _ t.is (by lia)) λk' b dB ws e pw t2 r2=>?_;by_cases zC:a=b
  ·induction zC;cases t.same t2;refine az (eB.Ar (λv w v'=>VR.unique v w n k' v') _ _ _ pv pw r r2) ?_;rewrite[V.beq_refl];exact EqAt.same _
  ·have key:=EqAt.of_refs zC (RcAt.tuples (A:=A) (e:=λj=>V.beq (vs.getD j .none) (ws.getD j .none)) t.is t2.is (by lia) (λj h1 h2=>by
    refine bH (r.item h1) λMP x1 d1=>bH (r2.item h2) λMQ x2 d2=>az d1 ?_;exact az d2 (ih _ _ k' A.in1 _ _ (d5 pv _ (dR MP)) (d5 pw _ (dR MQ)) x1 x2 (by simp -iota only[oZ];lia))))
   have l1:=r.length;have l2:=r2.length;rw[jL] at l1 l2;rw[l1,l2,yl vs ws] at key;exact key
theorem Ep(vs:af V)(n:ag)(ws:af V)(k:ag)(A:aW)(pv:V.ej n vs=aj)(pw:V.ej k ws=aj)(hu:A.units+n<b6)(j:ag)(h1:j<vs.length)(h2:j<ws.length)(v' w':ak)
  (x:VR s.heap ρ v' vs[j])(y:VR s.heap ρ w' ws[j]):EqAt A s v' w' (V.beq vs[j] ws[j]):=om _ _ n k A _ _ (d5 pv _ (dR h1)) (d5 pw _ (dR h2)) x y hu
end
mutual
noncomputable def cG:V->aJ
 |.int i=>hashInt i
 |.str x=>hashStr Wc.w x
 |.tup vs=>reduceHash (Q7 (tU vs))
 |_=>0
noncomputable def tU:af V->af aJ
 |[]=>[]
 |v::vs=>cG v::tU vs
end
section
variable{E:ak->aq->Prop}{ρ:af ao}
theorem Er{n:ag}{A:aW}(IH:∀(v:V) (v':ak) (s:aq) (Q:aJ->aq->Prop),v.fq n=aj->VR s.heap ρ v' v->(∀tk,Q (cG v) {s with toks:=tk})->aw (ay Wc.prog Wc.w) A (pyHash v') Q E s)(vs:af V):
  ∀(fG:af ak)(s:aq)(b:bj aJ)(Q:bj aJ->aq->Prop),V.ej n vs=aj->eB s.heap ρ fG vs->(∀tk b',b'.toList=b.toList++tU vs->Q b' {s with toks:=tk})->
  aw (ay Wc.prog Wc.w) A (nN fG b λx r=>do let h<-pyHash x;bB lG;bB (ir (r.push h))) Q E s:=by
 induction vs with
 |nil=>exactλ_ s b Q _ x=>x.GU λh=>aD (h s.toks b (by rw[tU,lr]))
 |cons v vs ih=>
  intro _ s b Q pv x
  refine x.Ao λv' l x1 x2 h=>?_
  rw[o4]
  refine au (au (IH v _ s _ (d9 pv).1 x1 λtk=>au (aD (aD ?_))))
  exact ih _ {s with toks:=tk} _ Q (d9 pv).2 x2 λV8 b' hb=>h V8 b' (by(refine hb.trans ?_;rewrite[tU];refine az o5 ?_;rewrite[mx]);rfl)
theorem qr(v:V)(n:ag)(v':ak)(A:aW)(s:aq)(Q:aJ->aq->Prop)(pv:v.fq n=aj)(x:VR s.heap ρ v' v)(hu:A.units+n<b6)(h:∀tk,Q (cG v) {s with toks:=tk}):aw (ay Wc.prog Wc.w) A (pyHash v') Q E s:=by
 induction n generalizing v v' A s Q E with
 |zero=>revert h;exact dG pv x (λi t h=>wpAny_pyHash_int (h _)) (λz t h=>wpAny_pyHash_str (h _)) λm a items vs e=>nomatch e
 |succ n ih=>revert h;refine dG pv x (λi t h=>wpAny_pyHash_int (h _)) (λz t h=>wpAny_pyHash_str (h _)) λm a items vs e pv t r h=>?_;cases e;rcases t.is with⟨o,ho,hc,m,hd⟩;refine pyHash_slot (T:="tuple") ⟨_,ho,hc⟩ Q8 F.entry_tuple_hash (F.args_tuple_hash_1 _) (beq_builtin_none _) (.inr (rL (bc _ _) hu)) ?_;refine(?_:aw _ _ (Builtin.Tuple.tupleItemsOf (.ref a)>>=_) _ _ s);refine au (wpAny_tupleItemsOf ho hd (au ?_));refine dm Jc ?_;refine Er (λv v' s Q p x h=>ih v v' A.in1 s Q p x (by simp -iota only[oZ];lia) h) vs items.toList s #[] _ pv r λtk b hb=>?_;show aw _ _ (retInt (Q7 b.toList)) _ _ _;exact az hb (au (wpAny_mkInt (aD ⟨_,_,ac,h (tk+1)⟩)))
end
section
variable{E:ak->aq->Prop}{ρ:af ao}{s:aq}
theorem K6{A:aW}{n:ag}{items:bj ak}{Q:aY->aq->Prop}
  (he:∀y∈items.toList,∀(Q:aY->aq->Prop),Q aj s->aw (ay Wc.prog Wc.w) A (BJ n y) Q E s)(h:Q aj s):
  aw (ay Wc.prog Wc.w) A (do
    for y in items do
     if !(<-BJ n y) then return aQ
    return aj) Q E s:=by
 refine au<|dm Jc<|wpAny_forIn_list _ (λrest r s'=>r.1=aC/\s'=s/\∀v∈rest,v∈items.toList) _ ?_ ?_ _ _ ⟨ac,ac,λ_ hv=>hv⟩
 ·rintro v rest r s' ⟨hr,rfl,o6⟩
  exact au (he v (o6 v (.head _)) _<|wpAny_pure ⟨ac,ac,λu Gx=>o6 u (.tail _ Gx)⟩)
 ·rintro⟨r1,r2⟩ s' ⟨hr,rfl,_⟩
  simp only at hr
  subst hr
  exact aD h
theorem eB.back{h:aO}{fG:af ak}{vs:af V}(x:eB h ρ fG vs){y:ak}(m:y∈fG):∃v∈vs,VR h ρ y v:=by exact eh (eX.mp m) λi hi=>bH (x.get' hi) λv e x=>⟨v,cw e,x⟩
theorem wQ(v:V)(n:ag)(v':ak)(A:aW)(Q:aY->aq->Prop)(pv:v.fq n=aj)(x:VR s.heap ρ v' v)(h:Q aj s):aw (ay Wc.prog Wc.w) A (BJ n v') Q E s:=by
 induction n generalizing v v' Q E with
 |zero=>exact dG pv x (λi t=>by refine az (BL _ ac) ?_;exact aD h) (λz t=>by refine az (BL _ ac) ?_;exact aD h) λm a items vs e=>nomatch e
 |succ n ih=>refine dG pv x (λi t=>by refine az (BL _ ac) ?_;exact aD h) (λz t=>by refine az (BL _ ac) ?_;exact aD h) λm a items vs e pv t r=>?_;cases e;obtain⟨o,ho,hc,m,hd⟩:=t.is;have hT:s.TypeIs (.ref a) "tuple":=⟨o,ho,hc⟩;unfold BJ;exact au (qU hT F.slot_tuple_eq.lookup (au (o7 hT isSubtype_tuple_tuple<|wpAny_bind (jM ho hd<|K6 (λy hy Q h=>bH (r.back hy) λv m x=>ih v y Q (d5 pv v m) x h) h))))
end
structure DE(h:aO)(ρ:af ao)(e:bQ)(p:V×V):Prop where
 pure:p.1.pure=aj
 key:VR h ρ e.key p.1
 hash:e.hash=cG p.1
 val:VR h ρ e.val p.2
inductive kz(h:aO)(ρ:af ao):af bQ->af (V×V)->Prop
 |nil:kz h ρ [] []
 |cons{e:bQ}{p:V×V}{es:af bQ}{ps:af (V×V)}:DE h ρ e p->kz h ρ es ps->kz h ρ (e::es) (p::ps)
section
variable{h h':aO}{ρ dP:af ao}
theorem DE.mono{e:bQ}{p:V×V}(k:dc h ρ h' dP)(q:Pre ρ dP)(x:DE h ρ e p):DE h' dP e p:=⟨x.pure,x.key.mono k q,x.hash,x.val.mono k q⟩
theorem kz.mono{es:af bQ}{ps:af (V×V)}(k:dc h ρ h' dP)(q:Pre ρ dP)(x:kz h ρ es ps):kz h' dP es ps:=by
 induction x with
 |nil=>exact .nil
 |cons a _ ih=>exact .cons (a.mono k q) ih
theorem kz.length{es:af bQ}{ps:af (V×V)}(x:kz h ρ es ps):es.length=ps.length:=by
 induction x with
 |nil=>rfl
 |cons _ _ ih=>simp[ih]
theorem kz.get{es:af bQ}{ps:af (V×V)}(x:kz h ρ es ps):∀{i:ag}{e:bQ},es[i]?=ae e->∃p,ps[i]?=ae p/\DE h ρ e p:=by
 induction x with
 |nil=>exactλq=>eP (tS.symm.trans q)
 |cons a _ ih=>
  intro i e q;induction i with
  |zero=>exact⟨_,ac,aU q▸a⟩
  |succ i=>exact ih q
theorem kz.get'{es:af bQ}{ps:af (V×V)}(x:kz h ρ es ps):∀{i:ag}{p:V×V},ps[i]?=ae p->∃e,es[i]?=ae e/\DE h ρ e p:=by
 induction x with
 |nil=>exactλq=>eP (tS.symm.trans q)
 |cons a _ ih=>
  intro i e q;induction i with
  |zero=>exact⟨_,ac,aU q▸a⟩
  |succ i=>exact ih q
theorem kz.snoc{es:af bQ}{ps:af (V×V)}{e:bQ}{p:V×V}(x:kz h ρ es ps)(y:DE h ρ e p):kz h ρ (es++[e]) (ps++[p]):=by
 induction x with
 |nil=>exact .cons y .nil
 |cons a _ ih=>exact .cons a ih
theorem kz.mem{es:af bQ}{ps:af (V×V)}(x:kz h ρ es ps){e:bQ}(m:e∈es):∃p∈ps,DE h ρ e p:=by
 induction x with
 |nil=>cases m
 |cons a _ ih=>
  rcases ci.mp m with rfl|m
  ·exact⟨_,.head _,a⟩
  ·refine bH (ih m) λp hp q=>?_;exact⟨p,.tail _ hp,q⟩
end
noncomputable def dN(k:V):af (V×V)->aS ag
 |[]=>aC
 |p::r=>if V.beq p.1 k then ae 0 else(dN k r).map (·+1)
theorem jC{k:V}{p:V×V}{r:af (V×V)}:dN k (p::r)=if V.beq p.1 k then ae 0 else(dN k r).map (·+1):=ac
theorem mW{k:V}:∀{ps:af (V×V)},dN k ps=aC↔∀p∈ps,p.1≠k:=by
 intro l0;induction l0 with
 |nil=>exact⟨λ_ _ h=>(gu h).elim,λ_=>ac⟩
 |cons p r ih=>
  refine az jC ?_;by_cases e:V.beq p.1 k=aj
  ·rw[aF e];have j1:=V.beq_iff.mp e;simp[j1]
  ·refine az (aG e) ?_;have j2:p.1≠k:=λq=>e (V.beq_iff.mpr q);simp[ih,j2]
theorem kY{k:V}:∀{ps:af (V×V)}{i:ag},dN k ps=ae i->∃p,ps[i]?=ae p/\p.1=k/\∀j p',j<i->ps[j]?=ae p'->p'.1≠k:=by
 intro ps;induction ps with
 |nil=>exactλh=>eP h
 |cons p r ih=>
  intro i h;replace h:=jC▸h;by_cases e:V.beq p.1 k=aj
  ·replace h:=(aF e)▸h;exact aU h▸⟨p,ac,V.beq_iff.mp e,λj _ hj=>aV hj (fM j)⟩
  ·replace h:=(aG e)▸h;refine bH (lE.mp h) λj hj z1=>?_;subst z1;refine jj (ih hj) λq h1 h2 h3=>⟨q,h1,h2,λj' p' MR yi=>?_⟩;induction j' with
   |zero=>exactλq=>e (V.beq_iff.mpr ((bf Prod.fst (aU yi)).trans q))
   |succ j'=>exact h3 j' p' (o8 MR) yi
noncomputable def cJ(ps:af (V×V)):Prop:=(ps.map (·.1)).Nodup
theorem cJ.same{ps:af (V×V)}(hn:cJ ps){i j:ag}{p q:V×V}(hi:ps[i]?=ae p)(hj:ps[j]?=ae q)(e:p.1=q.1):i=j:=by
 have wa:(ps.map (·.1))[i]?=ae p.1:=by(refine az (gw) ?_;refine az hi ?_);rfl
 have MR:(ps.map (·.1))[j]?=ae p.1:=by(refine az (gw) ?_;refine az hj ?_;refine az e ?_);rfl
 exact(o9 (bq.mp wa).1 hn).mp (wa.trans MR.symm)
theorem zF{ps:af (V×V)}(hn:cJ ps){i:ag}{p:V×V}(hi:ps[i]?=ae p):dN p.1 ps=ae i:=by
 cases h:dN p.1 ps with
 |none=>exact aV ac (mW.mp h p (cw hi))
 |some j=>exact jj (kY h) λq hq e _=>az (hn.same hq hi e) ac
theorem ym{k:V}:∀{ps:af (V×V)},bI k ps=(dN k ps).bind λi=>ps[i]?.map (·.2):=by
 intro l0;induction l0 with
 |nil=>exact ac
 |cons oo r ih=>
  obtain⟨a,b⟩:=oo;refine az nV<|az jC ?_;by_cases e:V.beq a k=aj
  ·rw[aF e,aF e];rfl
  ·refine az (aG e)<|az (aG e)<|az ih ?_;cases dN k r<;>simp
theorem kA{k v:V}:∀{ps:af (V×V)},du k v ps=match dN k ps with
  |some i=>ps.modify i λp=>(p.1,v)
  |none=>ps++[(k,v)]:=by
 intro l0
 induction l0 with
 |nil=>
  exact ac
 |cons oo r ih=>
  obtain⟨a,b⟩:=oo
  refine az kj<|az jC ?_
  by_cases e:V.beq a k=aj
  ·rw[aF e,aF e];rfl
  ·refine az (aG e)<|az (aG e)<|az ih ?_
   cases dN k r<;>simp
theorem yn{k:V}:∀{ps:af (V×V)},lm k ps=match dN k ps with
  |some i=>ps.eraseIdx i
  |none=>ps:=by
 intro l0
 induction l0 with
 |nil=>
  exact ac
 |cons oo r ih=>
  obtain⟨a,b⟩:=oo
  refine az qN<|az jC ?_
  by_cases e:V.beq a k=aj
  ·refine az (aF e)<|az (aF e) ?_;rfl
  ·refine az (aG e)<|az (aG e)<|az ih ?_
   cases dN k r<;>simp
section
variable{E:ak->aq->Prop}{ρ:af ao}{s:aq}{A:aW}
theorem NB{key:ak}{k:V}{stored:af ak}{Q:aY->aq->Prop}(pk:k.pure=aj)(hk:VR s.heap ρ key k)(oM:∀v∈stored,∃k':V,k'.pure=aj/\VR s.heap ρ v k')(h:Q aQ s):aw (ay Wc.prog Wc.w) A (tableMayTell key stored) Q E s:=by
 unfold tableMayTell;split
 ·exact aD h
 ·refine au (wQ k 8 key A _ pk hk<|wpAny_bind<|wpAny_forIn_list _ (λrest r s'=>s'=s/\r=(aC,())/\∀v∈rest,∃k':V,k'.pure=aj/\VR s.heap ρ v k') _ ?_ ?_ _ _ ⟨ac,ac,oM⟩)
  ·rintro x rest r s' ⟨rfl,rfl,hr⟩;refine bH (hr x lD) λk' p' x'=>au (wQ k' 8 x A _ p' x' ?_);simp only[vc,jN,iA];exact aD ⟨ac,ac,λv hv=>hr v (iY _ hv)⟩
  ·rintro r s' ⟨rfl,rfl,_⟩;exact aD h
theorem zG{α β:Type}(f:α->aS β):∀l:af α,(∀i∈l,(f i).isSome=aj)->(l.filterMap f).length=l.length:=by
 intro l0;induction l0 with
 |nil=>exactλ_=>ac
 |cons i r ih=>intro h;rcases kJ.mp (h i (.head _)) with⟨v,hv⟩;refine az (List.filterMap_cons_some hv) ?_;simp[ih (λj hj=>h j (.tail _ hj))]
theorem As{α β:Type}{M:gY}{f:α->β->cX (Bt β)}{Q:β->aq->Prop}(P:af α->β->Prop)(step:∀i l b (K:Bt β->aq->Prop),P (i::l) b->(∀b',P l b'->K (.yield b') s)->(∀b',Q b' s->K (.done b') s)->aw M A (f i b) K E s)(fin:∀b,P [] b->Q b s):∀l b,P l b->aw M A (nN l b f) Q E s:=by
 intro l0;induction l0 with
 |nil=>exactλb h=>aD (fin b h)
 |cons i l ih=>intro b h;rw[o4];exact au (step i l b _ h (λb' h'=>ih b' h') λb' h'=>aD h')
theorem GV{α:Type}{M:gY}{c:aY}{a b:cX α}{Q:α->aq->Prop}(h:c=aQ)(k:aw M A b Q E s):aw M A (if c=aj then a else b) Q E s:=wpAny_ite_false (by refine az h ?_;rfl) k
theorem U6{α:Type}{M:gY}{c:aY}{a b:cX α}{Q:α->aq->Prop}(h:c=aj)(k:aw M A a Q E s):aw M A (if c=aj then a else b) Q E s:=by refine az (aF h) ?_;exact k
theorem Q9{α:Type}{M:gY}{key:ak}{c:aY}{F:aM->Tok->cX α}{T:cX α}{Q:α->aq->Prop}(h:∀x t,key=.str x t->c=aj->aw M A (F x t) Q E s)(k:aw M A T Q E s):
  aw M A (match key with|.str x t=>if c=aj then F x t else T|_=>T) Q E s:=by
 induction key<;>first|exact k|skip
 induction c
 ·exact k
 ·exact h _ _ ac ac
theorem Ra{α:Type}{M:gY}{key:ak}{c:aY}{F T:cX α}{Q:α->aq->Prop}(h:∀a,key=.ref a->c=aQ)(k:aw M A T Q E s):
  aw M A (match key with|.ref _=>if c=aj then F else T|_=>T) Q E s:=by
 induction key<;>first|exact k|skip
 refine az (h _ ac) ?_;exact k
theorem NC{α:Type}{M:gY}{c:Prop} [sF c] {X:cX aY} {J:aY->cX α} {Q:α->aq->Prop} (hx:∀Q':aY->aq->Prop,Q' aQ s->aw M A X Q' E s) (k:aw M A (J aQ) Q E s):aw M A (if c then bB aQ>>=J else X>>=J) Q E s:=by
 split
 ·exact au (aD k)
 ·exact au (hx _ k)
theorem Rb{h:aO}{ek:ak}{pk:V}{x:aM}(hs:Jd ek=aj)(y:VR h ρ ek pk):ek.isStr x=V.beq pk (.str x):=
 VR.casesOn (motive_1:=λek pk _=>Jd ek=aj->ek.isStr x=V.beq pk (.str x)) y ff (λ_=>ff) (λ_ _=>ff) (λ_ _ _=>ac) (λ_ _=>ff) (λ_=>ff) hs
theorem mz{d:ao}{key:ak}{k:V}{o:cM}{es:bj bQ}{ep:ag}{ps:af (V×V)}{Q:aS ag->aq->Prop}(hu:A.units+8<b6)(pk:k.pure=aj)(hk:VR s.heap ρ key k)(ho:s.heap.get? d=ae o)(hd:o.data=.dict es ep)(he:kz s.heap ρ es.toList ps)(hn:cJ ps)(h:Q (dN k ps) s):aw (ay Wc.prog Wc.w) A (dictFind d key (cG k)) Q E s:=by
 obtain⟨pl,K8⟩:∃pl,placesWithHash es.size (λi=>es[i]?.map (·.hash)) (cG k)=pl:=⟨_,ac⟩;have at_:∀{j:ag}{e:bQ},es[j]?=ae e->∃p,ps[j]?=ae p/\DE s.heap ρ e p:=λq=>he.get (by rw[dS];exact q);have ask:∀{β:Type}{kp:aS ak}{e:bQ}{p:V×V}{X:ag->ag->aY->cX β}{K:aY->cX β}{Q':β->aq->Prop},DE s.heap ρ e p->aw (ay Wc.prog Wc.w) A (K (V.beq p.1 k)) Q' E s->
   aw (ay Wc.prog Wc.w) A (BM d kp>>=λb=>eqBool e.key key>>=λc=>BM d kp>>=λb'=>if(b' !=b)=aj then X b b' c else K c) Q' E s:=
  λq hq=>au (lH ho hd (au (om _ _ 8 8 A _ _ q.pure pk q.key hk hu Wc.prog Wc.w E _ (au (lH ho hd (GV (bne_self_eq_false _) hq))))))
 have Rc:∀{i:ag},i∈pl->∃e p,es[i]?=ae e/\(e.hash==cG k)=aj/\ps[i]?=ae p/\DE s.heap ρ e p:=λ{i} hi=>by replace hi:=K8.symm▸hi;rcases BN.mp hi with⟨h1,h2⟩;have hl:=jO.mp h1;refine bH (at_ (jK hl)) λp hp q=>?_;have h2:(es[i]?.map (·.hash)==ae (cG k))=aj:=h2;exact⟨es[i],p,jK hl,((jK hl)▸h2),hp,q⟩
 have hit:∀{i:ag}{p:V×V},ps[i]?=ae p->V.beq p.1 k=aj->dN k ps=ae i:=λhp hb=>V.beq_iff.mp hb▸zF hn hp;have BO:∀{j:ag},dN k ps=ae j->j∈pl:=λ{j} hj=>by refine jj (kY hj) λp hp hpk _=>bH (he.get' hp) λe ND q=>?_;rw[dS] at ND;refine dm K8<|List.mem_filter.mpr ⟨jO.mpr (tV.mp ND).1,?_⟩;show(es[j]?.map (·.hash)==ae (cG k))=aj;exact az ND<|dm hpk<|dm q.hash (gE _)
 have nod:pl.Nodup:=K8▸List.Pairwise.filter _ Rd;have off:∀{i j:ag}{p:V×V}{l:af ag},ps[i]?=ae p->V.beq p.1 k=aQ->dN k ps=ae j->j∈i::l->j∈l:=λhp hb hj hm=>by
  rcases ci.mp hm with q|q
  ·refine jj (kY hj) λp' yi e _=>?_;rw[q,hp] at yi;(replace yi:=aU yi;subst yi);replace hb:=(V.beq_iff.mpr e)▸hb;exact ff hb.symm
  ·exact q
 have none_of:∀{l:af ag},(∀j,dN k ps=ae j->j∈l)->l=[]->dN k ps=aC:=λh e=>by
  cases q:dN k ps with
  |none=>rfl
  |some j=>have j1:=h j q;replace j1:=e▸j1;cases j1
 have old:aw (ay Wc.prog Wc.w) A (dictWalkPlain d key (cG k) es pl) Q E s:=by
  refine au (As (λl b=>b=(aC,())/\(∀i∈l,i∈pl)/\∀j,dN k ps=ae j->j∈l) (λi l b K hP hy hd=>?_) (λb hP=>?_) pl _ ⟨ac,λ_ h=>h,λ_=>BO⟩)
  ·refine qg hP λz2 h1 h2=>?_;subst z2;refine Ed (Rc (h1 i (.head _))) λe p he hh hp q=>az he<|U6 hh (ask q ?_);cases hb:V.beq p.1 k with
   |true=>exact au (fN (aD (hd _ (aD<|(hit hp hb)▸h))))
   |false=>exact au (fN (aD (hy _ ⟨ac,λi hi=>h1 i (.tail _ hi),λj hj=>off hp hb hj (h2 j hj)⟩)))
  ·exact qg hP λz3 _ h2=>z3▸aD ((none_of h2 ac)▸h)
 have oM:∀v∈pl.filterMap (λi=>es[i]?.map (·.key)),∃k':V,k'.pure=aj/\VR s.heap ρ v k':=λv hv=>by refine bH (Rf.mp hv) λi hi e=>Ed (Rc hi) λen p he _ _ q=>?_;rw[he] at e;(replace e:=aU e;subst e);exact⟨p.1,q.pure,q.key⟩
 have short:(pl.filterMap (λi=>es[i]?.map (·.key))).length=pl.length:=zG _ _ λi hi=>by refine lC (Rc hi) λen p he _=>az he ?_;rfl
 unfold dictFind;refine cy (au (iB ho hd<|az K8<|Q9 (λx t Nw o6=>?_) ?_))
 ·have same:∀{i:ag}{e:bQ}{p:V×V},es[i]?=ae e->DE s.heap ρ e p->e.key.isStr x=V.beq p.1 k:=λ{i e p} V9 q=>by
   have hs:Jd e.key=aj:=by rw[<-Array.all_toList,eH] at o6;exact o6 e (cw (by rw[dS];exact V9))
   exact((show VR s.heap ρ (.str x t) k from Nw▸hk).K5)▸Rb hs q.key
  unfold foundByValue;cases hf:es.findIdx? (λe=>e.key.isStr x) with
  |none=>
   have j2:dN k ps=aC:=mW.mpr λp hp e=>by rcases eX.mp hp with⟨j,hj⟩;refine bH (he.get' hj) λen Je q=>?_;replace Je:=(dS)▸Je;have a1:=Array.findIdx?_eq_none_iff.mp hf en (yo Je);replace a1:=(same Je q)▸a1;replace a1:=e▸a1;rewrite[V.beq_refl] at a1;exact nomatch a1
   exact aD (j2▸h)
  |some i=>refine bH (Array.findIdx?_eq_some_iff_getElem.mp hf) λjE hi _=>?_;have V9:es[i]?=ae es[i]:=jK jE;refine bH (at_ V9) λp hp q=>?_;have hb:=(same V9 q).symm.trans hi;rw[hit hp hb] at h;dsimp only;exact az V9<|ask q<|az hb (au (fN (aD h)))
 ·refine Jf ?_;split
  ·exact old
  refine Ra (λb eb=>?_) ?_
  ·rw[<-Jg,Wa];intro e Qm hc;refine bH (he.mem Qm) λp hp q=>?_;rcases cb.mp hc with⟨c1,c2⟩;exact(I9.mp c2) (by(refine az q.hash ?_;refine az (VR.unique _ _ 8 8 _ q.pure pk ((jp.mp c1)▸q.key) hk) ?_;rfl))
  refine NC (λQ' h'=>NB pk hk oM h') (GV ac (au (As (λl b=>∃hit,b=(aC,hit)/\l.Nodup/\(∀i∈l,i∈pl)/\(hit=aC->∀j,dN k ps=ae j->j∈l)/\∀j,hit=ae j->dN k ps=ae j/\j∉l) (λi l b K hP hy sQ=>?_) (λb hP=>?_) pl _ ⟨aC,ac,nod,λ_ h=>h,λ_ _=>BO,λ_ h=>nomatch h⟩)))
  ·refine E15 hP λNF z4 h0 h1 h2 h3=>?_;subst z4;rcases eV.mp h0 with⟨nil,h0⟩;refine Ed (Rc (h1 i (.head _))) λe p he hh hp q=>az he<|U6 hh (ask q ?_);cases hb:V.beq p.1 k with
   |true=>
    have hj:=hit hp hb;induction NF with
    |some j=>have j3:=h3 j ac;rw[hj] at j3;exact aV (.head _) (aU j3.1▸j3.2)
    |none=>
    refine au (fN (Jf ?_));split
    ·exact aD (sQ _ (aD<|hj▸h))
    ·exact aD (hy _ ⟨ae i,ac,h0,λi hi=>h1 i (.tail _ hi),(λe=>nomatch e),λj e=>by exact aU e▸⟨hj,nil⟩⟩)
   |false=>exact au (fN (GV ac (aD (hy _ ⟨NF,ac,h0,λi hi=>h1 i (.tail _ hi),λe j hj=>off hp hb hj (h2 e j hj),λj e=>⟨(h3 j e).1,λm=>(h3 j e).2 (.tail _ m)⟩⟩))))
  ·refine E15 hP λNF z5 _ _ h2 h3=>?_;subst z5
   have j4:dN k ps=NF:=by
    induction NF with
    |some j=>exact(h3 j ac).1
    |none=>exact none_of (h2 ac) ac
   exact aD (j4▸h)
end
structure NE(h:aO)(ρ:af ao)(e:bQ)(p:aA×V):Prop where
 key:∃t,e.key=.str (aB p.1) t
 hash:e.hash=wR Wc.w.params (aB p.1)
 val:VR h ρ e.val p.2
inductive wU(h:aO)(ρ:af ao):af bQ->af (aA×V)->Prop
 |nil:wU h ρ [] []
 |cons{e:bQ}{p:aA×V}{es:af bQ}{ps:af (aA×V)}:NE h ρ e p->wU h ρ es ps->wU h ρ (e::es) (p::ps)
inductive OR(h:aO)(ρ:af ao):cM->O->Prop
 |list{items:bj ak}{n:ag}{vs:af V}:eB h ρ items.toList vs->OR h ρ {cls:=.type "list",data:=.seq items n} (.list vs)
 |dict{es:bj bQ}{n:ag}{ps:af (V×V)}:kz h ρ es.toList ps->cJ ps->OR h ρ {cls:=.type "dict",data:=.dict es n} (.dict ps)
 |inst{c:aA}{d:ag}{C dx:ao}:Wc.cls c=ae C->ρ[d]?=ae dx->OR h ρ (lI C dx) (.inst c d)
 |iU{x y:ak}:OR h ρ {cls:=.type "tuple",data:=.seq #[x,y]} .iU
 |ns{es:bj bQ}{n:ag}{ps:af (aA×V)}:wU h ρ es.toList ps->ps.length<=100->OR h ρ {cls:=.type "dict",data:=.dict es n} (.ns ps)
noncomputable def ORI(h:aO)(ρ:af ao)(ob:cM):O->Prop
 |.list vs=>∃items n,ob={cls:=.type "list",data:=.seq items n}/\eB h ρ items.toList vs
 |.dict ps=>∃es n,ob={cls:=.type "dict",data:=.dict es n}/\kz h ρ es.toList ps/\cJ ps
 |.inst c d=>∃C dx,ob=lI C dx/\Wc.cls c=ae C/\ρ[d]?=ae dx
 |.iU=>iZ
 |.ns ps=>∃es n,ob={cls:=.type "dict",data:=.dict es n}/\wU h ρ es.toList ps/\ps.length<=100
theorem OR.inv{h:aO}{ρ:af ao}{ob:cM}{o:O}(x:OR h ρ ob o):ORI h ρ ob o:=
 OR.casesOn (motive:=λob o _=>ORI h ρ ob o) x (λx=>⟨_,_,ac,x⟩) (λx y=>⟨_,_,ac,x,y⟩) (λx y=>⟨_,_,ac,x,y⟩) bp λx y=>⟨_,_,ac,x,y⟩
section
variable{h h':aO}{ρ dP:af ao}
theorem NE.mono{e:bQ}{p:aA×V}(k:dc h ρ h' dP)(q:Pre ρ dP)(x:NE h ρ e p):NE h' dP e p:=⟨x.key,x.hash,x.val.mono k q⟩
theorem wU.mono{es:af bQ}{ps:af (aA×V)}(k:dc h ρ h' dP)(q:Pre ρ dP)(x:wU h ρ es ps):wU h' dP es ps:=by
 induction x with
 |nil=>exact .nil
 |cons a _ ih=>exact .cons (a.mono k q) ih
theorem OR.mono{ob:cM}{o:O}(k:dc h ρ h' dP)(q:Pre ρ dP)(x:OR h ρ ob o):OR h' dP ob o:=by
 induction x with
 |list a=>exact .list (a.mono k q)
 |dict a b=>exact .dict (a.mono k q) b
 |inst a b=>exact .inst a (q _ _ b)
 |iU=>exact .iU
 |ns a b=>exact .ns (a.mono k q) b
theorem Pre.refl:Pre ρ ρ:=λ_ _ e=>e
theorem Pre.trans{c7 gL U7:af ao}(a:Pre c7 gL)(b:Pre gL U7):Pre c7 U7:=λi x e=>b _ _ (a _ _ e)
theorem Pre.append(l:af ao):Pre ρ (ρ++l):=λi a e=>by refine az (pg ((bq.mp e).1)) ?_;exact e
end
structure Rel(h:aO)(ρ:af ao)(st:af O):Prop where
 len:ρ.length=st.length
 once:ρ.Nodup
 new:∀(i:ag)(a:ao),ρ[i]?=ae a->i≠0->Wc.h₀.objs.size<=a
 zero:0<st.length/\(∀o,st[0]?=ae o->O.kind o=0)/\(∀a,ρ[0]?=ae a->(a==gk)=aQ)
 base:∀b o,Wc.h₀.get? b=ae o->h.get? b=ae o
 size:Wc.h₀.objs.size<=h.objs.size
 at_:∀(i:ag)(o:O),st[i]?=ae o->∃(a:ao)(ob:cM),ρ[i]?=ae a/\h.get? a=ae ob/\OR h ρ ob o
structure mX(X:ao->Prop)(h:aO)(ρ:af ao)(h':aO)(dP:af ao):Prop where
 pre:Pre ρ dP
 fresh:∀(i:ag)(a:ao),dP[i]?=ae a->ρ.length<=i->h.objs.size<=a
 size:h.objs.size<=h'.objs.size
 kept:∀b o,h.get? b=ae o->b∉ρ->¬X b->h'.get? b=ae o
noncomputable def mA:ao->Prop:=λ_=>io
section
variable{h h' jP vd:aO}{ρ dP c7 gL:af ao}{st:af O}{X Y:ao->Prop}
theorem Rel.mem{a:ao}(R:Rel h ρ st)(m:a∈ρ):∃(i:ag)(o:O)(ob:cM),st[i]?=ae o/\ρ[i]?=ae a/\h.get? a=ae ob/\OR h ρ ob o:=by refine eh (eX.mp m) λi hi=>?_;have hl:=(bq.mp hi).1;replace hl:=R.len▸hl;refine kS (R.at_ i st[i] (dq hl)) λa' ob e1 e2 e3=>?_;replace e1:=hi▸e1;(replace e1:=aU e1;subst e1);exact⟨i,_,ob,dq hl,hi,e2,e3⟩
theorem Rel.lt{a:ao}(R:Rel h ρ st)(m:a∈ρ):a<h.objs.size:=by exact VC (R.mem m) λ_ _ _ _ _ e _=>cB e
theorem mX.refl(X:ao->Prop)(h:aO)(ρ:af ao):mX X h ρ h ρ:=
 ⟨Pre.refl,λi a e l=>aV (bq.mp e).1 (cU l),aP _,λ_ _ e _ _=>e⟩
theorem mX.trans(a:mX X h ρ jP c7)(b:mX X jP c7 vd gL):mX X h ρ vd gL where
 pre:=a.pre.trans b.pre
 fresh:=λi x e l=>by
  rcases gZ i c7.length with q|q
  ·have e':=dq q
   have j1:=b.pre _ _ e'
   rw[e] at j1;(replace j1:=aU j1;subst j1)
   exact a.fresh i _ e' l
  ·exact lT a.size (b.fresh i x e q)
 size:=lT a.size b.size
 kept:=λb' o e n x=>b.kept b' o (a.kept b' o e n x) (λm=>by
  refine eh (eX.mp m) λi hi=>?_
  rcases gZ i ρ.length with q|q
  ·have e':=dq q
   have j2:=a.pre _ _ e'
   replace j2:=hi▸j2;(replace j2:=aU j2;subst j2)
   exact n (dR q)
  ·exact bS _ (lR (cB e) (a.fresh i b' hi q))) x
theorem mX.weak(a:mX X h ρ jP c7)(i:∀b,X b->Y b):mX Y h ρ jP c7:=⟨a.pre,a.fresh,a.size,λb o e n x=>a.kept b o e n λq=>x (i b q)⟩
theorem mX.Es(a:mX X h ρ jP c7){b:ao}(l:b<h.objs.size)(n:b∉ρ):b∉c7:=λm=>by
 refine eh (eX.mp m) λi hi=>?_;rcases gZ i ρ.length with q|q
 ·have e':=dq q;have j1:=a.pre _ _ e';rw[hi] at j1;(replace j1:=aU j1;subst j1);exact n (dR q)
 ·exact bS _ (lR l (a.fresh i b hi q))
theorem mX.lJ(a:mX X h ρ jP c7)(R:Rel h ρ st)(x:∀b items,Tp h ρ b items->¬X b):dc h ρ jP c7:=λb items t=>by obtain⟨nb,n,ho⟩:=id t;exact⟨a.Es (cB ho) nb,n,a.kept b _ ho nb (x b items t)⟩
theorem gM{o:cM}:∀b x,h.get? b=ae x->(h.push o).get? b=ae x:=λb x e=>bW o e
theorem eR(k:∀b x,h.get? b=ae x->h'.get? b=ae x):dc h ρ h' ρ:=λa items ⟨nb,n,ho⟩=>⟨nb,n,k _ _ ho⟩
theorem tW{c:ao}(k:∀b x,h.get? b=ae x->h'.get? b=ae x)(l:h.objs.size<=c):dc h ρ h' (ρ++[c]):=λa items ⟨nb,n,ho⟩=>⟨λm=>by
 rcases cR.mp m with m|m
 ·exact nb m
 ·simp at m;subst m;exact bS _ (lR (cB ho) l),n,k _ _ ho⟩
theorem Rel.kept(R:Rel h ρ st)(k:∀b x,h.get? b=ae x->h'.get? b=ae x)(sz:h.objs.size<=h'.objs.size):Rel h' ρ st where
 len:=R.len
 once:=R.once
 new:=R.new
 zero:=R.zero
 base:=λb o e=>k _ _ (R.base b o e)
 size:=lT R.size sz
 at_:=λi o e=>by
  exact kS (R.at_ i o e) λa ob e1 e2 e3=>⟨a,ob,e1,k _ _ e2,e3.mono (eR k) Pre.refl⟩
theorem mX.of_kept(k:∀b x,h.get? b=ae x->h'.get? b=ae x)(sz:h.objs.size<=h'.objs.size):mX X h ρ h' ρ:=
 ⟨Pre.refl,λi a e l=>aV (bq.mp e).1 (cU l),sz,λb o e _ _=>k b o e⟩
theorem Rel.laid{a:ao}{ob:cM}{o:O}(R:Rel h ρ st)(k:∀b x,h.get? b=ae x->h'.get? b=ae x)(sz:h.objs.size<=h'.objs.size)(hn:h.objs.size<=a)(ha:h'.get? a=ae ob)
  (x:OR h' (ρ++[a]) ob o):Rel h' (ρ++[a]) (st++[o]) where
 len:=by simp[R.len]
 once:=by
  rw[lK]
  exact⟨R.once,by exact jQ _ _,λb hb c hc e=>by
   have j1:=R.lt hb
   simp at hc
   subst hc;subst e
   exact bS _ (lR j1 hn)⟩
 new:=λi b hb hi=>by
  rcases gZ i ρ.length with l|l
  ·replace hb:=(pg l)▸hb;exact R.new i b hb hi
  ·replace hb:=(Jh l)▸hb
   have j2:=cw hb
   simp at j2;induction j2;exact lT R.size hn
 zero:=by
  refine qg R.zero λz1 z2 z3=>⟨by refine az ct ?_;exact lB ac,λo e=>z2 o ?_,λb e=>z3 b ?_⟩
  ·rw[pg z1] at e;exact e
  ·rw[pg (by refine az R.len ?_;exact z1)] at e;exact e
 base:=λb o e=>k _ _ (R.base b o e)
 size:=lT R.size sz
 at_:=λi o' e=>by
  rcases gZ i st.length with l|l
  ·rw[pg l] at e
   exact kS (R.at_ i o' e) λa' MO e1 e2 e3=>⟨a',MO,Pre.append _ _ _ e1,k _ _ e2,e3.mono (tW k hn) (Pre.append _)⟩
  ·replace e:=(Jh l)▸e
   have hi:i=st.length:=by
    have j3:=(bq.mp e).1
    exact gT (wB (Nat.lt_one_iff.mp j3)) l
   subst hi
   simp at e;subst e
   exact⟨a,ob,by refine dm R.len ?_;exact nK,ha,x⟩
theorem mX.laid{a:ao}(k:∀b x,h.get? b=ae x->h'.get? b=ae x)(sz:h.objs.size<=h'.objs.size)(hn:h.objs.size<=a):mX X h ρ h' (ρ++[a]) where
 pre:=Pre.append _
 fresh:=λi b e l=>by
  replace e:=(Jh l)▸e
  have j1:=(bq.mp e).1
  have hi:i-ρ.length=0:=by simp at j1;assumption
  rw[hi] at e;simp at e;subst e;exact hn
 size:=sz
 kept:=λb o e _ _=>k b o e
theorem Rel.turned{i:ag}{a:ao}{ob:cM}{o:O}(R:Rel h ρ st)(hi:ρ[i]?=ae a)(hz:i≠0)(sb:dH a h h')(ha:h'.get? a=ae ob)(x:OR h' ρ ob o):Rel h' ρ (st.set i o) where
 len:=by simp[R.len]
 once:=R.once
 new:=R.new
 zero:=⟨by simpa using R.zero.1,λo e=>R.zero.2.1 o (by replace e:=(cj hz)▸e;exact e),R.zero.2.2⟩
 base:=λb o e=>by
  have hb:=R.new i a hi hz
  refine az (sb.2 b λq=>bS _ (lR (cB e) (q▸hb))) ?_;exact R.base b o e
 size:=by refine az sb.1 ?_;exact R.size
 at_:=λj o' e=>by
  have tk:dc h ρ h' ρ:=λb items t=>by
   obtain⟨nb,n,ho⟩:=t
   refine⟨nb,n,az (sb.2 b λe=>nb (e▸cw hi)) ?_⟩;exact ho
  by_cases u0:i=j
  ·subst u0
   have hl:=(bq.mp e).1
   simp at hl
   replace e:=(Rg hl)▸e
   replace e:=aU e
   subst e
   exact⟨a,ob,hi,ha,x⟩
  ·rw[cj u0] at e
   refine kS (R.at_ j o' e) λa' MO e1 e2 e3=>?_
   have tX:a'≠a:=λq=>u0 (by
    subst q
    exact(o9 ((bq.mp hi).1) R.once).mp (hi.trans e1.symm))
   exact⟨a',MO,e1,by refine az (sb.2 a' tX) ?_;exact e2,e3.mono tk Pre.refl⟩
theorem mX.turned{a:ao}(m:a∈ρ)(sb:dH a h h'):mX X h ρ h' ρ where
 pre:=Pre.refl
 fresh:=λi b e l=>aV (bq.mp e).1 (cU l)
 size:=by rw[sb.1];exact aP _
 kept:=λb o e n _=>by refine az (sb.2 b λq=>n (q▸m)) ?_;exact e
theorem Rel.lJ(R:Rel h ρ st){a:ao}(m:a∈ρ)(sb:dH a h h'):dc h ρ h' ρ:=λb items t=>by obtain⟨nb,n,ho⟩:=t;exact⟨nb,n,by refine az (sb.2 b λe=>nb (e▸m)) ?_;exact ho⟩
end
structure Good(X:ao->Prop)(s:aq)(ρ:af ao)(st':af O)(s':aq)(dP:af ao):Prop where
 rel:Rel s'.heap dP st'
 qf:mX X s.heap ρ s'.heap dP
 gens:s'.gens=s.gens
 os:s'.os=s.os
section
variable{ρ c7 gL:af ao}{st eK iC:af O}{X Y:ao->Prop}{s cW iL:aq}
theorem Good.refl(X:ao->Prop)(R:Rel s.heap ρ st):Good X s ρ st s ρ:=⟨R,mX.refl _ _ _,ac,ac⟩
theorem Good.trans(a:Good X s ρ eK cW c7)(b:Good X cW c7 iC iL gL):Good X s ρ iC iL gL:=⟨b.rel,a.qf.trans b.qf,b.gens.trans a.gens,b.os.trans a.os⟩
theorem Good.weak(a:Good X s ρ eK cW c7)(i:∀b,X b->Y b):Good Y s ρ eK cW c7:=⟨a.rel,a.qf.weak i,a.gens,a.os⟩
theorem Good.lJ(a:Good mA s ρ eK cW c7)(R:Rel s.heap ρ st):dc s.heap ρ cW.heap c7:=a.qf.lJ R λ_ _ _ q=>q
end
inductive gz(s:aq)(ρ:af ao)(v:V)(st':af O)(v':ak)(s':aq):Prop
 |mk(dP:af ao)(g:Good mA s ρ st' s' dP)(x:VR s'.heap dP v' v)
theorem wm{α:Type}{M:gY}{A:aW}{s:aq}{t:cX α}{Q Q':α->aq->Prop}{E:ak->aq->Prop}(h:aw M A t Q dC s)(k:∀a s',Q a s'->Q' a s'):aw M A t Q' E s:=ec h k λ_ _ q=>q.elim
theorem pgo{oj:aq}{ρ:af ao}{v:V}{st':af O}{M:gY}{A:aW}{s:aq}{t:cX ak}{Q:ak->aq->Prop}{E:ak->aq->Prop}(h:aw M A t (gz oj ρ v st') dC s)
  (k:∀v' s' dP,Good mA oj ρ st' s' dP->VR s'.heap dP v' v->Q v' s'):aw M A t Q E s:=wm h λ_ _ h=>h.rec (k _ _)
section
variable{A:aW}{s:aq}{ρ:af ao}{st:af O}
theorem Au(R:Rel s.heap ρ st)(tk:ag):Good mA s ρ st {s with toks:=tk} ρ:=⟨R,mX.refl _ _ _,ac,ac⟩
theorem ig(R:Rel s.heap ρ st)(ob:cM)(tk:ag):Good mA s ρ st {s with heap:=s.heap.push ob,toks:=tk} ρ:=
 ⟨R.kept gM (by show s.heap.objs.size<=(s.heap.push ob).objs.size;rw[eW];exact bc _ _),mX.of_kept gM (by show s.heap.objs.size<=(s.heap.push ob).objs.size;rw[eW];exact bc _ _),ac,ac⟩
theorem qt{ob:cM}{o:O}(R:Rel s.heap ρ st)(tk:ag)(hf:ob.isFreed=aQ)(x:OR (s.heap.push ob) (ρ++[s.heap.objs.size]) ob o):
  Good mA s ρ (st++[o]) {s with heap:=s.heap.push ob,toks:=tk} (ρ++[s.heap.objs.size]):=
 have sz:s.heap.objs.size<=(s.heap.push ob).objs.size:=by rw[eW];exact bc _ _
 ⟨R.laid gM sz (aP _) (cT _ hf) x,mX.laid gM sz (aP _),ac,ac⟩
theorem gN(R:Rel s.heap ρ st)(a:ao):(ρ++[a])[st.length]?=ae a:=by refine dm R.len ?_;exact nK
theorem ii{i:ag}{a:ao}{ob:cM}{o:O}{h':aO}(R:Rel s.heap ρ st)(tk:ag)(hi:ρ[i]?=ae a)(hz:i≠0)(sb:dH a s.heap h')(ha:h'.get? a=ae ob)(x:OR h' ρ ob o):
  Good mA s ρ (st.set i o) {s with heap:=h',toks:=tk} ρ:=
 ⟨R.turned hi hz sb ha x,mX.turned (cw hi) sb,ac,ac⟩
theorem eC{v':ak}{v:V}(R:Rel s.heap ρ st)(x:VR s.heap ρ v' v)(tk:ag):gz s ρ v st v' {s with toks:=tk}:=⟨ρ,Au R tk,x⟩
theorem dv{v':ak}{v:V}(R:Rel s.heap ρ st)(x:VR s.heap ρ v' v):gz s ρ v st v' s:=⟨ρ,Good.refl _ R,x⟩
theorem BP{items:bj ak}{vs:af V}(R:Rel s.heap ρ st)(x:eB s.heap ρ items.toList vs)(tk:ag):gz s ρ (.tup vs) st (.ref s.heap.objs.size) {s with heap:=s.heap.push {cls:=.type "tuple",data:=.seq items},toks:=tk}:=
 ⟨ρ,ig R _ tk,.tup ⟨λm=>bS _ (R.lt m),0,cT _ ac⟩ (x.mono (eR gM) Pre.refl)⟩
theorem yp{items:bj ak}{vs:af V}(R:Rel s.heap ρ st)(x:eB s.heap ρ items.toList vs)(tk:ag)(n:ag):
  gz s ρ (.ref st.length) (st++[.list vs]) (.ref s.heap.objs.size) {s with heap:=s.heap.push {cls:=.type "list",data:=.seq items n},toks:=tk}:=
 ⟨_,qt R tk ac (.list (x.mono (tW gM (aP _)) (Pre.append _))),.ref (gN R _)⟩
theorem Rel.obj{i:ag}{a:ao}{o:O}{h:aO}(R:Rel h ρ st)(hi:ρ[i]?=ae a)(e:st[i]?=ae o):∃ob,h.get? a=ae ob/\OR h ρ ob o:=
 kS (R.at_ i _ e) λa' ob e1 e2 e3=>⟨ob,aU (hi.symm.trans e1)▸e2,e3⟩
theorem Rel.list{i:ag}{a:ao}{vs:af V}{h:aO}(R:Rel h ρ st)(hi:ρ[i]?=ae a)(e:st[i]?=ae (.list vs)):
  ∃items n,h.get? a=ae {cls:=.type "list",data:=.seq items n}/\eB h ρ items.toList vs:=
 bH (R.obj hi e) λ_ g x=>lC x.inv λi n z x=>⟨i,n,z▸g,x⟩
theorem Rel.dict{i:ag}{a:ao}{ps:af (V×V)}{h:aO}(R:Rel h ρ st)(hi:ρ[i]?=ae a)(e:st[i]?=ae (.dict ps)):
  ∃es n,h.get? a=ae {cls:=.type "dict",data:=.dict es n}/\kz h ρ es.toList ps/\cJ ps:=
 bH (R.obj hi e) λ_ g x=>lC x.inv λi n z x=>⟨i,n,z▸g,x⟩
theorem Rel.inst{i d:ag}{a:ao}{c:aA}{h:aO}(R:Rel h ρ st)(hi:ρ[i]?=ae a)(e:st[i]?=ae (.inst c d)):
  ∃C dx,h.get? a=ae (lI C dx)/\Wc.cls c=ae C/\ρ[d]?=ae dx:=
 bH (R.obj hi e) λ_ g x=>lC x.inv λi n z x=>⟨i,n,z▸g,x⟩
theorem Rel.ns{i:ag}{a:ao}{ps:af (aA×V)}{h:aO}(R:Rel h ρ st)(hi:ρ[i]?=ae a)(e:st[i]?=ae (.ns ps)):
  ∃es n,h.get? a=ae {cls:=.type "dict",data:=.dict es n}/\wU h ρ es.toList ps/\ps.length<=100:=
 bH (R.obj hi e) λ_ g x=>lC x.inv λi n z x=>⟨i,n,z▸g,x⟩
theorem eB.size{h:aO}{items:bj ak}{vs:af V}(x:eB h ρ items.toList vs):items.size=vs.length:=by refine dm x.length ?_;simp
theorem jR{n:ag}(h:n<=16777216):n<=tY:=by refine az fg ?_;exact h
theorem K9{a:ag}{st st':af O}{o:O}(e:load a st=ae (o,st')):st[a]?=ae o/\st'=st:=by
 unfold load at e;split at e
 ·rename_i o' q;(replace e:=aU e;cases e);exact⟨q,ac⟩
 ·cases e
theorem yq{α β:Type}{x:P α}{f:α->P β}{st:af O}{r:β×af O}(e:cI x f st=ae r):∃a eK,x st=ae (a,eK)/\f a eK=ae r:=by
 unfold cI at e;split at e
 ·rename_i a eK q;exact⟨a,eK,q,e⟩
 ·cases e
theorem YY{β:Type}{x:ag}{f:O->P β}{st:af O}{r:β×af O}(e:cI (load x) f st=ae r):∃o,st[x]?=ae o/\f o st=ae r:=by refine lC (yq e) λo eK a b=>?_;rcases K9 a with⟨c,d⟩;exact⟨o,c,(d▸b)⟩
theorem dw{α:Type}{a b:α}{st st':af O}(e:ret a st=ae (b,st')):b=a/\st'=st:=by unfold ret at e;(replace e:=aU e;cases e);exact⟨ac,ac⟩
theorem dy{α:Type}{st:af O}{r:α×af O}(e:(fail:P α) st=ae r):io:=by unfold fail at e;cases e
theorem Et{α:Type}{c:Prop} [sF c] {p q:P α} {st:af O} {r:α×af O} (e:(if c then p else q) st=ae r):(c/\p st=ae r)\/(¬c/\q st=ae r):=by
 by_cases h:c
 ·replace e:=(aF h)▸e;exact .inl ⟨h,e⟩
 ·replace e:=(aG h)▸e;exact .inr ⟨h,e⟩
theorem NG{α:Type}{c:Prop} [sF c] {p:P α} {st:af O} {r:α×af O} (e:(if c then p else fail) st=ae r):c/\p st=ae r:=by
 rcases Et e with h|⟨_,h⟩
 ·exact h
 ·exact(dy h).elim
theorem yr{α β:Type}{o:aS α}{f:α->P β}{st:af O}{r:β×af O}(e:bP o f st=ae r):∃v,o=ae v/\f v st=ae r:=by
 induction o with
 |none=>exact(dy (st:=st) e).elim
 |some v=>exact⟨v,ac,e⟩
theorem ba{α β:Type}{x:P α}{f:α->P β}{st:af O}{r:β×af O}{C:Prop}(e:cI x f st=ae r)(k:∀a eK,x st=ae (a,eK)->f a eK=ae r->C):C:=lC (yq e) λa s h e=>k a s h e
theorem dQ{β:Type}{x:ag}{f:O->P β}{st:af O}{r:β×af O}{C:Prop}(e:cI (load x) f st=ae r)(k:∀o,st[x]?=ae o->f o st=ae r->C):C:=bH (YY e) λo h e=>k o h e
theorem bC{α:Type}{c:Prop} [sF c] {p:P α} {st:af O} {r:α×af O} {C:Prop} (e:(if c then p else fail) st=ae r) (k:c->p st=ae r->C):C:=fB (NG e) λh e=>k h e
theorem bb{α β:Type}{o:aS α}{f:α->P β}{st:af O}{r:β×af O}{C:Prop}(e:bP o f st=ae r)(k:∀v,o=ae v->f v st=ae r->C):C:=bH (yr e) λv h e=>k v h e
@[elab_as_elim]theorem bo{α:Type}{a b:α}{st st':af O}{motive:α->af O->Prop}(e:ret a st=ae (b,st'))(h:motive a st):motive b st':=by refine fB (dw e) λz1 z2=>?_;subst z1;subst z2;exact h
theorem lL{vs:af V}{st st':af O}{v:V}(e:newList vs st=ae (v,st')):vs.length<=16777216/\v=.ref st.length/\st'=st++[.list vs]:=by unfold newList at e;refine bC e λq e=>?_;unfold alloc at e;(replace e:=aU e;cases e);exact⟨q,ac,ac⟩
theorem vP{items:bj ak}{vs:af V}{h:aO}(x:eB h ρ items.toList vs):items.isEmpty=vs.isEmpty:=by
 have j1:=x.size;induction vs with
 |nil=>simp only[wJ] at j1;exact eu ‹_›
 |cons v vs=>simp only[iD] at j1;simp[Array.isEmpty,j1]
@[elab_as_elim]theorem VR.jz{v':ak}{v:V}{i:aJ}{h:aO}{motive:ak->Prop}(x:VR h ρ v' v)(e:kU v=ae i)(k:∀t,motive (.int i t)):motive v':=
 VR.casesOn (motive_1:=λv' v _=>kU v=ae i->motive v') x eP (λ_=>eP) (λ_ t e=>aU e▸k t) (λ_ _=>eP) (λ_ _=>eP) (λ_=>eP) e
@[elab_as_elim]theorem VR.sR{v':ak}{v:V}{z:aM}{h:aO}{motive:ak->Prop}(x:VR h ρ v' v)(e:tx v=ae z)(k:∀t,motive (.str z t)):motive v':=
 VR.casesOn (motive_1:=λv' v _=>tx v=ae z->motive v') x eP (λ_=>eP) (λ_ _=>eP) (λ_ t e=>aU e▸k t) (λ_ _=>eP) (λ_=>eP) e
@[elab_as_elim]theorem VR.kB{v':ak}{v:V}{vs:af V}{h:aO}{motive:ak->Prop}(x:VR h ρ v' v)(e:mQ v=ae vs)(k:∀a items,Tp h ρ a items->eB h ρ items.toList vs->motive (.ref a)):motive v':=
 VR.casesOn (motive_1:=λv' v _=>mQ v=ae vs->motive v') x eP (λ_=>eP) (λ_ _=>eP) (λ_ _=>eP) (λt r e=>k _ _ t (aU e▸r)) (λ_=>eP) e
@[elab_as_elim]theorem VR.jg{v':ak}{v:V}{i:ag}{h:aO}{motive:ak->Prop}(x:VR h ρ v' v)(e:kW v=ae i)(k:∀a,ρ[i]?=ae a->motive (.ref a)):motive v':=
 VR.casesOn (motive_1:=λv' v _=>kW v=ae i->motive v') x eP (λ_=>eP) (λ_ _=>eP) (λ_ _=>eP) (λ_ _=>eP) (λp e=>k _ (aU e▸p)) e
theorem oq{α:Type}{i:ag}{a:ao}{f:af V->P α}{r:α×af O}{C:Prop}(R:Rel s.heap ρ st)(p:ρ[i]?=ae a)(e:vG i f st=ae r)(k:∀items n vs,st[i]?=ae (.list vs)->s.heap.get? a=ae {cls:=.type "list",data:=.seq items n}->eB s.heap ρ items.toList vs->f vs st=ae r->C):C:=
 dQ e λo l e=>bb e λvs ho e=>lC (R.list p (mS ho▸l)) λitems n hd r=>k items n vs (mS ho▸l) hd r e
theorem Eu{α:Type}{i:ag}{a:ao}{f:af (V×V)->P α}{r:α×af O}{C:Prop}(R:Rel s.heap ρ st)(p:ρ[i]?=ae a)(e:M0 i f st=ae r)(k:∀es n ps,st[i]?=ae (.dict ps)->s.heap.get? a=ae {cls:=.type "dict",data:=.dict es n}->kz s.heap ρ es.toList ps->cJ ps->f ps st=ae r->C):C:=
 dQ e λo l e=>bb e λvs ho e=>kS (R.dict p (mT ho▸l)) λes n hd r u=>k es n vs (mT ho▸l) hd r u e
@[elab_as_elim]theorem mY{a' b':ak}{a b:V}{f:aJ->aJ->P V}{r:V×af O}{motive:ak->ak->Prop}(x:VR s.heap ρ a' a)(y:VR s.heap ρ b' b)(e:Bb a b f st=ae r)(k:∀i t j u,f i j st=ae r->motive (.int i t) (.int j u)):motive a' b':=bb e λi hi e=>bb e λj hj e=>by exact x.jz hi λt=>y.jz hj λu=>k i t j u e
@[elab_as_elim]theorem Ew{a' b':ak}{a b:V}{f:af V->af V->P V}{r:V×af O}{motive:ak->ak->Prop}(R:Rel s.heap ρ st)(x:VR s.heap ρ a' a)(y:VR s.heap ρ b' b)(e:IQ a b f st=ae r)(k:∀a i1 n1 xs b i2 n2 ys,s.heap.get? a=ae {cls:=.type "list",data:=.seq i1 n1}->eB s.heap ρ i1.toList xs->s.heap.get? b=ae {cls:=.type "list",data:=.seq i2 n2}->eB s.heap ρ i2.toList ys->f xs ys st=ae r->motive (.ref a) (.ref b)):motive a' b':=bb e λi hi e=>bb e λj hj e=>by exact x.jg hi λa p=>y.jg hj λb q=>oq R p e λi1 n1 xs _ h1 r1 e=>oq R q e λi2 n2 ys _ h2 r2 e=>k _ _ _ _ _ _ _ _ h1 r1 h2 r2 e
@[elab_as_elim]theorem fw{α:Type}{v:V}{v':ak}{f:ag->af V->P α}{r:α×af O}{motive:ak->Prop}(R:Rel s.heap ρ st)(x:VR s.heap ρ v' v)(e:listAt v f st=ae r)(k:∀i a items n vs,ρ[i]?=ae a->st[i]?=ae (.list vs)->s.heap.get? a=ae {cls:=.type "list",data:=.seq items n}->eB s.heap ρ items.toList vs->f i vs st=ae r->motive (.ref a)):motive v':=bb e λi hi e=>by exact x.jg hi λa p=>oq R p e λitems n vs l hd rr e=>k i a items n vs p l hd rr e
@[elab_as_elim]theorem ve{α:Type}{v:V}{v':ak}{f:ag->af (V×V)->P α}{r:α×af O}{motive:ak->Prop}(R:Rel s.heap ρ st)(x:VR s.heap ρ v' v)(e:dictAt v f st=ae r)(k:∀i a es n ps,ρ[i]?=ae a->st[i]?=ae (.dict ps)->s.heap.get? a=ae {cls:=.type "dict",data:=.dict es n}->kz s.heap ρ es.toList ps->cJ ps->f i ps st=ae r->motive (.ref a)):motive v':=bb e λi hi e=>by exact x.jg hi λa p=>Eu R p e λes n ps l hd rr hn e=>k i a es n ps p l hd rr hn e
@[elab_as_elim]theorem mB{α:Type}{v:V}{v':ak}{f:af V->P α}{g:P α}{r:α×af O}{h:aO}{motive:ak->Prop}(x:VR h ρ v' v)(e:qh v f g st=ae r)
  (k1:∀a items vs,Tp h ρ a items->eB h ρ items.toList vs->f vs st=ae r->motive (.ref a))(k2:g st=ae r->motive v'):motive v':=
 Ej e (λvs z e=>x.kB (vs:=vs) (z▸ac) λa i t r=>k1 a i vs t r e) k2
@[elab_as_elim]theorem ou{α:Type}{v:V}{v':ak}{f:aM->P α}{g:P α}{r:α×af O}{h:aO}{motive:ak->Prop}(x:VR h ρ v' v)(e:tz v f g st=ae r)
  (k1:∀y t,f y st=ae r->motive (.str y t))(k2:g st=ae r->motive v'):motive v':=
 x5 e (λy z e=>x.sR (z:=y) (z▸ac) λt=>k1 y t e) k2
@[elab_as_elim]theorem Av{α:Type}{v:V}{v':ak}{f g:P α}{r:α×af O}{h:aO}{motive:ak->Prop}(x:VR h ρ v' v)(e:u7 v f g st=ae r)(k1:f st=ae r->motive .none)(k2:g st=ae r->motive v'):motive v':=
 VR.casesOn (motive_1:=λv' v _=>u7 v f g st=ae r->(g st=ae r->motive v')->motive v') x (λe _=>k1 e) (λ_ e k=>k e) (λ_ _ e k=>k e) (λ_ _ e k=>k e) (λ_ _ e k=>k e) (λ_ e k=>k e) e k2
theorem Ey{α:Type}{i:ag}{a:ao}{f:af V->P α}{g:af (V×V)->P α}{r:α×af O}{C:Prop}(R:Rel s.heap ρ st)(p:ρ[i]?=ae a)(e:nY i f g st=ae r)
  (k1:∀items n vs,s.heap.get? a=ae {cls:=.type "list",data:=.seq items n}->eB s.heap ρ items.toList vs->f vs st=ae r->C)
  (k2:∀es n ps,s.heap.get? a=ae {cls:=.type "dict",data:=.dict es n}->kz s.heap ρ es.toList ps->cJ ps->g ps st=ae r->C):C:=
 dQ e λo l e=>O.casesOn (motive:=λo=>st[i]?=ae o->M1 o f (bP (xY o) g) st=ae r->C) o (λvs l e=>lC (R.list p l) λi n hd x=>k1 i n vs hd x e) (λps l e=>kS (R.dict p l) λes n hd x u=>k2 es n ps hd x u e) (λ_ _ _=>eP) (λ_ _=>eP) (λ_=>eP) l e
theorem gA{a:ag}{o:O}{st st':af O}{u:cH}(e:store a o st=ae (u,st')):(a<st.length/\a≠0)/\st'=st.set a o:=
 (Decidable.em (a<st.length/\a≠0)).elim (λh=>⟨h,(wV (aU (((aF h).symm.trans e)))).2.symm⟩) λh=>eP ((aG h).symm.trans e)
theorem La{a:ag}{v:V}{st:af O}{r:V×af O}{C:Prop}(e:iJ (.ref a) "append" [v] st=ae r)(k:∀vs,st[a]?=ae (.list vs)->vs.length<16777216->(a<st.length/\a≠0)->r=(V.none,st.set a (.list (vs++[v])))->C):C:=
 dQ (show cI (load a) (λo=>bP (Ba o) λvs=>if vs.length<16777216 then cI (store a (.list (vs++[v]))) λ_=>ret .none else fail) st=ae r from e) λo l e=>bb e λvs h e=>bC e λhz e=>ba e λu d4 e1 e2=>
  fB (gA e1) λhl z=>k vs (mS h▸l) hz hl (z▸(aU e2).symm)
theorem yt{α:Type}{v:V}{f:ag->af (V×V)->P α}{st:af O}{r:α×af O}{C:Prop}(e:dictAt v f st=ae r)(k:∀i ps,v=.ref i->st[i]?=ae (.dict ps)->f i ps st=ae r->C):C:=
 bb e λi hi e=>dQ e λo l e=>bb e λps ho e=>k i ps (sI hi) (mT ho▸l) e
theorem sS{α:Type}{c:Prop} [sF c] {p q:P α} {st:af O} {r:α×af O} {C:Prop} (e:(if c then p else q) st=ae r) (h1:c->p st=ae r->C) (h2:¬c->q st=ae r->C):C:=(Et e).elim (λh=>h1 h.1 h.2) λh=>h2 h.1 h.2
@[elab_as_elim]theorem iM{motive:V->af O->Prop}{vs:af V}{st st':af O}{v:V}(e:newList vs st=ae (v,st'))(k:vs.length<=16777216->motive (.ref st.length) (st++[.list vs])):motive v st':=by refine qg (lL e) λq z3 z4=>?_;subst z3;subst z4;exact k q
@[elab_as_elim]theorem tZ{motive:V->af O->Prop}{o:O}{st st':af O}{v:V}(e:alloc o st=ae (v,st'))(k:motive (.ref st.length) (st++[o])):motive v st':=by unfold alloc at e;(replace e:=aU e;cases e);exact k
theorem qV{vs:af V}(h:cZ vs=aj):vs.length<64:=cA (cb.mp (cb.mp (cb.mp (cb.mp h).1).1).1).2
theorem Ez{op:Op}{a b v:V}{a' b':ak}{st':af O}(R:Rel s.heap ρ st)(x:VR s.heap ρ a' a)(y:VR s.heap ρ b' b)(e:r9 op a b st=ae (v,st')):aw (ay Wc.prog Wc.w) A (binaryOp (KU op) a' b') (gz s ρ v st') dC s:=by
 induction op with
 |add=>
  refine xZ e (λ_ _ e=>?_) λe=>ou x e (λz t e=>?_) λe=>mB x e (λa1 i1 vs t1 r1 e=>?_) λe=>?_
  ·refine mY x y e λi t j u e=>bC e λq e=>bo e ?_;exact add_int (eC R (.int _ _) _)
  ·exact bb e λz' hz e=>y.sR hz λu=>bC e λq e=>bo e<|PyProof.Rows.add_str (λt tk=>eC R (.str _ _) _) (jR (tB q ac))
  ·refine bb e λfG hz e=>y.kB hz λa2 i2 t2 r2=>bC e λq e=>bo e<|eh t1.ex λn1 g1=>eh t2.ex λn2 g2=>?_;by_cases e1:i1.isEmpty=aj
   ·have z:=e1;rw[vP r1,wL] at z;subst z;exact concat_meets ⟨_,g1,ac⟩ ⟨_,g2,ac⟩ noFill_tuple_add seq_tuple_add Rh Ri (Rj _ _) (AutoSeq1.tuple___add___tuple_tuple_0 a1 i1 n1 a2 i2 n2 e1) ⟨g1,g2,dv R (.tup t2 r2)⟩
   ·by_cases e2:i2.isEmpty=aj
    ·have z:=e2;replace z:=(vP r2)▸z;rewrite[wL] at z;subst z;exact concat_meets ⟨_,g1,ac⟩ ⟨_,g2,ac⟩ noFill_tuple_add seq_tuple_add Rh Ri (Rj _ _) (AutoSeq1.tuple___add___tuple_tuple_1 a1 i1 n1 a2 i2 n2 e1 e2) ⟨g1,g2,dv R (by rw[lr];exact .tup t1 r1)⟩
    ·refine P.add_tuple g1 g2 e1 e2 (BP R ?_ _) (jR (by(refine az r1.size ?_;refine az r2.size ?_);exact q));refine az NH ?_;exact r1.append r2
  ·refine Ew R x y e λa i1 n1 xs b i2 n2 ys h1 r1 h2 r2 e=>iM e λq=>P.add_list h1 h2 (yp R ?_ _ _) (jR (by(refine az r1.size ?_;refine az r2.size ?_);simpa using q));refine az NH ?_;exact r1.append r2
 |sub=>refine mY x y e λi t j u e=>bC e λq e=>bo e ?_;exact sub_int' (eC R (.int _ _) _)
 |mul=>refine mY x y e λi t j u e=>bC e λq e=>?_;simp only[fits,cY,di] at q;exact bo e<|mul_int (eC R (.int _ _) _) (IntMulOk.of_left (intBits_le_64 (by lia) (by lia)))
 |mod=>refine mY x y e λi t j u e=>bC e λq e=>?_;simp only[fits,cY,di] at q;exact bo e<|mod_int' (by lia)<|az (Int.fmod_eq_emod_of_nonneg _ (by lia))<|eC R (.int _ _) _
end
section
variable{h h':aO}{ρ dP:af ao}
theorem kz.modify{es:af bQ}{ps:af (V×V)}{v':ak}{v:V}(x:kz h ρ es ps)(y:VR h ρ v' v):∀i:ag,kz h ρ (es.modify i λe=>{e with val:=v'}) (ps.modify i λp=>(p.1,v)):=by
 induction x with
 |nil=>intro i;simp;exact .nil
 |cons a b ih=>
  intro i;induction i with
  |zero=>exact .cons ⟨a.pure,a.key,a.hash,y⟩ b
  |succ i=>exact .cons a (ih i)
theorem kz.erase{es:af bQ}{ps:af (V×V)}(x:kz h ρ es ps):∀i:ag,kz h ρ (es.eraseIdx i) (ps.eraseIdx i):=by
 induction x with
 |nil=>intro i;exact .nil
 |cons a b ih=>
  intro i;induction i with
  |zero=>exact b
  |succ i=>exact .cons a (ih i)
end
theorem Aw{k v:V}:∀{ps:af (V×V)},(du k v ps).map (·.1)=if(dN k ps).isSome then ps.map (·.1) else ps.map (·.1)++[k]:=by
 intro l0;induction l0 with
 |nil=>exact ac
 |cons oo r ih=>
  obtain⟨a,b⟩:=oo;refine az kj<|az jC ?_;by_cases e:V.beq a k=aj
  ·refine az (aF e)<|az (aF e) ?_;rfl
  ·refine az (aG e)<|az (aG e)<|az eL<|az ih ?_;cases dN k r<;>simp
theorem cJ.du{k v:V}{ps:af (V×V)}(hn:cJ ps):cJ (du k v ps):=by
 unfold cJ;refine az Aw ?_;cases e:dN k ps with
 |some i=>exact hn
 |none=>
  simp only[Option.isSome_none,jN,iA];rw[lK];exact⟨hn,by exact jQ _ _,λa ha b hb=>by
   simp at hb;subst hb;refine bH (bt.mp ha) λp hp z1=>?_;exact z1▸mW.mp e p hp⟩
theorem cJ.lm{k:V}{ps:af (V×V)}(hn:cJ ps):cJ (lm k ps):=by
 refine az yn ?_;cases dN k ps with
 |none=>exact hn
 |some i=>unfold cJ;exact hn.sublist ((List.eraseIdx_sublist ps i).map (·.1))
theorem vf{k:V}{ps:af (V×V)}{v:V}(e:bI k ps=ae v):∃i p,dN k ps=ae i/\ps[i]?=ae p/\p.2=v:=by
 replace e:=ym▸e;cases h:dN k ps with
 |none=>replace e:=h▸e;exact eP e
 |some i=>replace e:=h▸e;refine bH (kY h) λp hp _=>?_;rw[wW,hp] at e;exact⟨i,p,ac,hp,by exact aU ‹_›⟩
theorem vg{k:V}{ps:af (V×V)}(e:bI k ps=aC):dN k ps=aC:=by
 rw[ym] at e;cases h:dN k ps with
 |none=>rfl
 |some i=>rw[h] at e;refine bH (kY h) λp hp _=>?_;rewrite[wW] at e;exact eP (hp▸e).symm
section
variable{A:aW}{s:aq}{ρ:af ao}{st:af O}{E:ak->aq->Prop}
noncomputable abbrev cV(es:bj bQ)(n:ag):cM:={cls:=.type "dict",data:=.dict es n}
theorem vh{d:ao}{key:ak}{k:V}{es:bj bQ}{ep:ag}{ps:af (V×V)}{Q:aS ak->aq->Prop}(hu:A.units+8<b6)(pk:k.pure=aj)(hk:VR s.heap ρ key k)(ho:s.heap.get? d=ae (cV es ep))(he:kz s.heap ρ es.toList ps)(hn:cJ ps)(h1:∀v v' tk,bI k ps=ae v->VR s.heap ρ v' v->Q (ae v') {s with toks:=tk})(h2:bI k ps=aC->∀tk,Q aC {s with toks:=tk}):aw (ay Wc.prog Wc.w) A (wX d key) Q E s:=by
 unfold wX;try with_reducible refine cy ?_
 refine au (qr k 8 key A s _ pk hk hu λtk=>au (mz (s:={s with toks:=tk}) hu pk hk ho ac he hn ?_));cases e:bI k ps with
 |some v=>refine kS (vf e) λi p hi hp z2=>?_;subst z2;refine az hi<|bH (he.get' hp) λen Je q=>?_;rw[dS] at Je;exact au (iB (s:={s with toks:=tk}) ho ac (aD<|az Je (h1 _ _ _ e q.val)))
 |none=>exact az (vg e) (aD (h2 e _))
theorem qW{d:ao}{key v':ak}{k v:V}{es:bj bQ}{ep:ag}{ps:af (V×V)}{Q:cH->aq->Prop}(hu:A.units+8<b6)(pk:k.pure=aj)(hk:VR s.heap ρ key k)(hv:VR s.heap ρ v' v)(ho:s.heap.get? d=ae (cV es ep))(he:kz s.heap ρ es.toList ps)(hn:cJ ps)(hz:ps.length<=16777216)(h:∀h' tk jc n,dH d s.heap h'->h'.get? d=ae (cV jc n)->kz s.heap ρ jc.toList (du k v ps)->Q () {s with heap:=h',toks:=tk}):aw (ay Wc.prog Wc.w) A (dictSet d key v') Q E s:=by
 unfold dictSet;try with_reducible refine cy ?_
 refine au (qr k 8 key A s _ pk hk hu λtk=>?_);unfold wY;try with_reducible refine cy ?_
 refine au (mz (s:={s with toks:=tk}) hu pk hk ho ac he hn ?_);cases hi:dN k ps with
 |some i=>
  refine au (fN (au (wpAny_updateDict (s:={s with toks:=tk}) ho ac (wpAny_point (h _ _ (es.modify i λe=>{e with val:=v'}) ep (dF ..) ?_ ?_)))))
  ·exact gG _ ho ac
  ·exact az kA<|az hi<|az NI<|he.modify hv i
 |none=>
  refine au (fN (BQ (hz:=(jR (by have j1:=he.length;simp at j1;exact j1▸hz))) (s:={s with toks:=tk}) ho ac (h _ _ (es.push ⟨cG k,key,v'⟩) (ep+1) (dF ..) ?_ ?_)))
  ·exact gG _ ho ac
  ·exact az kA<|az hi<|az o5 (he.snoc ⟨pk,hk,ac,hv⟩)
theorem vi{d:ao}{key v':ak}{k v:V}{es:bj bQ}{ep:ag}{ps:af (V×V)}{Q:ak->aq->Prop}(hu:A.units+8<b6)(pk:k.pure=aj)(hk:VR s.heap ρ key k)(hv:VR s.heap ρ v' v)(ho:s.heap.get? d=ae (cV es ep))(he:kz s.heap ρ es.toList ps)(hn:cJ ps)(hz:ps.length<=16777216)(h1:∀u u' tk,bI k ps=ae u->VR s.heap ρ u' u->Q u' {s with toks:=tk})(h2:bI k ps=aC->∀h' tk jc n,dH d s.heap h'->h'.get? d=ae (cV jc n)->kz s.heap ρ jc.toList (ps++[(k,v)])->Q v' {s with heap:=h',toks:=tk}):aw (ay Wc.prog Wc.w) A (Ji d key v') Q E s:=by
 unfold Ji;try with_reducible refine cy ?_
 refine au (qr k 8 key A s _ pk hk hu λtk=>au (mz (s:={s with toks:=tk}) hu pk hk ho ac he hn ?_));cases e:bI k ps with
 |some u=>refine kS (vf e) λi p hi hp z3=>?_;subst z3;refine az hi<|bH (he.get' hp) λen Je q=>?_;rw[dS] at Je;exact au (iB (s:={s with toks:=tk}) ho ac<|az Je<|wpAny_bind (fN (aD (h1 _ _ _ e q.val))))
 |none=>
  refine az (vg e)<|wpAny_bind (fN (au (BQ (hz:=(jR (by have j1:=he.length;simp at j1;exact j1▸hz))) (s:={s with toks:=tk}) ho ac (aD (h2 e _ _ (es.push ⟨cG k,key,v'⟩) (ep+1) (dF ..) ?_ ?_)))))
  ·exact gG _ ho ac
  ·exact az o5 (he.snoc ⟨pk,hk,ac,hv⟩)
theorem Rel.qX{i:ag}{a:ao}{h:aO}(R:Rel h ρ st)(hb:gk<Wc.h₀.objs.size)(hi:ρ[i]?=ae a):(a==gk)=aQ:=by
 by_cases hz:i=0
 ·subst hz;exact R.zero.2.2 a hi
 have j1:=R.new i a hi hz;rw[jG];intro e;subst e;exact bS _ (lR hb j1)
theorem BS{d:ao}{key:ak}{k v:V}{es:bj bQ}{ep:ag}{ps:af (V×V)}{Q:ak->aq->Prop}(hu:A.units+9<b6)(pk:k.pure=aj)(hk:VR s.heap ρ key k)(ho:s.heap.get? d=ae (cV es ep))(he:kz s.heap ρ es.toList ps)(hn:cJ ps)(hv:bI k ps=ae v)(h:∀v' tk,VR s.heap ρ v' v->Q v' {s with toks:=tk}):aw (ay Wc.prog Wc.w) A (oS (.ref d) key) Q E s:=by
 have hT:s.TypeIs (.ref d) "dict":=⟨_,ho,ac⟩;unfold oS;try with_reducible refine cy ?_
 refine au (Jj hT (by decide) ?_);refine au (lM (name:=aB "__getitem__") hT Jk
  (gx Jk hT entry_dict_getitem ?_ (args_dict_getitem _ _)))
 refine(?_:aw _ _ (wX d key>>=_) _ _ s);refine au (vh hu pk hk ho he hn (λu u' tk e x=>?_) λe=>by replace e:=hv▸e;cases e);rw[hv] at e;(replace e:=aU e;subst e);exact aD ⟨_,ac,aD (h _ _ x)⟩
theorem BU{d:ao}{key v':ak}{k v:V}{es:bj bQ}{ep:ag}{ps:af (V×V)}{Q:cH->aq->Prop}(hu:A.units+9<b6)(pk:k.pure=aj)(hk:VR s.heap ρ key k)(hv:VR s.heap ρ v' v)(ho:s.heap.get? d=ae (cV es ep))(he:kz s.heap ρ es.toList ps)(hn:cJ ps)(hz:ps.length<=16777216)(h:∀h' tk jc n,dH d s.heap h'->h'.get? d=ae (cV jc n)->kz s.heap ρ jc.toList (du k v ps)->Q () {s with heap:=h',toks:=tk}):aw (ay Wc.prog Wc.w) A (wZ (.ref d) key v') Q E s:=by
 have hT:s.TypeIs (.ref d) "dict":=⟨_,ho,ac⟩;unfold wZ;try with_reducible refine cy ?_
 refine au (Jj hT (by decide) ?_);refine au (lM (name:=aB "__setitem__") hT slot_dict_setitem
  (gx slot_dict_setitem hT entry_dict_setitem ?_ (args_dict_setitem _ _ _)))
 refine au (qY hT ?_);refine(?_:aw _ _ (dictSet d key v'>>=_) _ _ s);exact au (qW hu pk hk hv ho he hn hz λh' tk jc n a b c=>aD ⟨.none,ac,aD (h h' tk jc n a b c)⟩)
theorem in_dict{d:ao}{key:ak}{k:V}{es:bj bQ}{ep:ag}{ps:af (V×V)}{Q:ak->aq->Prop}(hu:A.units+9<b6)(hd:(d==gk)=aQ)(pk:k.pure=aj)(hk:VR s.heap ρ key k)(ho:s.heap.get? d=ae (cV es ep))(he:kz s.heap ρ es.toList ps)(hn:cJ ps)(h:∀tk,Q (.bool (bI k ps).isSome) {s with toks:=tk}):aw (ay Wc.prog Wc.w) A (BV .In key (.ref d)) Q E s:=by
 have hT:s.TypeIs (.ref d) "dict":=⟨_,ho,ac⟩;refine au ?_;unfold contains;try with_reducible refine cy ?_
 refine au (qU hT Jl.lookup ?_);refine az (aG (by rw[beq_builtin_none];exact cE))<|wpAny_bind (wpAny_callSpecialUnlessNone?_slot (name:=aB "__contains__") hT Jl
  (gx Jl hT entry_dict_contains ?_ (args_dict_contains _ _)))
 refine(?_:aw _ _ (wX d key>>=_) _ _ s);refine au (vh hu pk hk ho he hn (λu u' tk e x=>?_) λe tk=>?_)
 ·have j1:=h tk;rw[e] at j1;exact aD ⟨_,ac,w6 (aD j1)⟩
 ·have j2:=h tk;replace j2:=e▸j2;exact au (wpAny_pendingKey_other hd (aD ⟨_,ac,w6 (aD j2)⟩))
end
section
variable{A:aW}{s:aq}{ρ:af ao}{st:af O}{E:ak->aq->Prop}
noncomputable abbrev eM(items:bj ak)(n:ag):cM:={cls:=.type "list",data:=.seq items n}
theorem cQ{h:aO}{a:ao}{items:bj ak}{n:ag}(e:h.get? a=ae (eM items n)):h.IsList a items:=⟨_,e,ac,n,ac⟩
theorem pairs_at{A:aW}{items dB:bj ak}{vs ws:af V}(r:eB s.heap ρ items.toList vs)(r2:eB s.heap ρ dB.toList ws)(pv:V.eI vs=aj)(pw:V.eI ws=aj)(hu:A.units+8<b6):∀j (h1:j<items.size) (h2:j<dB.size),EqAt A s items[j] dB[j] (V.beq (vs.getD j .none) (ws.getD j .none)):=by
 intro j h1 h2;have MP:j<vs.length:=by refine dm r.length ?_;trivial
 have MQ:j<ws.length:=by refine dm r2.length ?_;trivial
 refine bH (r.get (dq MP)) λv0 e1 x1=>?_;refine bH (r2.get (dq MQ)) λw0 e2 x2=>?_;have ST:items[j]=v0:=by
  have j1:items[j]?=ae v0:=by refine dm (dS) ?_;exact e1
  replace j1:=(jK h1)▸j1;exact aU j1
 have SZ:dB[j]=w0:=by
  have j2:dB[j]?=ae w0:=by refine dm (dS) ?_;exact e2
  replace j2:=(jK h2)▸j2;exact aU j2
 refine az ST<|az SZ ?_;have d1:vs.getD j .none=vs[j]:=by simp[MP]
 have d2:ws.getD j .none=ws[j]:=by simp[MQ]
 exact az d1<|az d2 (Ep vs 8 ws 8 A pv pw hu j MP MQ v0 w0 x1 x2)
theorem EA{vs ws:af V}(e:vs.length=ws.length):(c5 vs.length).all (λj=>V.beq (vs.getD j .none) (ws.getD j .none))=V.oR vs ws:=by have j1:=yl vs ws;rw[<-e,Nat.min_self] at j1;simpa using j1
theorem NJ{vs ws:af V}(e:vs.length≠ws.length):V.oR vs ws=aQ:=by
 cases h:V.oR vs ws with
 |false=>rfl
 |true=>exact aV (bf t4 (V.tT.mp h)) e
open Classical in
noncomputable def NK(h:aO)(ρ:af ao)(x:V)(y:ak):aY:=bh (VR h ρ y x)
theorem GW{h:aO}{x v:V}{y:ak}(px:x.pure=aj)(pv:v.pure=aj)(hy:VR h ρ y v):NK h ρ x y=V.beq v x:=by
 by_cases e:VR h ρ y x
 ·have h1:NK h ρ x y=aj:=by unfold NK;simp[e]
  refine az h1<|az (VR.unique v x 8 8 y pv px hy e) ?_;rewrite[V.beq_refl];rfl
 ·have h1:NK h ρ x y=aQ:=by unfold NK;simp[e]
  refine az h1 ?_
  symm
  cases q:V.beq v x with
  |false=>rfl
  |true=>exact aV (V.beq_iff.mp q▸hy) e
theorem Ax{vs:af V}{i:ag}{v:V}(p:V.eI vs=aj)(e:vs[i]?=ae v):v.pure=aj:=by exact d5 p _ (cw e)
theorem NL{A:aW}{items:bj ak}{vs:af V}{x':ak}{x:V}(r:eB s.heap ρ items.toList vs)(hx:VR s.heap ρ x' x)(px:x.pure=aj)(pv:V.eI vs=aj)(hu:A.units+8<b6):∀y,y∈items->EqAt A s y x' (NK s.heap ρ x y):=by intro y hy;refine eh (eX.mp (sT.mpr hy)) λi hi=>bH (r.get' hi) λv hv xv=>?_;have p:=Ax pv hv;exact az (GW px p xv) (om v x 8 8 A y x' p px xv hx hu)
theorem Jm{h:aO}{l:af ak}{vs:af V}{x:V}(r:eB h ρ l vs)(px:x.pure=aj)(pv:V.eI vs=aj):l.any (NK h ρ x)=Internal.has x vs:=by
 induction vs generalizing l with
 |nil=>exact r.GU ac
 |cons v vs ih=>refine r.Ao λ_ _ a b=>?_;have p:=d9 pv;exact az Wb<|az (GW px p.1 a)<|az (ih b p.2) (bf (·||_) (V.beq_comm _ _))
theorem Rk(x y:aM)(hy:y.length=1):(!(Builtin.Str.occurrences x y 0 x.length 1).isEmpty)=x.cps.toList.any λc=>[c]==y.cps.toList:=by
 obtain⟨c,hc⟩:∃c,y=⟨#[c]⟩:=by
  rcases y with⟨⟨l⟩⟩;simp[PySem.Str.length] at hy
  match l,hy with
  |[c],_=>exact⟨c,ac⟩
 subst hc;rewrite[PySem.StrLaws.found_one,V7];refine az di ?_;rewrite[GX];constructor
 ·intro m;exact⟨c,m,by exact gE _⟩
 ·rintro⟨d,m,e⟩;simp at e;exact e▸m
@[elab_as_elim]theorem vj{r b:aY}{v:V}{st':af O}{motive:V->af O->Prop}(e:yes r b st=ae (v,st'))(k:motive (.bool (if r then b else !b)) st):motive v st':=by induction r<;>exact bo e k
theorem yy(c:aY){a b v:V}{a' b':ak}{st':af O}(R:Rel s.heap ρ st)(hu:A.units+20<b6)(x:VR s.heap ρ a' a)(y:VR s.heap ρ b' b)(e:QA c a b st=ae (v,st')):aw (ay Wc.prog Wc.w) A (BV (if c then .Eq else .NotEq) a' b') (gz s ρ v st') dC s:=by
 refine xZ e (λ_ _ e=>?_) λe=>ou x e (λz t e=>?_) λe=>?_
 ·refine mY x y e λi t j u e=>vj e ?_;induction c
  ·exact ne_int (dv R (.bool _))
  ·exact eq_int (dv R (.bool _))
 ·refine bb e λz' hz e=>y.sR hz λu=>vj e ?_;induction c
  ·exact PyProof.Rows.ne_str (dv R (.bool _))
  ·exact PyProof.Rows.eq_str (dv R (.bool _))
 ·refine Ew R x y e λa i1 n1 xs b i2 n2 ys h1 r1 h2 r2 e=>bC e λq e=>?_;rw[cY] at q;refine vj e ?_;have z1:=r1.size;have z2:=r2.size;have pr:=pairs_at (A:=A.in1) r1 r2 q.1 q.2 (M8 hu ac);by_cases hl:i1.size=i2.size
  ·cases c
   ·exact RcNeAt.lists (cQ h1) (cQ h2) hl (rL (bc _ _) hu) pr Wc.prog Wc.w _ _<|az r1.size<|az (EA (by lia)) (dv R (.bool _))
   ·exact eq_listAt (cQ h1) (cQ h2) hl (rL (bc _ _) hu) pr<|az r1.size<|az (EA (by lia)) (dv R (.bool _))
  ·refine az (NJ (by lia)) ?_;cases c
   ·exact RcNeAt.lists_lengths (cQ h1) (cQ h2) (by simpa using hl) (rL (bc _ _) hu) Wc.prog Wc.w _ _ (dv R (.bool _))
   ·exact eq_list_lengthsAt (cQ h1) (cQ h2) (by simpa using hl) (by exact rL (bc _ _) hu) (dv R (.bool _))
theorem kZ{op:GD}{a b v:V}{a' b':ak}{st':af O}(R:Rel s.heap ρ st)(hb:gk<Wc.h₀.objs.size)(hu:A.units+20<b6)(x:VR s.heap ρ a' a)(y:VR s.heap ρ b' b)(e:mo op a b st=ae (v,st')):aw (ay Wc.prog Wc.w) A (BV (iy op) a' b') (gz s ρ v st') dC s:=by
 have nin:∀{items vs},V.pure a=aj->V.eI vs=aj->eB s.heap ρ (items:bj ak).toList vs->∀y∈items,EqAt A.in1 s y a' (NK s.heap ρ a y):=λp q r=>NL (A:=A.in1) r x p q (M8 hu ac);induction op with
 |eq=>exact yy aj R hu x y e
 |ne=>exact yy aQ R hu x y e
 |lt=>refine mY x y e λi t j u e=>?_;refine bo e ?_;exact Rl (dv R (.bool _))
 |le=>refine mY x y e λi t j u e=>?_;refine bo e ?_;exact PyProof.Rows.le_int (dv R (.bool _))
 |gt=>refine mY x y e λi t j u e=>?_;refine bo e ?_;exact PyProof.Rows.gt_int (dv R (.bool _))
 |isin=>
  refine ou y e (λz t e=>?_) λe=>?_
  ·exact bb e λz' hz e=>x.sR hz λu=>bC e λq e=>bo e<|PyProof.Rows.in_str<|az (Rk _ _ q) (dv R (.bool _))
  ·exact bb e λi hi e=>y.jg hi λp hp=>Eu R hp e λes n ps _ hd he hn e=>bC e λq e=>bo e<|in_dict (rL (bL (lB ac)) hu) (R.qX hb hp) q x hd he hn λtk=>eC R (.bool _) tk
 |mP=>
  refine mB y e (λa1 items vs t r e=>?_) λe=>?_
  ·refine bC e λq e=>?_;rw[cY] at q;exact bo e<|notIn_tupleAt _ t.is (nin q.1 q.2 r)<|dm Jg<|az (Jm r q.1 q.2) (dv R (.bool _))
  ·refine bb e λi hi e=>y.jg hi λp hp=>oq R hp e λitems n ys _ hd r e=>bC e λq e=>?_;rw[cY] at q;exact bo e<|notIn_listAt _ (cQ hd) (nin q.1 q.2 r)<|dm Jg<|az (Jm r q.1 q.2) (dv R (.bool _))
 |X6=>
  refine Av y e (λe=>Av x e (λe=>?_) λe=>?_) λe=>(dy e).elim
  ·refine bo e ?_;exact wpAny_is_self ac (dv R (.bool _))
  ·refine bb e λvs hv e=>x.kB hv λa1 items t r=>bo e ?_;exact is_ref_none (dv R (.bool _))
end
theorem sU{i:aJ}{n k:ag}(e:place i n=ae k):-(2^60)<i/\i<2^60/\seqIndex? i n=ae k/\k<n/\((0<=i/\k=i.toNat)\/(i<0/\k=(i+n).toNat/\-(n:aJ)<=i)):=by
 unfold place at e;by_cases f:fits i=aj
 ·rw[aF f] at e;have f:=cb.mp f;have f1:-(2^60)<i:=cA f.1;have f2:i<2^60:=cA f.2;by_cases q:(bh (0<=i)&&bh (i<n))=aj
  ·replace e:=(aF q)▸e;have q:=cb.mp q;have q1:=cA q.1;have q2:=cA q.2;refine dm (aU e) ⟨f1,f2,?_,((NM q1).mpr q2),.inl ⟨q1,ac⟩⟩;unfold seqIndex?;refine az (aG (xW.mpr q1)) ?_;simp[q1,q2]
  ·replace e:=(aG q)▸e;by_cases z:(bh (i<0)&&bh (0<=i+n))=aj
   ·replace e:=(aF z)▸e;have z:=cb.mp z;have z1:=cA z.1;exact dm (aU e) (have z2:=cA z.2;have z3:-(n:aJ)<=i:=Int.le_of_sub_nonneg ((Int.sub_neg i n).symm▸z2);⟨f1,f2,seqIndex_neg z1 z3,(NM z2).mpr (Wf (Int.add_lt_add_right z1 n) (Int.le_of_eq (NN _))),.inr ⟨z1,ac,z3⟩⟩)
   ·exact eP ((aG z)▸e)
 ·replace e:=(aG f).symm.trans e;cases e
section
variable{A:aW}{s:aq}{ρ:af ao}{st:af O}{E:ak->aq->Prop}
theorem EB{α:Type}{l:af α}{o:aS ag}{v:α}(e:o.bind (l[·]?)=ae v):∃k,o=ae k/\l[k]?=ae v:=by
 induction o with
 |none=>exact eP e
 |some k=>exact⟨k,ac,e⟩
theorem EC{value slice:aK}{a b v:V}{a' b':ak}{st':af O}(hs:∀o i,tK slice aQ o i=tM [o,i] (oS o i))(R:Rel s.heap ρ st)(hu:A.units+20<b6)(x:VR s.heap ρ a' a)(y:VR s.heap ρ b' b)(e:vH a b st=ae (v,st')):aw (ay Wc.prog Wc.w) A (BW value slice a' b') (gz s ρ v st') dC s:=by
 refine mB x e (λa i vs t r e=>?_) λe=>ou x e (λsx t e=>?_) λe=>?_
 ·exact bb e λk hk e=>y.jz hk λu=>bb e λu q e=>bo e<|bH (EB q) λk q1 q2=>Ys (sU q1) λf1 f2 f3 f4 _=>bH (r.get q2) λu' Gx xu=>t5 (ops:=[_,_]) ⟨_,t.ex.choose_spec,ac⟩ Rm.lookup (P.getItem_tuple t.ex.choose_spec (by lia) (by lia) (by refine az r.size ?_;exact f3) (by refine dm (dS) ?_;exact Gx) (dv R xu)) (hs _ _)
 ·refine bb e λk hk e=>y.jz hk λu=>bb e λu q e=>bo e<|bH (wM.mp q) λj hp q=>Ys (sU hp) λf1 f2 f3 f4 _=>t5 (ops:=[_,_]) (T:="str") ac F.slot_str_getitem.lookup (PyProof.Rows.getItem_str (c:=u) ?_ (by refine az f3 ?_;exact q) (eC R (.str _ _) _)) (hs _ _);exact Bool.or_eq_false_iff.mpr ⟨t6 (xW.mpr (vk (by decide) (vl f1))),t6 (Int.not_le.mpr (yz f2 (by decide)))⟩
 ·refine bb e λi hi e=>x.jg hi λp hp=>Ey R hp e (λitems n vs hd r e=>?_) λes n ps hd he hn e=>?_
  ·refine bb e λk hk e=>y.jz hk λt=>bb e λu q e=>bo e<|bH (EB q) λk q1 q2=>Ys (sU q1) λf1 f2 f3 f4 f5=>bH (r.get q2) λu' Gx xu=>t5 (ops:=[_,_]) ⟨_,hd,ac⟩ slot_list_getitem.lookup ?_ (hs _ _);rcases f5 with⟨g0,rfl⟩|⟨g0,rfl,g1⟩
   ·exact wpAny_getItem_list (cQ hd) g0 (yz f2 (by decide)) (by refine dm (dS) ?_;exact Gx) (dv R xu)
   ·exact wpAny_getItem_list_neg (cQ hd) g0 (by refine az r.size ?_;exact g1) (vk (by decide) (vl f1)) (by(refine az r.size ?_;refine dm (dS) ?_);exact Gx) (dv R xu)
  ·exact bC e λq e=>bb e λu q2 e=>bo e<|tail_any (ops:=[_,_]) ⟨_,hd,ac⟩ Jk.lookup (BS (rL (bL (lB ac)) hu) q y hd he hn q2 λv' tk xv=>eC R xv tk) (hs _ _)
end
section
variable{A:aW}{s:aq}{ρ:af ao}{st:af O}{E:ak->aq->Prop}
theorem VR.str_inv{h:aO}{v':ak}{x:aM}(y:VR h ρ v' (.str x)):∃t,v'=.str x t:=y.sR ac λt=>⟨t,ac⟩
theorem VR.int_inv{h:aO}{v':ak}{x:aJ}(y:VR h ρ v' (.int x)):∃t,v'=.int x t:=y.jz ac λt=>⟨t,ac⟩
theorem VR.bool_inv{h:aO}{v':ak}{x:aY}(y:VR h ρ v' (.bool x)):v'=.bool x:=by cases y;rfl
theorem VR.none_inv{h:aO}{v':ak}(y:VR h ρ v' .none):v'=.none:=by cases y;rfl
theorem VR.BX{h:aO}{v':ak}{i:ag}(y:VR h ρ v' (.ref i)):∃a,v'=.ref a/\ρ[i]?=ae a:=y.jg ac λa p=>⟨a,ac,p⟩
theorem VR.Rn{h:aO}{v':ak}{vs:af V}(y:VR h ρ v' (.tup vs)):∃a items,v'=.ref a/\Tp h ρ a items/\eB h ρ items.toList vs:=y.kB ac λa i t r=>⟨a,i,ac,t,r⟩
theorem g9{cW:aq}{v:V}{st':af O}{v':ak}{s':aq}{c7:af ao}{eK:af O}(g:Good mA s ρ eK cW c7)(p:gz cW c7 v st' v' s'):gz s ρ v st' v' s':=
 let⟨dP,a,b⟩:=p;⟨dP,g.trans a,b⟩
theorem jS{cW iL:aq}{v:V}{st':af O}{c7:af ao}{eK:af O}{M:gY}{t:cX ak}{E:ak->aq->Prop}(g:Good mA s ρ eK cW c7)(h:aw M A t (gz cW c7 v st') dC iL):aw M A t (gz s ρ v st') E iL:=wm h λ_ _=>g9 g
theorem ED{value slice:aK}{a v:V}{a':ak}{u:Tok}{st':af O}(hs:∀o i,tK slice aQ o i=tM [i,o] (oS o i))(R:Rel s.heap ρ st)(x:VR s.heap ρ a' a)(e:wD a st=ae (v,st')):aw (ay Wc.prog Wc.w) A (BW value slice a' (.ref s.heap.objs.size)) (gz s ρ v st') dC {s with heap:=s.heap.push {cls:=.type "slice",data:=.fields #[.int 1 u,.none,.none]}}:=by refine bb e λvs hv e=>x.kB hv λa i t r=>bC e λq e=>?_;simp -iota only[cY,di] at q;refine bo e ?_;have g:=ig R {cls:=.type "slice",data:=.fields #[.int 1 u,.none,.none]} s.toks;have tk:dc s.heap ρ (s.heap.push {cls:=.type "slice",data:=.fields #[.int 1 u,.none,.none]}) ρ:=eR gM;have t1:=tk _ _ t;have hT:IsTup (s.heap.push {cls:=.type "slice",data:=.fields #[.int 1 u,.none,.none]}) a i:=eh (t1.ex) λn e=>⟨_,e,ac,n,ac⟩;refine t5 (ops:=[_,_]) (T:="tuple") ⟨_,t1.ex.choose_spec,ac⟩ Rm.lookup (getItem_tuple_from hT (Ro ..) (aP 1) (by refine az r.size ?_;exact q.1) ?_ (jR (by refine az r.size ?_;exact q.2))) (hs _ _);exact g9 g (BP (s:={s with heap:=s.heap.push {cls:=.type "slice",data:=.fields #[.int 1 u,.none,.none]}}) g.rel (by simpa using(r.mono tk (Pre.refl (ρ:=ρ))).drop 1) s.toks)
theorem Lb(x:aM):Jn x aC (ae 1)=⟨(x.cps.toList.take 1).toArray⟩:=by
 rcases x with⟨⟨l⟩⟩;unfold Jn
 match l with
 |[]=>rfl
 |[c]=>rfl
 |c::d::r=>have:=slice_closes_to (x:=⟨(c::d::r).toArray⟩) (j:=1) ⟨by trivial,by simp;lia⟩;rw[jp] at this;unfold Jn at this;exact this
theorem GY{value slice:aK}{a b v:V}{a' b':ak}{st':af O}(hs:∀o i,tK slice aQ o i=tM [i,o] (oS o i))(R:Rel s.heap ρ st)(x:VR s.heap ρ a' a)(y:VR s.heap ρ b' b)(e:x6 a b st=ae (v,st')):aw (ay Wc.prog Wc.w) A (BW value slice a' (.ref s.heap.objs.size)) (gz s ρ v st') dC {s with heap:=s.heap.push {cls:=.type "slice",data:=.fields #[.none,b',.none]}}:=by
 refine ou x e (λsx t e=>?_) λe=>?_
 ·refine bb e λk hk e=>y.jz hk λu=>bC e λq e=>?_;simp only[fits,cY,di] at q;refine fB (dw e) λz3 z4=>?_;subst z3;subst z4;rcases q with⟨rfl,q2⟩;obtain⟨T,id,hl,hT,hg⟩:=SBH.sliceItem_ns (A:=A) (E:=dC) (s:=s) (x:=sx) (t:=t) (j:=1) (uj:=u) (Q:=gz s ρ (.str ⟨(sx.cps.toList.take 1).toArray⟩) st') (λh ob q=>fB q λa b=>⟨a.kept gM (by rw[eW];exact bc _ _),b.trans (mX.of_kept gM (by rw[eW];exact bc _ _))⟩:KeptH (λh'=>Rel h' ρ st'/\mX mA s.heap ρ h' ρ)) ⟨R,mX.refl _ _ _⟩
   (λh' t' kk q=>fB q λa b=>⟨ρ,⟨a,b,ac,ac⟩,by rw[Lb];exact VR.str _ _⟩) (jR (tB q2 ac))
  exact t5 (ops:=[_,_]) hT hl hg (hs _ _)
 ·refine bb e λi hi e=>bb e λk hk e=>x.jg hi λa p=>y.jz hk λu=>oq R p e λitems n vs l hd r e=>bC e λq e=>?_;simp -iota only[fits,cY,di] at q;refine qg (lL e) λq2 z1 z2=>?_;subst z1;subst z2;obtain⟨kn,rfl⟩:∃kn:ag,k=(kn:aJ):=⟨k.toNat,by lia⟩;have g:=ig R {cls:=.type "slice",data:=.fields #[.none,.int kn u,.none]} s.toks;have tk:dc s.heap ρ (s.heap.push {cls:=.type "slice",data:=.fields #[.none,.int kn u,.none]}) ρ:=eR gM;have Jo:=gM (o:={cls:=.type "slice",data:=.fields #[.none,.int kn u,.none]}) _ _ hd;refine t5 (ops:=[_,_]) (T:="list") ⟨_,Jo,ac⟩ slot_list_getitem.lookup (wpAny_getItem_list_slice (cQ Jo) (Ro ..) .none (.int kn u) .none (by decide) ?_ (jR (by refine az r.size ?_;lia))) (hs _ _);refine g9 g (yp (s:={s with heap:=s.heap.push {cls:=.type "slice",data:=.fields #[.none,.int kn u,.none]}}) g.rel ?_ s.toks 0);rw[slicePick_upto'];simpa using(r.mono tk (Pre.refl (ρ:=ρ))).take kn
theorem Lc{a v:V}{a':ak}{st':af O}(R:Rel s.heap ρ st)(x:VR s.heap ρ a' a)(k:aJ)(ha:a=.int k):aw (ay Wc.prog Wc.w) A (unaryOp .USub a') (gz s ρ (.int (-k)) st) dC s:=by exact x.jz (ha▸ac) λt=>PyProof.Rows.neg_int (eC R (.int _ _) _)
noncomputable abbrev YZ(s:aq)(ρ:af ao)(st':af O):cH->aq->Prop:=λ_ s'=>∃dP,Good mA s ρ st' s' dP
theorem BY{l:ao}{items:bj ak}{n:ag}{k:aJ}{t:Tok}{v:ak}{Q:cH->aq->Prop}(hl:s.heap.get? l=ae (eM items n))(h0:0<=k)(Y0:k<2^63)(hn:k<items.size)(hQ:Q () {s with heap:=s.heap.update l (cK (·.setIfInBounds k.toNat v))}):aw (ay Wc.prog Wc.w) A (wZ (.ref l) (.int k t) v) Q E s:=by
 have hT:s.TypeIs (.ref l) "list":=⟨_,hl,ac⟩;unfold wZ;try with_reducible refine cy ?_
 first|refine au (aD ?_)|skip
 refine au (Jj hT (by decide) ?_);refine au (lM (name:=aB "__setitem__") hT slot_list_setitem
  (gx slot_list_setitem hT entry_list_setitem ?_ (args_list_setitem _ _ _)))
 refine((au (wpAny_listSubscript_int (fitsIndex_of h0 Y0) ?_)):aw _ _ (Builtin.List.listSubscript? (.int k t)>>=_) _ _ s);clear Y0;refine eh (Wg h0) λj z5=>?_;subst z5;have hj:j<items.size:=by lia
 refine au (au (wpAny_seqItemAt hl ac (aD<|az (jK hj) ?_)));refine au (wpAny_setSeqItemAt hl ac ?_)
 first
  |exact au (aD (aD ⟨.none,ac,aD hQ⟩))
  |exact wpAny_pure ⟨.none,rfl,wpAny_pure hQ⟩
theorem BZ{a b c:V}{a' b' c':ak}{st':af O}{u:cH}(R:Rel s.heap ρ st)(hu:A.units+20<b6)(x:VR s.heap ρ a' a)(y:VR s.heap ρ b' b)(z:VR s.heap ρ c' c)(e:yb a b c st=ae (u,st')):aw (ay Wc.prog Wc.w) A (wZ a' b' c') (YZ s ρ st') dC s:=by
 refine bb e λai hi e=>x.jg hi λa p=>Ey R p e (λitems n vs hd r e=>?_) λes n ps hd he hn e=>?_
 ·refine bb e λk hk e=>y.jz hk λt=>bC e λq e=>?_;simp -iota only[fits,cY,di] at q;refine fB (gA e) λhl z6=>az z6 ?_;obtain⟨n',sQ⟩:∃n',(s.heap.update a (cK (·.setIfInBounds k.toNat c'))).get? a=ae (eM (items.setIfInBounds k.toNat c') n'):=⟨_,qZ hd _⟩;have sb:=dF s.heap a (cK (·.setIfInBounds k.toNat c'));refine BY hd (by lia) (by lia) (by refine az r.size ?_;lia) ⟨ρ,ii R s.toks p hl.2 sb sQ (.list ?_)⟩;exact az Wh ((r.set z _).mono (R.lJ (cw p) sb) Pre.refl)
 ·refine bC e λq e=>?_;simp only[cY,di] at q;refine fB (gA e) λhl z7=>az z7<|BU (rL (bL (lB ac)) hu) q.1 y z hd he hn (bz q.2) λh' tk jc n' sb sQ ND=>⟨ρ,ii R tk p hl.2 sb sQ (.dict (ND.mono (R.lJ (cw p) sb) Pre.refl) hn.du)⟩
end
theorem i3{x y:aA}(e:aB x=aB y):x=y:=by
 rw[Rp,Rp] at e;injection e with e;have e:x.toList.map M9=y.toList.map M9:=by simpa using bf Wi e
 have j1:x.toList=y.toList:=by refine(Rq ?_).mp e;intro a b h;exact Char.ext (UInt32.toNat_inj.mp h)
 exact String.toList_inj.mp j1
theorem vm{k:ak}{x y:aA}{t:Tok}(e:k=.str (aB x) t):k.isStr (aB y)=(x==y):=by
 subst e;show(aB x==aB y)=_;by_cases h:x=y
 ·subst h;simp
 ·have j1:aB x≠aB y:=λe=>h (i3 e);exact(jG.mpr j1).trans<|az (jG.mpr h) ac
section
variable{h:aO}{ρ:af ao}
theorem wU.length{es:af bQ}{ps:af (aA×V)}(x:wU h ρ es ps):es.length=ps.length:=by
 induction x with
 |nil=>rfl
 |cons _ _ ih=>simp[ih]
theorem wU.find_some{es:af bQ}{ps:af (aA×V)}(x:wU h ρ es ps){y:aA}{v:V}(e:rX y ps=ae v):∃en,es.find? (λe=>e.key.isStr (aB y))=ae en/\VR h ρ en.val v:=by
 induction x with
 |nil=>exact eP e
 |@cons en p es ps a _ ih=>
  refine eh a.key λt hk=>?_;obtain⟨n,u⟩:=p;replace e:=Af▸e;refine az (Rt) ?_;refine az (vm hk) ?_;cases q:n==y with
  |true=>(replace e:=q▸e;replace e:=(aF ac)▸e);exact aU e▸⟨en,ac,a.val⟩
  |false=>replace e:=q▸e;exact ih e
theorem wU.find_none{es:af bQ}{ps:af (aA×V)}(x:wU h ρ es ps){y:aA}(e:rX y ps=aC):es.find? (λe=>e.key.isStr (aB y))=aC:=by
 induction x with
 |nil=>rfl
 |@cons en p es ps a _ ih=>
  refine eh a.key λt hk=>?_;obtain⟨n,u⟩:=p;replace e:=Af▸e;refine(Rt).trans ?_;refine az (vm hk) ?_;cases q:n==y with
  |true=>(replace e:=q▸e;replace e:=(aF ac)▸e);exact eP e.symm
  |false=>replace e:=q▸e;exact ih e
theorem wU.noRef{es:af bQ}{ps:af (aA×V)}(x:wU h ρ es ps):es.any (·.refKey)=aQ:=by
 induction x with
 |nil=>rfl
 |@cons en p es ps a _ ih=>refine eh a.key λt hk=>az Wb<|az ih ?_;simp[DictEntry.refKey,hk]
theorem Ay{es:bj bQ}{n:ag}{ps:af (aA×V)}{c:ak}{d:aS ao}{sl:bj (aS ak)}(x:wU h ρ es.toList ps){y:aA}:(∀v,rX y ps=ae v->∃v',w8 (aB y) ⟨c,d,.dict es n,sl⟩=ae (ae v')/\VR h ρ v' v)/\(rX y ps=aC->w8 (aB y) ⟨c,d,.dict es n,sl⟩=ae aC):=by
 refine⟨λv e=>?_,λe=>?_⟩
 ·refine bH (x.find_some e) λen a b=>⟨en.val,?_,b⟩;unfold w8;dsimp only;(refine az a ?_;rfl)
 ·unfold w8;dsimp only;(refine az (x.find_none e) ?_;refine az x.noRef ?_);rfl
theorem EE{y:aA}{v:V}{ps:af (aA×V)}:(u6 y v ps).length<=ps.length+1:=by
 induction ps with
 |nil=>exact aP _
 |cons p r ih=>
  obtain⟨n,u⟩:=p;refine az Ag ?_;split
  ·simp
  ·exact jF ih
theorem GZ{es:bj bQ}{n:ag}{ps:af (aA×V)}{y:aA}{v':ak}{v:V}{t:Tok}(x:wU h ρ es.toList ps)(yv:VR h ρ v' v):∃jc n',Jp (aB y) (wR Wc.w.params (aB y)) (.str (aB y) t) v' {cls:=.type "dict",data:=.dict es n}={cls:=.type "dict",data:=.dict jc n'}/\wU h ρ jc.toList (u6 y v ps):=by
 refine az Obj.putName_eq ?_
 have main:∀(l:af bQ)(ps:af (aA×V)),wU h ρ l ps->
   wU h ρ (match l.findIdx? (·.key.isStr (aB y)) with|some i=>l.modify i λe=>{e with val:=v'}|none=>l++[⟨wR Wc.w.params (aB y),.str (aB y) t,v'⟩]) (u6 y v ps):=by
  intro l ps x
  induction x with
  |nil=>exact .cons ⟨⟨t,ac⟩,ac,yv⟩ .nil
  |@cons en p es ps a b ih=>
   refine eh a.key λt' hk=>?_;rcases p with⟨n,u⟩;refine az (List.findIdx?_cons) ?_;refine az (vm hk)<|az Ag ?_;cases q:n==y with
   |true=>exact .cons ⟨a.key,a.hash,yv⟩ b
   |false=>
    cases q2:es.findIdx? (·.key.isStr (aB y)) with
    |none=>rw[q2] at ih;exact .cons a ih
    |some i=>rw[q2] at ih;exact .cons a ih
 rcases es with⟨es⟩;have j1:=main es ps x;unfold Obj.putNameByArray;dsimp only;rw[List.findIdx?_toArray];cases q:es.findIdx? (·.key.isStr (aB y)) with
 |some i=>rw[q] at j1;exact⟨_,_,ac,by refine az NI ?_;exact j1⟩
 |none=>replace j1:=q▸j1;exact⟨_,_,ac,by refine az o5 ?_;exact j1⟩
end
section
variable{A:aW}{s:aq}{ρ:af ao}{st:af O}{K:jm}
theorem Rel.U8{i d:ag}{a:ao}{c:aA}{h:aO}{ps:af (aA×V)}(R:Rel h ρ st)(hi:ρ[i]?=ae a)(e:st[i]?=ae (.inst c d))(e':st[d]?=ae (.ns ps)):∃C dx es n,Wc.cls c=ae C/\ρ[d]?=ae dx/\wU h ρ es.toList ps/\ps.length<=100/\h.get? a=ae (lI C dx)/\h.get? dx=ae {cls:=.type "dict",data:=.dict es n}/\InstAt h a (lI C dx) C (ae {cls:=.type "dict",data:=.dict es n}):=by exact kS (R.inst hi e) λC dx e1 e2 e3=>kS (R.ns e3 e') λes n e4 e5 e6=>⟨C,dx,es,n,e2,e3,e5,e6,e1,e4,⟨e1,ac,ac,e4⟩⟩
theorem G0{C:ao}{x:aA}{od:cM}{v:ak}(c:IS K C)(f:wF K C x)(l:w8 (aB x) od=ae (ae v)):findObj K C (ae od) (aB x)=ae (.value v):=by refine bH (any_some c.has) λcd hc hd=>?_;unfold findObj;refine az hc ?_;rewrite[wW];refine az f ?_;rewrite[wW];unfold W.ownOf;refine az (aF hd) ?_;dsimp only;refine az l ?_;rfl
theorem VR.handed{h:aO}{v':ak}{v:V}(x:VR h ρ v' v):handedIn v'=aj:=VR.casesOn (motive_1:=λv' _ _=>handedIn v'=aj) x ac (λ_=>ac) (λ_ _=>ac) (λ_ _=>ac) (λ_ _=>ac) λ_=>ac
@[elab_as_elim]theorem Az{α:Type}{v:V}{v':ak}{f:ag->af (aA×V)->P α}{r:α×af O}{motive:ak->Prop}(R:Rel s.heap ρ st)(x:VR s.heap ρ v' v)(e:Bf v f st=ae r)(k:∀d a C dx es n ps (c:aA),Wc.cls c=ae C->ρ[d]?=ae dx->wU s.heap ρ es.toList ps->ps.length<=100->s.heap.get? a=ae (lI C dx)->s.heap.get? dx=ae {cls:=.type "dict",data:=.dict es n}->InstAt s.heap a (lI C dx) C (ae {cls:=.type "dict",data:=.dict es n})->f d ps st=ae r->motive (.ref a)):motive v':=bb e λi hi e=>by refine x.jg hi λa p=>dQ e λo l e=>bb e λq hq e=>dQ e λo' l' e=>bb e λps hp e=>?_;obtain⟨C,dx,es,n,e1,e2,e3,e4,e5,e6,I⟩:=R.U8 p (Ek hq▸l) (KS hp▸l');exact k _ a C dx es n ps _ e1 e2 e3 e4 e5 e6 I e
theorem zH{a v:V}{a':ak}{x:aA}{st':af O}{expr:aY}(X:K.In Wc.h₀)(co:∀c C,Wc.cls c=ae C->IS K C)(fo:∀c C,Wc.cls c=ae C->wF K C x)(R:Rel s.heap ρ st)(y:VR s.heap ρ a' a)(e:getAttr a x st=ae (v,st')):aw (ay Wc.prog Wc.w) A (Ru a' (aB x) expr) (gz s ρ v st') dC s:=by exact Az R y e λd a C dx es n ps c e1 e2 e3 e4 e5 e6 I g=>bb g λu q g=>bo g<|bH ((Ay (n:=n) (c:=.type "dict") (d:=aC) (sl:=#[]) e3).1 _ q) λv' lk xv=>get_value (X.keeps R.base) I (co _ _ e1).hga (G0 (co _ _ e1) (fo _ _ e1) lk) xv.handed (eC R xv _)
theorem zI{a v:V}{a' v':ak}{x:aA}{st':af O}{u:cH}(X:K.In Wc.h₀)(co:∀c C,Wc.cls c=ae C->IS K C)(fo:∀c C,Wc.cls c=ae C->wF K C x)(R:Rel s.heap ρ st)(y:VR s.heap ρ a' a)(z:VR s.heap ρ v' v)(e:setAttr a x v st=ae (u,st')):aw (ay Wc.prog Wc.w) A (Rv a' (aB x) v') (YZ s ρ st') dC s:=by
 refine Az R y e λd a C dx es n ps c e1 e2 e3 e4 e5 e6 I g=>bC g λq g=>fB (gA g) λhl z1=>?_;subst z1;have c:=co _ _ e1;refine bH (any_some c.has) λcd hc hd=>lC (GZ (t:=s.toks+1) (n:=n) (y:=x) e3 z) λjc n' pe pn=>set_plain (X.keeps R.base) I c.hsa<|osa_open (s:={s with toks:=s.toks+1}) (r:=aC) (X.keeps R.base) I c.plain (by unfold takerIn;refine az (fo _ _ e1) ?_;rfl) λb=>?_;dsimp only;refine au (aD (au (au (wpAny_loadPart e5 (au ((looks_clsIn (X.keeps R.base) hc).here (s:={s with toks:=s.toks+1})<|az hd<|wpAny_pure (a:=ae dx) (au (aD (au ?_)))))))));unfold nsSet;refine au (au (pq (aD (au (wpAny_mkText (au (wpAny_loadPart e6 ?_)))))));dsimp only;have cc:(!es.any (·.key.isStr (aB x))&&es.any (·.refKey))=aQ:=by refine dm Jg<|dm Jg<|az e3.noRef ?_;rewrite[Wj];rfl
 rewrite[aRefKeyMayBeTheName_at];refine az cc ?_;have D':(s.heap.update dx (Jp (aB x) (wR Wc.w.params (aB x)) (.str (aB x) (s.toks+1)) v')).get? dx=ae {cls:=.type "dict",data:=.dict jc n'}:=by refine dm pe ?_;exact gG _ e6 (by refine az pe ?_;rfl)
 have sb:=dF s.heap dx (Jp (aB x) (wR Wc.w.params (aB x)) (.str (aB x) (s.toks+1)) v');have hn:=EE (y:=x) (v:=v) (ps:=ps);refine wpAny_updatePart e6<|wpAny_bind (wpAny_lookBehind D' (pastItsLine_dict ?_) ?_)
 ·have j1:=pn.length;simp -iota only[jL] at j1;refine az fg ?_;exact j1▸eY (tB (lT hn (aR (b9 q))) ac)
 ·exact aD ⟨ρ,ii (s:=s) R _ e2 hl.2 sb D' (.ns (pn.mono (R.lJ (cw e2) sb) Pre.refl) (lT ‹_› ‹_›))⟩
end
structure cD(h:aO)(ρ:af ao)(env:bD)(sc:aX)(m:Env):Prop where
 scope:env.scope=sc
 kind:sc.kind=.function
 glob:env.globals=fZ
 Qn:env.builtins=tN
 locs:∃mm,h.Ns env.locals mm/\∀(x:aA)(v:V),m x=ae v->sc.names.lookup (aB x)=ae .local->∃v',mm (aB x)=ae v'/\VR h ρ v' v
 cells:∀(x:aA)(v:V),m x=ae v->(sc.names.lookup (aB x)=ae .cell\/sc.names.lookup (aB x)=ae .free)->∃c v',env.cells.lookup (aB x)=ae c/\h.IsCell c (ae v')/\VR h ρ v' v
 has:∀n:aM,(sc.names.lookup n=ae .cell\/sc.names.lookup n=ae .free)->∃c,env.cells.lookup n=ae c
 Jq:∀(n:aM)(c:ao),env.cells.lookup n=ae c->∃v0,h.IsCell c v0
 apart:∀(n n':aM)(c:ao),env.cells.lookup n=ae c->env.cells.lookup n'=ae c->n=n'
 yA:env.locals∉ρ
 wb:∀(n:aM)(c:ao),env.cells.lookup n=ae c->c∉ρ
 zJ:Wc.h₀.objs.size<=env.locals
 zK:∀(n:aM)(c:ao),env.cells.lookup n=ae c->Wc.h₀.objs.size<=c
noncomputable def XT(env:bD)(xs:af aA):ao->Prop:=λb=>b=env.locals\/∃x∈xs,env.cells.lookup (aB x)=ae b
section
variable{h h':aO}{ρ dP:af ao}{st:af O}{env:bD}{sc:aX}{m:Env}{X:ao->Prop}
theorem cD.kindOf(x:cD h ρ env sc m)(n:aM):env.kindOf n=sc.names.lookup n:=by refine dm x.scope ?_;rfl
theorem cD.yB(x:cD h ρ env sc m):env.scope.kind=.function:=by refine az x.scope ?_;exact x.kind
theorem cD.Tk(x:cD h ρ env sc m){n:aM}{c:ao}(e:env.cells.lookup n=ae c):c<h.objs.size:=(x.Jq n c e).choose_spec.lt
theorem cD.llt(x:cD h ρ env sc m):env.locals<h.objs.size:=bH (x.locs) λ_ hn _=>hn.lt
theorem cD.lc(x:cD h ρ env sc m){n:aM}{c:ao}(e:env.cells.lookup n=ae c):c≠env.locals:=λq=>by refine lC (x.Jq n c e) λv0 o ho hd=>bH x.locs λmm z1 _=>Qk z1 λo' es ep Jr sQ _=>?_;rw[q,Jr] at ho;(replace ho:=aU ho;subst ho);replace hd:=sQ▸hd;cases hd
theorem cD.mono(x:cD h ρ env sc m)(st:mX X h ρ h' dP)(tk:dc h ρ h' dP)(hl:¬X env.locals)(hc:∀y c,env.cells.lookup y=ae c->¬X c):cD h' dP env sc m where
 scope:=x.scope
 kind:=x.kind
 glob:=x.glob
 Qn:=x.Qn
 locs:=by
  exact bH x.locs λmm hn hm=>E32 hn λo es ep ho r=>⟨mm,⟨o,es,ep,st.kept _ _ ho x.yA hl,r⟩,λy v e k=>bH (hm y v e k) λv' a b=>⟨v',a,b.mono tk st.pre⟩⟩
 cells:=λy v e k=>by
  exact kS (x.cells y v e k) λc v' a z2 b=>bH z2 λo ho hd=>⟨c,v',a,⟨o,st.kept _ _ ho (x.wb _ _ a) (hc _ _ a),hd⟩,b.mono tk st.pre⟩
 has:=x.has
 Jq:=λn c e=>by
  exact lC (x.Jq n c e) λv0 o ho hd=>⟨v0,o,st.kept _ _ ho (x.wb _ _ e) (hc _ _ e),hd⟩
 apart:=x.apart
 yA:=st.Es x.llt x.yA
 wb:=λy c e=>st.Es (x.Tk e) (x.wb y c e)
 zJ:=x.zJ
 zK:=x.zK
theorem Rel.other{a:ao}(R:Rel h ρ st)(n:a∉ρ)(hn:Wc.h₀.objs.size<=a)(sb:dH a h h')(nt:∀items,¬Tp h ρ a items):Rel h' ρ st where
 len:=R.len
 once:=R.once
 new:=R.new
 zero:=R.zero
 base:=λb o e=>by
  refine az (sb.2 b λq=>bS _ (lR (cB e) (q▸hn))) ?_;exact R.base b o e
 size:=by refine az sb.1 ?_;exact R.size
 at_:=λi o e=>by
  refine kS (R.at_ i o e) λb ob e1 e2 e3=>⟨b,ob,e1,?_,e3.mono (λb items t=>?_) Pre.refl⟩
  ·refine az (sb.2 b λq=>n (q▸cw e1)) ?_;exact e2
  ·obtain⟨nb,k,ho⟩:=id t
   exact⟨nb,k,by refine az (sb.2 b λq=>nt items (q▸t)) ?_;exact ho⟩
theorem pz{a:ao}(sb:dH a h h')(nt:∀items,¬Tp h ρ a items):dc h ρ h' ρ:=λb items t=>by obtain⟨nb,k,ho⟩:=id t;exact⟨nb,k,by refine az (sb.2 b λq=>nt items (q▸t)) ?_;exact ho⟩
theorem mX.other{a:ao}(sb:dH a h h')(x:X a):mX X h ρ h' ρ where
 pre:=Pre.refl
 fresh:=λi b e l=>aV (bq.mp e).1 (cU l)
 size:=by rw[sb.1];exact aP _
 kept:=λb o e _ nx=>by refine az (sb.2 b λq=>nx (q▸x)) ?_;exact e
theorem Heap.Ns.p9{a:ao}{mm:aM->aS ak}(x:h.Ns a mm)(items:bj ak):¬Tp h ρ a items:=λ⟨_,k,e⟩=>by refine Qk x λo es ep ho hd _=>?_;rw[e] at ho;(replace ho:=aU ho;subst ho);cases hd
theorem Heap.IsCell.p9{a:ao}{v:aS ak}(x:h.IsCell a v)(items:bj ak):¬Tp h ρ a items:=λ⟨_,k,e⟩=>by refine bH x λo ho hd=>?_;rw[e] at ho;(replace ho:=aU ho;subst ho);cases hd
end
section
variable{A:aW}{s:aq}{ρ:af ao}{st:af O}{env:bD}{sc:aX}{m:Env}{E:ak->aq->Prop}
theorem G1{x:aA}{v:V}{Q:ak->aq->Prop}(N:cD s.heap ρ env sc m)(hx:oh sc x=aj)(e:m x=ae v)(h:∀v',VR s.heap ρ v' v->Q v' s):aw (ay Wc.prog Wc.w) A (loadName env (aB x)) Q E s:=by
 unfold oh at hx;split at hx
 ·rename_i k;exact bH N.locs λmm hn hm=>bH (hm x v e k) λv' a b=>wpAny_loadName_local N.yB ((N.kindOf _).trans k) hn a (h _ b)
 ·rename_i k;exact kS (N.cells x v e (.inl k)) λc v' a b d=>wpAny_loadName_cell N.yB ((N.kindOf _).trans k) a b (h _ d)
 ·rename_i k;exact kS (N.cells x v e (.inr k)) λc v' a b d=>wpAny_loadName_free N.yB ((N.kindOf _).trans k) a b (h _ d) (by simpa using hx)
 ·exact ff hx
theorem qu{x y:aA}{v:V}(h:y≠x):(m.upd x v) y=m y:=by unfold Env.upd;(exact(aG (by exact nD ‹_›)))
theorem t7{x:aA}{v:V}:(m.upd x v) x=ae v:=by unfold Env.upd;simp
theorem iN{x:aA}{v':ak}{v:V}(R:Rel s.heap ρ st)(N:cD s.heap ρ env sc m)(hx:gC sc x=aj)(y:VR s.heap ρ v' v):aw (ay Wc.prog Wc.w) A (storeName env (aB x) v') (λ_ s'=>Good (XT env [x]) s ρ st s' ρ/\cD s'.heap ρ env sc (m.upd x v)/\dc s.heap ρ s'.heap ρ) E s:=by
 unfold gC at hx;split at hx
 ·rename_i k;refine bH N.locs λmm hn hm=>wpAny_storeName_local ((N.kindOf _).trans k) hn (λh' Js sb=>?_) (by refine az N.yB ?_;rfl);have tk:=pz (ρ:=ρ) sb (Heap.Ns.p9 hn);refine⟨⟨R.other N.yA N.zJ sb (Heap.Ns.p9 hn),mX.other sb (.inl ac),ac,ac⟩,?_,tk⟩;exact{
   scope:=N.scope,kind:=N.kind,glob:=N.glob,Qn:=N.Qn
   locs:=⟨_,Js,λz u e k'=>by
    by_cases q:z=x
    ·subst q;rw[t7] at e;(replace e:=aU e;subst e);exact⟨v',by exact aF ac,y.mono tk Pre.refl⟩
    ·replace e:=(qu q)▸e;rcases hm z u e k' with⟨u',a,b⟩;exact⟨u',by refine(aG λe=>q (i3 e)).trans ?_;exact a,b.mono tk Pre.refl⟩⟩
   cells:=λz u e k'=>by
    have q:z≠x:=λq=>by subst q;replace k':=k▸k';rcases k' with k'|k'<;>(first|(replace k':=aU k';cases k')|cases k')
    rw[qu q] at e;exact kS (N.cells z u e k') λc u' a b d=>⟨c,u',a,b.sameBut sb (N.lc a),d.mono tk Pre.refl⟩
   has:=N.has
   Jq:=λn c e=>let⟨v0,i⟩:=N.Jq n c e;⟨v0,i.sameBut sb (N.lc e)⟩
   apart:=N.apart,yA:=N.yA,wb:=N.wb,zJ:=N.zJ,zK:=N.zK}
 ·rename_i k;refine eh (N.has _ (.inl k)) λc hc=>?_;rcases N.Jq _ _ hc with⟨v0,hi⟩;refine bH N.locs λmm hn hm=>wpAny_storeName_cell N.yB ((N.kindOf _).trans k) hc hi λh' wa sb=>?_;have tk:=pz (ρ:=ρ) sb (Heap.IsCell.p9 hi);refine⟨⟨R.other (N.wb _ _ hc) (N.zK _ _ hc) sb (Heap.IsCell.p9 hi),mX.other sb (.inr ⟨x,.head _,hc⟩),ac,ac⟩,?_,tk⟩;exact{
   scope:=N.scope,kind:=N.kind,glob:=N.glob,Qn:=N.Qn
   locs:=⟨_,hn.sameBut sb (N.lc hc).symm,λz u e k'=>by
    have q:z≠x:=λq=>by subst q;rw[k] at k';(replace k':=aU k';cases k')
    replace e:=(qu q)▸e;refine bH (hm z u e k') λu' a b=>?_;exact⟨u',a,b.mono tk Pre.refl⟩⟩
   cells:=λz u e k'=>by
    by_cases q:z=x
    ·subst q;rw[t7] at e;(replace e:=aU e;subst e);exact⟨c,v',hc,wa,y.mono tk Pre.refl⟩
    ·rw[qu q] at e;exact kS (N.cells z u e k') λc' u' a b d=>⟨c',u',a,b.sameBut sb λe=>q (i3 (N.apart _ _ _ (e▸a) hc)),d.mono tk Pre.refl⟩
   has:=N.has
   Jq:=λn c' e=>by
    by_cases q:c'=c
    ·induction q;exact⟨_,wa⟩
    ·refine eh (N.Jq n c' e) λv0 i=>?_;exact⟨v0,i.sameBut sb q⟩
   apart:=N.apart,yA:=N.yA,wb:=N.wb,zJ:=N.zJ,zK:=N.zK}
 ·exact ff hx
end
structure dO(n:ag)(A:aW):Prop where
 handled:A.handled=aC
 depth:A.depth+2*n+10<=700
 units:A.units+10*n+1000<=9900
theorem dO.down{n:ag}{A:aW}(r:dO (n+1) A):dO n A:=⟨r.handled,lT (aR (bL (mL (bc _ _)))) r.depth,lT (aR (bL (mL (bc _ _)))) r.units⟩
theorem dO.hu{n:ag}{A:aW}(r:dO n A):A.units+900<b6:=lT (show A.units+901<=A.units+10*n+1000 from aE (bc _ _) (lB ac)) r.units
inductive sV(s:aq)(ρ:af ao)(b:aY)(st':af O)(b':aY)(s':aq):Prop
 |mk(e:b'=b)(dP:af ao)(g:Good mA s ρ st' s' dP)
inductive Y1(s:aq)(ρ:af ao)(vs:af V)(st':af O)(fG:af ak)(s':aq):Prop
 |mk(dP:af ao)(g:Good mA s ρ st' s' dP)(x:eB s'.heap dP fG vs)
noncomputable def b7(n:ag):Prop:=∀(sc:aX)(e:aK)(pe:PE),TE sc e pe->∀(A:aW)(s:aq)(ρ:af ao)(st:af O)(env:bD)(m:Env)(v:V)(st':af O),
 dO n A->Rel s.heap ρ st->cD s.heap ρ env sc m->(run Wc.G n).ev pe m st=ae (v,st')->
 aw (ay Wc.prog Wc.w) A (bw e env) (gz s ρ v st') dC s/\
 (∀b,v=.bool b->aw (ay Wc.prog Wc.w) A (gH e env (bw e env)) (sV s ρ b st') dC s)
section
variable{n:ag}{A:aW}{s:aq}{ρ:af ao}{st st':af O}{env:bD}{sc:aX}{m:Env}{v:V}{e:aK}{pe:PE}{E:ak->aq->Prop}
theorem b7.fin(IH:b7 n)(t:TE sc e pe)(rm:dO n A)(R:Rel s.heap ρ st)(N:cD s.heap ρ env sc m)(ev:(run Wc.G n).ev pe m st=ae (v,st')):aw (ay Wc.prog Wc.w) A (bw e env) (gz s ρ v st') dC s:=(IH _ _ _ t A s ρ st env m v st' rm R N ev).1
theorem b7.go(IH:b7 n)(t:TE sc e pe)(rm:dO n A)(R:Rel s.heap ρ st)(N:cD s.heap ρ env sc m)(ev:(run Wc.G n).ev pe m st=ae (v,st')){Q:ak->aq->Prop}
  (k:∀v' s' dP,Good mA s ρ st' s' dP->VR s'.heap dP v' v->Q v' s'):aw (ay Wc.prog Wc.w) A (bw e env) Q E s:=pgo (IH.fin t rm R N ev) k
theorem Yb{oj:aq}{vs:af V}{t:cX (af ak)}{Q:af ak->aq->Prop}(h:aw (ay Wc.prog Wc.w) A t (Y1 oj ρ vs st') dC s)(k:∀fG s' dP,Good mA oj ρ st' s' dP->eB s'.heap dP fG vs->Q fG s'):aw (ay Wc.prog Wc.w) A t Q E s:=wm h λ_ _ h=>h.rec (k _ _)
theorem Qo{oj:aq}{b:aY}{t:cX aY}{Q:aY->aq->Prop}(h:aw (ay Wc.prog Wc.w) A t (sV oj ρ b st') dC s)(k:∀b' s',b'=b->∀dP,Good mA oj ρ st' s' dP->Q b' s'):aw (ay Wc.prog Wc.w) A t Q E s:=wm h λ_ _ h=>h.rec (k _ _)
end
section
variable{ρ c7:af ao}{st eK:af O}{s cW:aq}{env:bD}{sc:aX}{m:Env}
theorem cD.go(N:cD s.heap ρ env sc m)(R:Rel s.heap ρ st)(g:Good mA s ρ eK cW c7):cD cW.heap c7 env sc m:=
 N.mono g.qf (g.lJ R) (λq=>q) λ_ _ _ q=>q
theorem VR.go{v':ak}{v:V}(x:VR s.heap ρ v' v)(R:Rel s.heap ρ st)(g:Good mA s ρ eK cW c7):VR cW.heap c7 v' v:=x.mono (g.lJ R) g.qf.pre
theorem eB.go{v':af ak}{v:af V}(x:eB s.heap ρ v' v)(R:Rel s.heap ρ st)(g:Good mA s ρ eK cW c7):eB cW.heap c7 v' v:=x.mono (g.lJ R) g.qf.pre
end
theorem gO{v:V}{st st':af O}{b:aY}(e:ml v st=ae (b,st')):v=.bool b/\st'=st:=by unfold ml at e;cases v<;>first|exact(dy e).elim|(refine bo e ?_;exact⟨ac,ac⟩)
section
variable{n:ag}{A:aW}{s:aq}{ρ:af ao}{st st':af O}{env:bD}{sc:aX}{m:Env}
theorem Ld{e:aK}(v:V)(h:aw (ay Wc.prog Wc.w) A (bw e env) (gz s ρ v st') dC s)
  (he:gH e env (bw e env)=(do let v<-bw e env;mZ e.pos;lN [v] (truthy v))):∀b,v=.bool b->aw (ay Wc.prog Wc.w) A (gH e env (bw e env)) (sV s ρ b st') dC s:=by
 rintro b rfl
 exact wpAny_isTrue_value (ec h (λv' s' ⟨dP,g,x⟩=>az x.bool_inv (w6 ⟨ac,dP,g⟩)) λ_ _ q=>q) he
theorem mc(IH:b7 n){es:af aK}{ps:af PE}(t:Gw sc es ps):∀{s:aq}{ρ:af ao}{st st':af O}{vs:af V}{pos:bu},dO n A->Rel s.heap ρ st->cD s.heap ρ env sc m->p6 (λe=>(run Wc.G n).ev e m) ps st=ae (vs,st')->aw (ay Wc.prog Wc.w) A (w9 (lO pos (iX es env))) (Y1 s ρ vs st') dC s:=by
 induction t with
 |nil=>exactλ_ R N e=>bo e (xc ⟨_,Good.refl _ R,.nil⟩)
 |@cons e0 p es0 ps t1 ns t2 ih=>
  exactλrm R N e=>ba e λv d4 e1 e=>ba e λus nT e2 e=>bo e (Ju (IH.go t1 rm R N e1 λv' s1 d0 g1 x1=>wm (ih rm g1.rel (N.go R g1) e2) λfG s2 h=>by
   obtain⟨lu,g2,x2⟩:=h;exact⟨lu,g1.trans g2,.cons (x1.go g1.rel g2) x2⟩) (El ns))
theorem Rx{f:PE->P V}(ps:af PE):∀{vs:af V}{st st':af O},p6 f ps st=ae (vs,st')->vs.length=ps.length:=by
 induction ps with
 |nil=>exactλe=>bo e ac
 |cons p ps ih=>exactλe=>ba e λv d4 e1 e=>ba e λus nT e2 e=>bo e (bf (·+1) (ih e2))
theorem Ry{T:aK->PE->Prop}{es:af aK}{ps:af PE}(t:Ak T es ps):es.length=ps.length:=by
 induction t with
 |nil=>rfl
 |cons _ _ _ ih=>exact bf (·+1) ih
variable{v:V}
theorem Le(IH:b7 n){es:af aK}{ps:af PE}{k:ag}{pos:bu}(t:Gw sc es ps)(rm:dO n A)(R:Rel s.heap ρ st)(N:cD s.heap ρ env sc m)(hl:es.length<=1000)(e:cI (p6 (λe=>(run Wc.G n).ev e m) ps) (λvs=>ret (.tup vs)) st=ae (v,st')):aw (ay Wc.prog Wc.w) A (bw (.Tuple es k pos) env) (gz s ρ v st') dC s:=by
 refine ba e λvs d4 e1 e=>bo e<|wpAny_Tuple (Yb (mc IH t rm R N e1) λfG s1 d0 g1 x1=>?_);have j1:fG.length<=1000:=by exact az x1.length<|az (Rx ps e1)<|dm (Ry t) (hl)
 exact⟨by refine az fg ?_;exact tB j1 ac,g9 g1 (BP (s:=s1) g1.rel (by trivial) s1.toks)⟩
theorem G3(IH:b7 n){es:af aK}{ps:af PE}{pos:bu}(t:Gw sc es ps)(rm:dO n A)(R:Rel s.heap ρ st)(N:cD s.heap ρ env sc m)(e:cI (p6 (λe=>(run Wc.G n).ev e m) ps) (λvs=>newList vs) st=ae (v,st')):aw (ay Wc.prog Wc.w) A (bw (.List es pos) env) (gz s ρ v st') dC s:=by refine ba e λvs d4 e1 e=>qg (lL e) λq z1 z2=>?_;subst z1;subst z2;exact wpAny_List (Yb (mc IH t rm R N e1) λfG s1 d0 g1 x1=>⟨by(refine az fg ?_;refine az x1.length ?_);exact q,g9 g1 (yp (s:=s1) g1.rel (‹_›) s1.toks 0)⟩)
theorem vn(IH:b7 n){a b:aK}{p q:PE}{f:V->V->P V}{K:ak->ak->cX ak}(t1:TE sc a p)(t2:TE sc b q)(rm:dO n A)(R:Rel s.heap ρ st)(N:cD s.heap ρ env sc m)(e:cI ((run Wc.G n).ev p m) (λv=>cI ((run Wc.G n).ev q m) λw=>f v w) st=ae (v,st'))(hf:∀(s:aq) (ρ:af ao) (st:af O) (x y:V) (x' y':ak),Rel s.heap ρ st->VR s.heap ρ x' x->VR s.heap ρ y' y->f x y st=ae (v,st')->aw (ay Wc.prog Wc.w) A (K x' y') (gz s ρ v st') dC s):aw (ay Wc.prog Wc.w) A (bw a env) (λa' s1=>aw (ay Wc.prog Wc.w) A (bw b env) (λb' s2=>aw (ay Wc.prog Wc.w) A (K a' b') (gz s ρ v st') dC s2) dC s1) dC s:=by exact ba e λx d4 e1 e=>ba e λy nT e2 e=>IH.go t1 rm R N e1 λx' s1 d0 g1 x1=>IH.go t2 rm g1.rel (N.go R g1) e2 λy' s2 lu g2 x2=>jS (g1.trans g2) (hf s2 lu nT x y x' y' g2.rel (x1.go g1.rel g2) x2 e)
theorem AA(IH:b7 n){a:aK}{p:PE}{f:V->P V}{K:ak->cX ak}(t1:TE sc a p)(rm:dO n A)(R:Rel s.heap ρ st)(N:cD s.heap ρ env sc m)(e:cI ((run Wc.G n).ev p m) f st=ae (v,st'))(hf:∀(s:aq) (ρ:af ao) (st:af O) (x:V) (x':ak),Rel s.heap ρ st->VR s.heap ρ x' x->f x st=ae (v,st')->aw (ay Wc.prog Wc.w) A (K x') (gz s ρ v st') dC s):aw (ay Wc.prog Wc.w) A (bw a env) (λa' s1=>aw (ay Wc.prog Wc.w) A (K a') (gz s ρ v st') dC s1) dC s:=by exact ba e λx d4 e1 e=>IH.go t1 rm R N e1 λx' s1 d0 g1 x1=>jS g1 (hf s1 d0 d4 x x' g1.rel x1 e)
theorem fC(IH:b7 n){a:aK}{p:PE}{b:aY}{d4:af O}{x:V}(t1:TE sc a p)(rm:dO n A)(R:Rel s.heap ρ st)(N:cD s.heap ρ env sc m)
  (e:(run Wc.G n).ev p m st=ae (x,d4))(hb:x=.bool b):aw (ay Wc.prog Wc.w) A (gH a env (bw a env)) (sV s ρ b d4) dC s:=(IH _ _ _ t1 A s ρ st env m x d4 rm R N e).2 b hb
theorem vQ{cW:aq}{b b':aY}{s':aq}{c7:af ao}{eK:af O}(g:Good mA s ρ eK cW c7)(p:sV cW c7 b st' b' s'):sV s ρ b st' b' s':=
 let⟨q,dP,a⟩:=p;⟨q,dP,g.trans a⟩
theorem yC{r b:aY}{v:V}{st st':af O}(e:yes r b st=ae (v,st')):(∃b,v=.bool b)/\st'=st:=by induction r<;>exact bo e ⟨⟨_,ac⟩,ac⟩
theorem G4{a b v:V}{f:af V->af V->P V}{st st':af O}(e:IQ a b f st=ae (v,st'))(k:∀xs ys,f xs ys st=ae (v,st')->(∃b,v=.bool b)/\st'=st):(∃b,v=.bool b)/\st'=st:=
 bb e λ_ _ e=>bb e λ_ _ e=>dQ e λ_ _ e=>bb e λ_ _ e=>dQ e λ_ _ e=>bb e λ_ _ e=>k _ _ e
theorem G5{op:GD}{a b v:V}{st st':af O}(e:mo op a b st=ae (v,st')):(∃b,v=.bool b)/\st'=st:=by
 have done:∀{r:aY},ret (V.bool r) st=ae (v,st')->(∃b,v=.bool b)/\st'=st:=λe=>bo e ⟨⟨_,ac⟩,ac⟩;have eqs:∀c,QA c a b st=ae (v,st')->(∃b,v=.bool b)/\st'=st:=λc e=>
  xZ e (λ_ _ e=>bb e λ_ _ e=>bb e λ_ _ e=>yC e) λe=>x5 e (λ_ _ e=>bb e λ_ _ e=>yC e) λe=>G4 e λ_ _ e=>bC e λ_ e=>yC e
 induction op with
 |eq=>exact eqs aj e
 |ne=>exact eqs aQ e
 |isin=>exact x5 e (λ_ _ e=>bb e λ_ _ e=>bC e λ_ e=>done e) λe=>bb e λ_ _ e=>dQ e λ_ _ e=>bb e λ_ _ e=>bC e λ_ e=>done e
 |mP=>exact Ej e (λ_ _ e=>bC e λ_ e=>done e) λe=>bb e λ_ _ e=>dQ e λ_ _ e=>bb e λ_ _ e=>bC e λ_ e=>done e
 |X6=>exact Ah e (λ_ e=>Ah e (λ_ e=>done e) λe=>bb e λ_ _ e=>done e) λe=>(dy e).elim
 |_=>exact bb e λ_ _ e=>bb e λ_ _ e=>done e
theorem NO{b:aY}{v':ak}{s1:aq}(h:gz s ρ (.bool b) st' v' s1):aw (ay Wc.prog Wc.w) A (truthy v') (sV s ρ b st') dC s1:=by obtain⟨dP,g,x⟩:=h;refine az x.bool_inv ?_;exact w6 ⟨ac,dP,g⟩
end
section
variable{n:ag}{A:aW}{s:aq}{ρ:af ao}{st st':af O}{env:bD}{sc:aX}{m:Env}{v:V}{a b c:aK}{p q r:PE}{pos:bu}
theorem Lf(ok:Wc.Ok)(IH:b7 n){op:GD}(t1:TE sc a p)(t2:TE sc b q)(hm:Bh (iy op) b=aQ)(rm:dO n A)(R:Rel s.heap ρ st)(N:cD s.heap ρ env sc m)(e:gf (run Wc.G n) (.cmp op p q) m st=ae (v,st')):aw (ay Wc.prog Wc.w) A (bw (.Compare a [iy op] [b] pos) env) (gz s ρ v st') dC s/\(∀b',v=.bool b'->aw (ay Wc.prog Wc.w) A (gH (.Compare a [iy op] [b] pos) env (bw (.Compare a [iy op] [b] pos) env)) (sV s ρ b' st') dC s):=by have main:=vn IH (K:=BV (iy op)) t1 t2 rm R N e λs ρ st x y x' y' R hx hy e=>kZ R ok.mods (rL (bL (lB ac)) rm.hu) hx hy e;refine⟨wpAny_Compare1 main hm,?_⟩;rintro b' rfl;exact wpAny_isTrue_Compare1 (ec main (λ_ _ h=>ec h (λ_ _ h=>ec h (λ_ _ h=>NO h) λ_ _ q=>q) λ_ _ q=>q) λ_ _ q=>q) hm
theorem G6(ok:Wc.Ok)(IH:b7 n){op MZ:GD}(t1:TE sc a p)(t2:TE sc b q)(t3:TE sc c r)(hm:Bj [iy op,iy MZ] [b,c]=aQ)(rm:dO n A)(R:Rel s.heap ρ st)(N:cD s.heap ρ env sc m)(e:gf (run Wc.G n) (.xX p op q MZ r) m st=ae (v,st')):aw (ay Wc.prog Wc.w) A (bw (.Compare a [iy op,iy MZ] [b,c] pos) env) (gz s ρ v st') dC s/\(∀b',v=.bool b'->aw (ay Wc.prog Wc.w) A (gH (.Compare a [iy op,iy MZ] [b,c] pos) env (bw (.Compare a [iy op,iy MZ] [b,c] pos) env)) (sV s ρ b' st') dC s):=by
 have hu:=rm.hu;refine ba e λx d4 e1 f1=>ba f1 λy nT e2 f2=>ba f2 λz MS e3 f3=>ba f3 λt Lg e4 f4=>fB (gO e4) λz3 z4=>?_;subst z3;replace z4:=z4.symm;subst z4;obtain⟨-,rfl⟩:=G5 e3;refine⟨Compare_chain (IH.go t1 rm R N e1 λx' s1 d0 g1 x1=>?_) hm,?_⟩
 ·refine chain_link (IH.go t2 rm g1.rel (N.go R g1) e2 λy' s2 lu g2 x2=>wm (kZ g2.rel ok.mods (rL (bL (lB ac)) hu) (x1.go g1.rel g2) x2 e3) λz' s3 hz=>?_);obtain⟨MT,g3,x3⟩:=hz;refine az x3.bool_inv<|wpAny_truthy_bool ?_;have g:=(g1.trans g2).trans g3;induction t with
  |true=>rw[aF ac] at f4⊢;exact chain_last<|ba f4 λu RA e5 f4=>IH.go t3 rm g3.rel (N.go R g) e5 λu' s4 Qp g4 x4=>jS (g.trans g4) (kZ g4.rel ok.mods (rL (bL (lB ac)) hu) ((x2.go g2.rel g3).go g3.rel g4) x4 f4)
  |false=>rw[aG (by decide)] at f4⊢;exact bo f4 ⟨MT,g,.bool _⟩
 ·rintro b' rfl;refine isTrue_chain (IH.go t1 rm R N e1 λx' s1 d0 g1 x1=>test_link (IH.go t2 rm g1.rel (N.go R g1) e2 λy' s2 lu g2 x2=>wm (kZ g2.rel ok.mods (rL (bL (lB ac)) hu) (x1.go g1.rel g2) x2 e3) λz' s3 hz=>?_)) hm;obtain⟨MT,g3,x3⟩:=hz;refine az x3.bool_inv<|wpAny_truthy_bool ?_;have g:=(g1.trans g2).trans g3;induction t with
  |true=>rw[aF ac] at f4⊢;exact test_last<|ba f4 λu RA e5 f4=>IH.go t3 rm g3.rel (N.go R g) e5 λu' s4 Qp g4 x4=>wm (kZ g4.rel ok.mods (by exact rL (bL (lB ac)) hu) ((x2.go g2.rel g3).go g3.rel g4) x4 f4) λ_ _ h=>NO (g9 (g.trans g4) h)
  |false=>rw[aG (by decide)] at f4⊢;refine fB (dw f4) λh z5=>?_;replace z5:=z5.symm;subst z5;exact(Internal.V.bool.inj h)▸⟨ac,MT,g⟩
theorem Lh(IH:b7 n)(t1:TE sc a p)(t2:TE sc b q)(rm:dO n A)(R:Rel s.heap ρ st)(N:cD s.heap ρ env sc m)(e:gf (run Wc.G n) (.and p q) m st=ae (v,st')):aw (ay Wc.prog Wc.w) A (bw (.BoolOp .And [a,b] pos) env) (gz s ρ v st') dC s/\(∀b',v=.bool b'->aw (ay Wc.prog Wc.w) A (gH (.BoolOp .And [a,b] pos) env (bw (.BoolOp .And [a,b] pos) env)) (sV s ρ b' st') dC s):=by
 refine ba e λx d4 e1 f1=>ba f1 λt nT e2 f2=>fB (gO e2) λz6 z7=>?_;subst z6;replace z7:=z7.symm;subst z7;refine⟨wpAny_And2 (IH.go t1 rm R N e1 λx' s1 d0 g1 x1=>?_),?_⟩
 ·refine az x1.bool_inv<|wpAny_truthy_bool ?_;induction t with
  |true=>rw[aF ac] at f2⊢;exact jS g1 (IH.fin t2 rm g1.rel (N.go R g1) f2)
  |false=>rw[aG (by decide)] at f2⊢;exact bo f2 ⟨d0,g1,.bool _⟩
 ·rintro b' rfl;refine RB (RC (Qo (fC IH t1 rm R N e1 ac) λb1 s1 h1 d0 g1=>?_));subst h1;induction b1 with
  |true=>
   rw[aF ac] at f2⊢;refine RC (Qo (fC IH t2 rm g1.rel (N.go R g1) f2 ac) λb1 s1 h1 lu g2=>?_);subst h1;induction b1 with
   |true=>exact wpAny_allTrue_And_nil ⟨ac,lu,g1.trans g2⟩
   |false=>exact⟨ac,lu,g1.trans g2⟩
  |false=>rw[aG (by decide)] at f2⊢;refine fB (dw f2) λh z8=>?_;subst z8;exact(Internal.V.bool.inj h)▸⟨ac,d0,g1⟩
theorem NP(IH:b7 n)(t1:TE sc a p)(t2:TE sc b q)(rm:dO n A)(R:Rel s.heap ρ st)(N:cD s.heap ρ env sc m)(e:gf (run Wc.G n) (.or p q) m st=ae (v,st')):aw (ay Wc.prog Wc.w) A (bw (.BoolOp .Or [a,b] pos) env) (gz s ρ v st') dC s/\(∀b',v=.bool b'->aw (ay Wc.prog Wc.w) A (gH (.BoolOp .Or [a,b] pos) env (bw (.BoolOp .Or [a,b] pos) env)) (sV s ρ b' st') dC s):=by
 refine ba e λx d4 e1 f1=>ba f1 λt nT e2 f2=>fB (gO e2) λz9 NQ=>?_;subst z9;replace NQ:=NQ.symm;subst NQ;refine⟨wpAny_Or2 (IH.go t1 rm R N e1 λx' s1 d0 g1 x1=>?_),?_⟩
 ·refine az x1.bool_inv<|wpAny_truthy_bool ?_;induction t with
  |false=>rw[aG (by decide)] at f2⊢;exact jS g1 (IH.fin t2 rm g1.rel (N.go R g1) f2)
  |true=>rw[aF ac] at f2⊢;exact bo f2 ⟨d0,g1,.bool _⟩
 ·rintro b' rfl;refine RB (RD (Qo (fC IH t1 rm R N e1 ac) λb1 s1 h1 d0 g1=>?_));subst h1;induction b1 with
  |false=>
   rw[aG (by decide)] at f2⊢;refine RD (Qo (fC IH t2 rm g1.rel (N.go R g1) f2 ac) λb1 s1 h1 lu g2=>?_);subst h1;induction b1 with
   |false=>exact wpAny_allTrue_Or_nil ⟨ac,lu,g1.trans g2⟩
   |true=>exact⟨ac,lu,g1.trans g2⟩
  |true=>rw[aF ac] at f2⊢;refine fB (dw f2) λh Wl=>?_;subst Wl;exact(Internal.V.bool.inj h)▸⟨ac,d0,g1⟩
theorem Li(IH:b7 n)(t1:TE sc a p)(rm:dO n A)(R:Rel s.heap ρ st)(N:cD s.heap ρ env sc m)(e:gf (run Wc.G n) (.not p) m st=ae (v,st')):aw (ay Wc.prog Wc.w) A (bw (.UnaryOp .Not a pos) env) (gz s ρ v st') dC s/\(∀b',v=.bool b'->aw (ay Wc.prog Wc.w) A (gH (.UnaryOp .Not a pos) env (bw (.UnaryOp .Not a pos) env)) (sV s ρ b' st') dC s):=by
 refine ba e λx d4 e1 f1=>ba f1 λt nT e2 f2=>fB (gO e2) λWm Y2=>?_;subst Wm;subst Y2;refine bo f2 ⟨wpAny_UnaryOp (IH.go t1 rm R N e1 λx' s1 d0 g1 x1=>?_),?_⟩
 ·exact az x1.bool_inv (not_value (w6 ⟨d0,g1,.bool _⟩))
 ·intro b' h;replace h:=Internal.V.bool.inj h;subst h;exact wpAny_isTrue_Not (Qo (fC IH t1 rm R N e1 ac) λb1 s1 h1 d0 g1=>⟨by(refine az h1 ?_;rfl),d0,g1⟩)
theorem Lj(IH:b7 n)(t1:TE sc c r)(t2:TE sc a p)(t3:TE sc b q)(rm:dO n A)(R:Rel s.heap ρ st)(N:cD s.heap ρ env sc m)(e:gf (run Wc.G n) (.ite r p q) m st=ae (v,st')):aw (ay Wc.prog Wc.w) A (bw (.IfExp c a b pos) env) (gz s ρ v st') dC s/\(∀b',v=.bool b'->aw (ay Wc.prog Wc.w) A (gH (.IfExp c a b pos) env (bw (.IfExp c a b pos) env)) (sV s ρ b' st') dC s):=by
 refine ba e λx d4 e1 f1=>ba f1 λt nT e2 f2=>fB (gO e2) λY3 Wn=>?_;subst Y3;replace Wn:=Wn.symm;subst Wn;refine⟨wpAny_IfExp (Qo (fC IH t1 rm R N e1 ac) λb1 s1 h1 d0 g1=>?_),?_⟩
 ·subst h1;induction b1 with
  |true=>rw[aF ac] at f2⊢;exact jS g1 (IH.fin t2 rm g1.rel (N.go R g1) f2)
  |false=>rw[aG (by decide)] at f2⊢;exact jS g1 (IH.fin t3 rm g1.rel (N.go R g1) f2)
 ·rintro b' rfl;rw[arm_isTrue_IfExp];refine au (Qo (fC IH t1 rm R N e1 ac) λb1 s1 h1 d0 g1=>?_);subst h1;induction b1 with
  |true=>rw[aF ac] at f2⊢;exact wm (fC IH t2 rm g1.rel (N.go R g1) f2 ac) λ_ _ h=>vQ g1 h
  |false=>rw[aG (by decide)] at f2⊢;exact wm (fC IH t3 rm g1.rel (N.go R g1) f2 ac) λ_ _ h=>vQ g1 h
theorem Ll(IH:b7 n){op:Op}(t1:TE sc a p)(t2:TE sc b q)(rm:dO n A)(R:Rel s.heap ρ st)(N:cD s.heap ρ env sc m)
  (e:gf (run Wc.G n) (.bin op p q) m st=ae (v,st')):aw (ay Wc.prog Wc.w) A (bw (.BinOp a (KU op) b pos) env) (gz s ρ v st') dC s:=
 wpAny_BinOp (vn IH (K:=binaryOp (KU op)) t1 t2 rm R N e λs ρ st x y x' y' R hx hy e=>Ez R hx hy e)
theorem G7(IH:b7 n)(t1:TE sc a p)(rm:dO n A)(R:Rel s.heap ρ st)(N:cD s.heap ρ env sc m)(e:gf (run Wc.G n) (.neg p) m st=ae (v,st')):aw (ay Wc.prog Wc.w) A (bw (.UnaryOp .USub a pos) env) (gz s ρ v st') dC s:=by
 refine wpAny_UnaryOp (AA IH (K:=unaryOp .USub) t1 rm R N e λs ρ st x x' R hx e=>?_);cases x<;>first|exact(dy e).elim|skip
 exact bC e λ_ e=>bo e<|Lc (v:=.none) (st':=st') R hx _ ac
theorem G8(IH:b7 n)(t1:TE sc a p)(t2:TE sc b q)(hs:∀o k,tK b aQ o k=tM [o,k] (oS o k))(rm:dO n A)(R:Rel s.heap ρ st)(N:cD s.heap ρ env sc m)(e:gf (run Wc.G n) (.idx p q) m st=ae (v,st')):aw (ay Wc.prog Wc.w) A (bw (.Subscript a b pos) env) (gz s ρ v st') dC s:=by exact Jv (vn IH (K:=BW a b) t1 t2 rm R N e λs ρ st x y x' y' R hx hy e=>EC hs R (rL (bL (lB ac)) rm.hu) hx hy e)
theorem B0(IH:b7 n){k:ag}{p1 p2:bu}(t1:TE sc a p)(rm:dO n A)(R:Rel s.heap ρ st)(N:cD s.heap ρ env sc m)(e:gf (run Wc.G n) (.gB p) m st=ae (v,st')):aw (ay Wc.prog Wc.w) A (bw (.Subscript a (.Slice (ae (.Constant (.int 1) k p1)) .none .none p2) pos) env) (gz s ρ v st') dC s:=by refine ba e λx d4 e1 f1=>Jv (IH.go t1 rm R N e1 λx' s1 d0 g1 x1=>wpAny_Slice ?_);rw[evalPart_some];refine RE ?_;rw[evalPart_none];exact aD<|wpAny_pure<|jS (g1.trans (Au g1.rel _)) (ED (s:={s1 with toks:=s1.toks+1}) (λ_ _=>ac) g1.rel x1 f1)
theorem EF(IH:b7 n){p2:bu}(t1:TE sc a p)(t2:TE sc b q)(rm:dO n A)(R:Rel s.heap ρ st)(N:cD s.heap ρ env sc m)(e:gf (run Wc.G n) (.gV p q) m st=ae (v,st')):aw (ay Wc.prog Wc.w) A (bw (.Subscript a (.Slice .none (ae b) .none p2) pos) env) (gz s ρ v st') dC s:=by refine ba e λx d4 e1 e=>ba e λy nT e2 e=>Jv (IH.go t1 rm R N e1 λx' s1 d0 g1 x1=>wpAny_Slice ?_);rw[evalPart_none];refine aD ?_;rw[evalPart_some];exact IH.go t2 rm g1.rel (N.go R g1) e2 λy' s2 lu g2 x2=>aD<|jS (g1.trans g2) (GY (λ_ _=>ac) g2.rel (x1.go g1.rel g2) x2 e)
theorem EG(ok:Wc.Ok)(IH:b7 n){x:aA}(hx:x∈gW)(t1:TE sc a p)(hb:eQ a (aB x))(rm:dO n A)(R:Rel s.heap ρ st)(N:cD s.heap ρ env sc m)(e:gf (run Wc.G n) (.attr p x) m st=ae (v,st')):aw (ay Wc.prog Wc.w) A (bw (.Attribute a (aB x) pos) env) (gz s ρ v st') dC s:=by rw[arm_eval_Attribute,hb];exact au (wm (AA IH (K:=λo=>Ru o (aB x) aj) t1 rm R N e λs ρ st y y' R hy e=>zH ok.UY ok.co (ok.fo x hx) R hy e) λo s1 h=>au (jr (au (cy (ec h (λr s2 h2=>au (wpAny_letTemporaryGo (aD h2))) λ_ _ q=>q)))))
end
noncomputable abbrev Tl(s:aq)(ρ:af ao)(v:V)(st':af O):jq->aq->Prop:=λr s'=>match r with
 |.ok (.ret v')=>gz s ρ v st' v' s'
 |_=>io
noncomputable def qw(n:ag):Prop:=∀(c f:aA)(vs:af V)(v:V)(st st':af O)(a:ao)(A:aW)(s:aq)(ρ:af ao)(vals:af ak),
 (run Wc.G n).cl c f vs st=ae (v,st')->Wc.fn c f=ae a->dO n A->Rel s.heap ρ st->eB s.heap ρ vals vs->fO (ay Wc.prog Wc.w) A (.call (.ref a) ⟨vals,[]⟩) (Tl s ρ v st') s
section
variable{n:ag}{A:aW}{s:aq}{ρ:af ao}{st st':af O}{env:bD}{sc:aX}{m:Env}
theorem jA(ok:Wc.Ok){f:aA}{x:ak}{pos:bu}{Q:ak->aq->Prop}{E:ak->aq->Prop}(R:Rel s.heap ρ st)(N:cD s.heap ρ env sc m)(g:sr sc f)(e:Wc.gv f=ae x)(h:Q x s):aw (ay Wc.prog Wc.w) A (bw (.Name (aB f) pos) env) Q E s:=by
 refine kS ok.glob λmg mb hg hb hf=>Calls.Name_function_global N.yB ((N.kindOf _).trans g.1) ?_ g.2;rcases hf _ _ e with e|⟨e1,e2⟩
 ·exact Calls.loadGlobal_global (by refine az N.glob ?_;exact hg.keeps R.base) e h
 ·exact Calls.loadGlobal_builtin (by refine az N.glob ?_;exact hg.keeps R.base) e1 (by refine az N.Qn ?_;exact hb.keeps R.base) e2 h
noncomputable def kK(f:ak):Prop:=∀h:aO,(∀b o,Wc.h₀.get? b=ae o->h.get? b=ae o)->∃k,(k=Keeper.frame\/k=Keeper.machine\/k=Keeper.boundFrame)/\Looks (ay Wc.prog Wc.w) h (keeperOf f) k
theorem vo(ok:Wc.Ok){a:ao}(h:qQ Wc.K (.ref a)=aj):kK (.ref a):=λhp k=>keeps_K h hp (ok.UY.keeps k)
theorem fP{t:aA}:kK (.type t):=λ_ _=>⟨.machine,.inr (.inl ac),B1 ac⟩
theorem dX{t:aA}:kK (.builtin t):=λ_ _=>⟨.machine,.inr (.inl ac),B1 ac⟩
theorem yD{T:aK->PE->Prop}{es:af aK}{ps:af PE}{pos:bu}(t:Ak T es ps):(lO pos (iX es env)).any (·.1)=aQ:=by
 induction es generalizing ps with
 |nil=>rfl
 |cons e es ih=>
  cases t with
  |cons t1 ns t2=>exact az (El ns) (ih t2)
theorem eo{T:aK->PE->Prop}{f:ak}{first:af ak}{es:af aK}{ps:af PE}{pos:bu}{Q:ak->aq->Prop}{E:ak->aq->Prop}(pl:kK f)(t:Ak T es ps)(h:aw (ay Wc.prog Wc.w) A (w9 (lO pos (iX es env))) (λvs cW=>(∀b o,Wc.h₀.get? b=ae o->cW.heap.get? b=ae o)/\aw (ay Wc.prog Wc.w) A (cf f (first++vs)) Q E cW) E s):aw (ay Wc.prog Wc.w) A (callWith pos f first (lO pos (iX es env)) []) Q E s:=by
 have K8:=yD (env:=env) (pos:=pos) t;induction t with
 |nil=>refine callWith_of (P:=λh=>∀b o,Wc.h₀.get? b=ae o->h.get? b=ae o) ac pl ?_;unfold evalArgs;exact au (ec h (λvs cW jP=>au (aD<|wpAny_holding<|wpAny_bind (aD (aD jP)))) λ_ _ q=>q)
 |@cons e0 _ es0 _ t1 ns t2=>rw[El ns] at h K8⊢;refine callWith_of (P:=λh=>∀b o,Wc.h₀.get? b=ae o->h.get? b=ae o) (by refine az K8 ?_;rfl) pl (Calls.evalArgs_plain h)
variable{v:V}
theorem G9{C:ao}{rest:af ak}:(B3 "type.__call__" ⟨.ref C::rest,[]⟩).weight=1:=by unfold Code.weight;rfl
theorem dO.RF{C:ao}{rest:af ak}(r:dO (n+1) A):dO n (A.under (.builtin "type.__call__" ⟨.ref C::rest,[]⟩)):=by
 refine⟨r.handled,?_,?_⟩
 ·show A.depth+(B3 "type.__call__" ⟨.ref C::rest,[]⟩).weight+2*n+10<=700
  (refine az G9 ?_;try rfl);have:=r.depth;lia
 ·refine(?_:A.units+(B3 "type.__call__" ⟨.ref C::rest,[]⟩).cUnits+10*n+1000<=9900);have:(B3 "type.__call__" ⟨.ref C::rest,[]⟩).cUnits=1:=ac;refine az this ?_;have:=r.units;lia
theorem EH(ok:Wc.Ok)(IH:b7 n)(IC:qw n){f:aA}{es:af aK}{ps:af PE}{fp pos:bu}(g:sr sc f)(t:Gw sc es ps)(rm:dO n A)(R:Rel s.heap ρ st)(N:cD s.heap ρ env sc m)(e:gf (run Wc.G n) (.call f ps) m st=ae (v,st'))(hG:∃pf,Wc.G "" f=ae pf):aw (ay Wc.prog Wc.w) A (bw (.Call (.Name (aB f) fp) es [] pos) env) (gz s ρ v st') dC s:=by refine ba e λvs d4 e1 f1=>eh hG λpf Wo=>jj (ok.func _ _ Wo) λa h1 h2 h3=>q9 (jA ok R N g h2 (eo (vo ok h3) t (Yb (mc IH t rm R N e1) λfG s1 d0 g1 x1=>⟨g1.rel.base,xd (rc (IC _ _ _ _ _ _ _ A s1 d0 fG f1 h1 rm g1.rel x1) λr s2 h=>?_)⟩)));rcases r with e|(v|_|_|_)<;>first|exact h.elim|exact g9 g1 h
theorem t8{G:sJ}{k:ag}{c f:aA}{vs:af V}{r:V×af O}(e:(run G k).cl c f vs st=ae r):∃pf,G c f=ae pf:=by
 induction k with
 |zero=>exact(dy (st:=st) e).elim
 |succ k=>exact bH (yr (e)) λpf h _=>⟨pf,h⟩
theorem Ha(ok:Wc.Ok)(IH:b7 n)(IC:qw n){c:aA}{es:af aK}{ps:af PE}{fp pos:bu}(g:sr sc c)(t:Gw sc es ps)(rm:dO (n+1) A)(R:Rel s.heap ρ st)(N:cD s.heap ρ env sc m)(e:gf (run Wc.G n) (.new c ps) m st=ae (v,st'))(hc:c≠""):aw (ay Wc.prog Wc.w) A (bw (.Call (.Name (aB c) fp) es [] pos) env) (gz s ρ v st') dC s:=by
 refine ba e λvs d4 e1 f1=>ba f1 λd nT e2 f2=>?_;unfold alloc at e2;(replace e2:=aU e2;cases e2);refine ba f2 λo MS e3 f3=>?_;unfold alloc at e3;(replace e3:=aU e3;cases e3);refine ba f3 λr Lg e4 f4=>eh (t8 e4) λpf Wo=>bm (ok.cu _ _ _ Wo hc) λC a h1 h2 h3 h4 h5=>qg (ok.make _ _ h1) λm1 m2 m3=>q9 (jA ok R N g m2 (eo (vo ok m3) t (Yb (mc IH t rm.down R N e1) λfG s1 d0 g1 x1=>⟨g1.rel.base,?_⟩)));have X:=ok.UY.keeps g1.rel.base;obtain⟨hh,gg,dd,tt,os⟩:=s1;refine xd (make_core (init:=.ref a) (makes_of X m1) (looks_findIn X h3) (λself=>bind_fn X self h4) (.inl ac) ?_);have RG:Good mA ⟨hh,gg,dd,tt,os⟩ d0 (d4++[.ns []]) ⟨hh.push pA,gg,dd,tt,os⟩ (d0++[hh.objs.size]):=qt (s:=⟨hh,gg,dd,tt,os⟩) g1.rel tt ac (.ns .nil (bR _));have RH:Good mA ⟨hh.push pA,gg,dd,tt,os⟩ (d0++[hh.objs.size]) ((d4++[.ns []])++[.inst c d4.length]) ⟨(hh.push pA).push (lI C hh.objs.size),gg,dd,tt,os⟩ ((d0++[hh.objs.size])++[(hh.push pA).objs.size]):=
  qt (s:=⟨hh.push pA,gg,dd,tt,os⟩) RG.rel tt ac (.inst h1 (Pre.append _ _ _ (gN g1.rel _)))
 have g2:=g1.trans (RG.trans RH);have xx:VR ((hh.push pA).push (lI C hh.objs.size)) ((d0++[hh.objs.size])++[(hh.push pA).objs.size]) (.ref (hh.objs.size+1)) (.ref (d4++[O.ns []]).length):=.ref (by(rewrite[gN RG.rel];refine az (eW ..) ?_;rfl));refine rc (IC _ _ _ _ _ _ _ _ ⟨(hh.push pA).push (lI C hh.objs.size),gg,dd,tt,os⟩ _ (.ref (hh.objs.size+1)::fG) e4 h2 rm.RF RH.rel (.cons xx (x1.go g1.rel (RG.trans RH)))) λr' s2 h=>?_;rcases r' with e|(v'|_|_|_)<;>try exact h.elim
 obtain⟨lu,g3,x3⟩:=h;cases r<;>first|exact(dy f4).elim|skip
 exact bo f4 ⟨x3.none_inv,lu,g2.trans g3,xx.go RH.rel g3⟩
theorem qx{o:aK}{x:aM}{apos pos:bu}{es:af aK}{ps:af PE}(hb:eQ o x)(hp:(apos.endLine==pos.line)=aj)(hl:es.length<29)(t:Gw sc es ps):
  bw (.Call (.Attribute o x apos) es [] pos) env=(do
   let ov<-bw o env
   mZ apos.atName
   let(f,first)<-lN [ov] (getMethod ov x (do return(<-importBound o env).getD aj))
   callWith pos f first (lO pos (iX es env)) []):=by
 rw[arm_eval_Call,hb]
 have h1:methodCallForm (es.length+([]:af Keyword).length) (lO pos (iX es env)) (backToKw pos (keywordEach [] env))=aj:=by
  have:=yD (env:=env) (pos:=pos) t
  unfold methodCallForm
  have h2:(lO pos (iX es env)).all (λx=>!x.1)=aj:=by
   rw[eH]
   intro x hx
   rw[Wa] at this
   simpa using this x hx
  refine az h2<|az (show backToKw pos (keywordEach [] env)=[] from ac) ?_
  simp
  exact tL (b9 hl) ac
 congr 1
 funext ov
 congr 1
 funext _
 unfold methodCall calleeOf methodCallPos
 refine az h1 ?_
 simp -iota only[m7,hp,vc,Bool.false_or]
 rfl
theorem EI(ok:Wc.Ok)(IH:b7 n)(IC:qw n){o:aK}{p:PE}{x:aA}{apos pos:bu}{es:af aK}{ps:af PE}(hb:eQ o (aB x))(hp:(apos.endLine==pos.line)=aj)(hl:es.length<29)(t1:TE sc o p)(t:Gw sc es ps)(rm:dO n A)(R:Rel s.heap ρ st)(N:cD s.heap ρ env sc m){i:ag}{d4:af O}{c:aA}{d:ag}{nss:af (aA×V)}(e1:(run Wc.G n).ev p m st=ae (.ref i,d4))(l1:d4[i]?=ae (.inst c d))(l2:d4[d]?=ae (.ns nss))(nn:(rX x nss).isNone=aj)(e2:cI (p6 (λe=>(run Wc.G n).ev e m) ps) (λvs=>(run Wc.G n).cl c x (.ref i::vs)) d4=ae (v,st')):aw (ay Wc.prog Wc.w) A (bw (.Call (.Attribute o (aB x) apos) es [] pos) env) (gz s ρ v st') dC s:=by
 refine ba e2 λvs nT e3 f1=>eh (t8 f1) λpf Wo=>Jw (IH.go t1 rm R N e1 λo' s1 d0 g1 x1=>bH x1.BX λoa z1 po=>?_) (qx hb hp hl t);subst z1;obtain⟨C',dx,des,dn,y1,y2,y3,y4,y5,y6,I⟩:=g1.rel.U8 po l1 l2;obtain⟨C,a,h1,h2,h3,h4,h5⟩:=ok.cu _ _ _ Wo λq=>by subst q;replace y1:=ok.Bo▸y1;exact eP y1
 replace y1:=h1▸y1;(replace y1:=aU y1;subst y1);have c:=ok.co _ _ h1;refine method_fn (ok.UY.keeps g1.rel.base) I c.hga c.hk h3 h4 ?_ ?_
 ·unfold shadowIn;dsimp only;exact az ((Ay (n:=dn) (c:=.type "dict") (d:=aC) (sl:=#[]) y3).2 (by simpa using nn)) ac
 ·refine eo (vo ok h5) t (Yb (mc IH t rm g1.rel (N.go R g1) e3) λfG s2 lu g2 x2=>⟨g2.rel.base,xd (rc (IC _ _ _ _ _ _ _ A s2 lu (.ref oa::fG) f1 h2 rm g2.rel (.cons (x1.go g1.rel g2) x2)) λr s3 h=>?_)⟩);rcases r with e|(v|_|_|_)<;>first|exact h.elim|exact g9 (g1.trans g2) h
end
noncomputable def XF(env:bD):ao->Prop:=λb=>b=env.locals\/∃x,env.cells.lookup x=ae b
noncomputable abbrev rY(env:bD)(sc:aX)(s:aq)(ρ:af ao)(fl:Flow)(m':Env)(st':af O):B4->aq->Prop:=λf s'=>
 ∃dP,Good (XF env) s ρ st' s' dP/\cD s'.heap dP env sc m'/\(match fl with|.next=>f=.next|.ret v=>∃v',f=.ret v'/\VR s'.heap dP v' v)
noncomputable def qy(n:ag):Prop:=∀(sc:aX)(ss:af d6)(ps:af PS),UW sc ss ps->∀(A:aW)(s:aq)(ρ:af ao)(st:af O)(env:bD)(m m':Env)(fl:Flow)(st':af O),
 dO n A->Rel s.heap ρ st->cD s.heap ρ env sc m->(run Wc.G n).ex ps m st=ae ((fl,m'),st')->
 aw (ay Wc.prog Wc.w) A (execs ss env) (rY env sc s ρ fl m' st') dC s
section
variable{h:aO}{ρ c7 gL:af ao}{st eK iC:af O}{s cW iL:aq}{env:bD}{sc:aX}{m:Env}{X Y:ao->Prop}
theorem cD.Wq(N:cD h ρ env sc m){b:ao}{items:bj ak}(t:Tp h ρ b items):¬XF env b:=by
 rintro(rfl|⟨x,e⟩)
 ·exact bH N.locs λmm hn _=>Heap.Ns.p9 hn _ t
 ·exact eh (N.Jq _ _ e) λv0 i=>Heap.IsCell.p9 i _ t
theorem vR{xs:af aA}{b:ao}(x:XT env xs b):XF env b:=by
 rcases x with x|⟨y,_,e⟩
 ·exact .inl x
 ·exact .inr ⟨_,e⟩
theorem Good.U9(g:Good X s ρ eK cW c7)(R:Rel s.heap ρ st)(x:∀b items,Tp s.heap ρ b items->¬X b):dc s.heap ρ cW.heap c7:=g.qf.lJ R x
theorem Good.fresh(a:Good Y s ρ eK cW c7)(b:Good X cW c7 iC iL gL)(f:∀c,X c->¬Y c->s.heap.objs.size<=c):Good Y s ρ iC iL gL where
 rel:=b.rel
 qf:={
  pre:=a.qf.pre.trans b.qf.pre
  fresh:=(mX.trans (X:=λc=>X c\/Y c) (a.qf.weak λ_=>.inr) (b.qf.weak λ_=>.inl)).fresh
  size:=lT a.qf.size b.qf.size
  kept:=λc o e n y=>by
   exact(mX.trans (X:=λc=>X c\/Y c) (a.qf.weak λ_=>.inr) (b.qf.weak λ_=>.inl)).kept c o e n (λh=>h.elim (λx=>bS _ (lR (cB e) (f c x y))) y)}
 gens:=b.gens.trans a.gens
 os:=b.os.trans a.os
end
theorem rg:∀(names:af (aM×jt))(k:ag)(acc:af (aM×ao))(n:aM),(names.lookup n=ae .cell\/(acc.lookup n).isSome=aj)->((jT k names acc).lookup n).isSome=aj:=by
 intro l0;induction l0 with
 |nil=>
  intro k acc n h;rcases h with h|h
  ·exact eP h
  ·exact h
 |cons oo r ih=>
  obtain⟨x,kind⟩:=oo;intro k acc n h;unfold jT;have push:(acc.lookup n).isSome=aj->(((x,k)::acc).lookup n).isSome=aj:=λq=>by refine az jI ?_;cases n==x<;>simp[q]
  by_cases hk:(kind==xe)=aj
  ·rewrite[aF hk];refine ih _ _ n ?_;rcases h with h|h
   ·rw[jI] at h;cases hx:n==x with
    |true=>right;(refine az jI ?_;refine az hx ?_);rfl
    |false=>replace h:=hx▸h;exact .inl h
   ·exact .inr (push h)
  ·refine az (aG hk)<|ih _ _ n ?_;rcases h with h|h
   ·rw[jI] at h;cases hx:n==x with
    |true=>replace h:=hx▸h;(replace h:=aU h;subst h);exact aV ac hk
    |false=>replace h:=hx▸h;exact .inl h
   ·exact .inr h
section
variable{h:aO}{ρ:af ao}{kindOf:aM->aS jt}
noncomputable def BR(h:aO)(ρ:af ao)(kindOf:aM->aS jt)(m:Env)(mm cm:aM->aS ak):Prop:=∀(x:aA)(v:V),m x=ae v->
 (kindOf (aB x)=ae .local->∃v',mm (aB x)=ae v'/\VR h ρ v' v)/\(kindOf (aB x)=ae .cell->∃v',cm (aB x)=ae v'/\VR h ρ v' v)
theorem NR:∀(xs:af aA)(vals:af ak)(vs:af V)(m:Env)(mm cm:aM->aS ak),eB h ρ vals vs->xs.length=vs.length->(∀x∈xs,kindOf (aB x)=ae .local\/kindOf (aB x)=ae .cell)->BR h ρ kindOf m mm cm->BR h ρ kindOf (m.bind xs vs) (bindL kindOf ((xs.map aB).zip vals) mm) (bindC kindOf ((xs.map aB).zip vals) cm):=by
 intro l0;induction l0 with
 |nil=>
  intro vals vs m mm cm r l k b;induction vs with
  |nil=>cases r;exact b
  |cons _ _=>simp at l
 |cons x xs ih=>
  intro vals vs m mm cm r l k b;cases vs with
  |nil=>simp at l
  |cons v vs=>
   cases r with
   |@cons v' _ Y4 _ r1 r2=>
    unfold bindL bindC;refine ih Y4 vs _ _ _ r2 (by simpa using l) (λy hy=>k y (iY _ hy)) ?_;intro y u e;rcases k x lD with kx|kx
    ·rewrite[aF kx,aF kx];by_cases q:y=x
     ·replace q:=q.symm;subst q;rw[t7] at e;(replace e:=aU e;subst e);refine⟨λ_=>⟨v',by exact aF ac,r1⟩,λh=>?_⟩;rw[kx] at h;(replace h:=aU h;cases h)
     ·replace e:=(qu q)▸e;refine⟨λh=>?_,(b y u e).2⟩;rcases(b y u e).1 h with⟨u',a,c⟩;exact⟨u',by refine az (aG λe=>q (i3 e)) ?_;exact a,c⟩
    ·have nk:¬kindOf (aB x)=ae .local:=by refine az kx ?_;decide
     rewrite[aG nk,aG nk];by_cases q:y=x
     ·replace q:=q.symm;subst q;rw[t7] at e;(replace e:=aU e;subst e);refine⟨λh=>?_,λ_=>⟨v',by exact aF ac,r1⟩⟩;replace h:=kx▸h;(replace h:=aU h;cases h)
     ·rw[qu q] at e;refine⟨(b y u e).1,λh=>?_⟩;rcases(b y u e).2 h with⟨u',a,c⟩;exact⟨u',by refine az (aG λe=>q (i3 e)) ?_;exact a,c⟩
end
theorem yE{sc:aX}{x:aA}(h:gC sc x=aj):sc.names.lookup (aB x)=ae .local\/sc.names.lookup (aB x)=ae .cell:=by
 unfold gC at h;split at h
 ·exact .inl (by assumption)
 ·exact .inr (by assumption)
 ·exact ff h
section
variable{n:ag}
theorem Hb(ok:Wc.Ok)(IX:qy n):qw (n+1):=by
 intro c f vs v st st' a A s ρ vals e hf rm R x;refine bH (yr (e)) λpf hG e=>bC e λhlen e=>lC (yq e) λz1 d4 e1 e2=>?_;obtain⟨fl,m'⟩:=z1;refine(ok.fns c f pf a hG hf).rec λo fd body ho hd X9 hb Bm dL hbn UX u9 hnd hk f8 ge KT hnn tr=>?_;have hvl:vals.length=pf.params.length:=by(refine az x.length ?_;refine az hlen ?_;rfl)
 refine codeAny_call_cells (fd:=fd) (binds:=(pf.params.map aB).zip vals) (by have j1:=rm.depth;show A.depth<1000;exact tL (lT (eY (bc _ _)) j1) ac) (R.base _ _ ho) hd (ok.IV.keeps R.base) (X9.keeps R.base) hb (UX vals hvl) Bm ?_ ?_ f8 ge hk
 ·intro y hy;obtain⟨z,hz,ez⟩:∃z∈pf.params,aB z=y.1:=by have j2:=(Jx (a:=y.1) (b:=y.2) hy).1;simpa using j2
  refine dm ez ?_;rcases yE (u9 z hz) with k|k
  ·exact .inl k
  ·exact .inr ⟨k,rg _ _ _ _ (.inl k)⟩
 intro cW I;refine lC I.done λh' tk z2 kp=>?_;subst z2;have lay:Good mA s ρ st {s with heap:=h',toks:=tk} ρ:=by
  have sz:s.heap.objs.size<=h'.objs.size:=by exact bz I.toInCall.ns.lt
  exact⟨R.kept kp sz,mX.of_kept kp sz,ac,ac⟩
 have above:∀(nm:aM)(b:ao),(xf fd s.heap.objs.size a).cells.lookup nm=ae b->s.heap.objs.size<b:=λnm b e=>I.above nm b (fQ e);have ltr:∀b∈ρ,b<s.heap.objs.size:=λb hb=>R.lt hb;have N:cD h' ρ (xf fd s.heap.objs.size a) fd.scope (Env.empty.bind pf.params vs):=by
  have br:BR h' ρ (xf fd s.heap.objs.size a).kindOf (Env.empty.bind pf.params vs) (bindL (xf fd s.heap.objs.size a).kindOf ((pf.params.map aB).zip vals) λ_=>aC)
    (bindC (xf fd s.heap.objs.size a).kindOf ((pf.params.map aB).zip vals) λ_=>aC):=
   NR pf.params vals vs Env.empty _ _ (x.mono (eR kp) Pre.refl) hlen (λy hy=>yE (u9 y hy)) (λy u e=>by cases e)
  exact{
   scope:=ac
   kind:=hk
   glob:=dL
   Qn:=hbn
   locs:=⟨_,I.toInCall.ns,λy u e k=>(br y u e).1 k⟩
   cells:=λy u e k=>by
    rcases k with k|k
    ·exact bH ((br y u e).2 k) λu' a1 b1=>eh (kJ.mp (rg fd.scope.names (s.heap.objs.size+1) [] (aB y) (.inl k))) λb hb=>⟨b,u',hb,a1▸I.cell _ _ hb,b1⟩
    ·exact aV ac (KT _ (fQ k))
   has:=λnm k=>by
    rcases k with k|k
    ·exact kJ.mp (rg fd.scope.names (s.heap.objs.size+1) [] nm (.inl k))
    ·exact aV ac (KT _ (fQ k))
   Jq:=λnm b e=>⟨_,I.cell _ _ e⟩
   apart:=λn1 n2 b e1 e2=>name_of_addr I.apart (fQ e1) (fQ e2)
   yA:=λhm=>bS _ (ltr _ hm)
   wb:=λnm b e hm=>bS _ (hF (ltr _ hm) (above nm b e))
   zJ:=R.size
   zK:=λnm b e=>bz (rL R.size (above nm b e))}
 refine wm (IX _ _ _ tr _ {s with heap:=h',toks:=tk} ρ st _ _ m' fl d4 (⟨rm.handled,by show A.depth+1+_+_<=_;have:=rm.depth;lia,by show A.units+3+_+_<=_;have:=rm.units;lia⟩) lay.rel N e1) λfl' s2 h=>jj h λlu g2 N2 hfl=>?_.elim;have g:=lay.fresh g2 (λb hb _=>by
  rcases hb with rfl|⟨y,e⟩
  ·exact aP _
  ·exact bz (above _ _ e))
 induction fl with
 |next=>subst hfl;exact bo e2 ⟨lu,g,.none⟩
 |ret u=>refine bH hfl λu' z3 xu=>?_;subst z3;exact bo e2 ⟨lu,g,xu⟩
end
noncomputable def t9(it:eA)(st:af O):Prop:=match it.QC with
 |.none=>iZ
 |.list a ws=>st[a]?=ae (.list ws)
 |.iU a=>st[a]?=ae .iU
theorem ua{it:eA}{st st':af O}{u:cH}(e:UU it st=ae (u,st')):st'=st/\t9 it st:=by
 unfold UU at e;unfold t9;cases h:it.QC with
 |none=>replace e:=h▸e;refine fB (dw e) λ_ z1=>?_;subst z1;exact⟨ac,bp⟩
 |list a ws=>
  replace e:=h▸e;refine dQ e λo l e=>?_;induction o<;>first|exact(dy e).elim|skip
  refine bC e λq e=>fB (dw e) λ_ z2=>?_;subst z2;exact(V.tT.mp q)▸⟨ac,l⟩
 |iU a=>
  replace e:=h▸e;refine dQ e λo l e=>?_;induction o<;>first|exact(dy e).elim|skip
  rcases dw e with⟨_,rfl⟩;exact⟨ac,l⟩
structure Ee(A:aW)(I:ao)(it:eA)(xs:af aA)(fp wr:af ao)(St:ag->aO->af ao->Prop):Prop where
 frame:∀i h ρ h' dP,St i h ρ->(∀b∈fp,∀o,h.get? b=ae o->h'.get? b=ae o)->dc h ρ h' dP->Pre ρ dP->St i h' dP
 live:∀i h ρ,St i h ρ->∀b∈fp,∃o,h.get? b=ae o/\((∃vs,o.data=.fields vs)\/∃vs n,o.data=.seq vs n)
 Y5:∀i h ρ,St i h ρ->∀b∈wr,b∈fp/\∃o vs,h.get? b=ae o/\o.data=.fields vs
 item:∀i (s:aq) ρ st v (fe:aK),St i s.heap ρ->Rel s.heap ρ st->t9 it st->it.vs[i]?=ae v->(∀b∈fp,b∉ρ)->(∀b∈fp,Wc.h₀.objs.size<=b)->TT xs fe->
  aw (ay Wc.prog Wc.w) A (eE (.ref I)) (λr s1=>∃v',r=ae v'/\aw (ay Wc.prog Wc.w) A (rj fe (.ref I) v') (λ_ s2=>Good (·∈wr) s ρ st s2 ρ/\VR s2.heap ρ v' v/\St (i+1) s2.heap ρ) dC s1) dC s
 done:∀(s:aq) ρ st,St it.vs.length s.heap ρ->Rel s.heap ρ st->t9 it st->(∀b∈fp,b∉ρ)->(∀b∈fp,Wc.h₀.objs.size<=b)->aw (ay Wc.prog Wc.w) A (eE (.ref I)) (λr s1=>r=aC/\Good (·∈wr) s ρ st s1 ρ) dC s
 self:∀(s:aq) ρ (Q:ak->aq->Prop),St 0 s.heap ρ->Q (.ref I) s->aw (ay Wc.prog Wc.w) A (i4 (.ref I)) Q dC s
section
variable{n:ag}{A:aW}{I:ao}{it:eA}{xs:af aA}{fp wr:af ao}{St:ag->aO->af ao->Prop}{env:bD}{sc:aX}{m:Env}{h:aO}{ρ:af ao}{i:ag}
theorem Ee.NS(T:Ee A I it xs fp wr St)(x:St i h ρ)(N:cD h ρ env sc m){b:ao}(hb:b∈fp):¬XF env b:=by
 refine bH (T.live _ _ _ x b hb) λo ho hd=>?_;rintro(rfl|⟨y,e⟩)
 ·refine bH N.locs λmm z3 _=>Qk z3 λo' es ep Jr sQ _=>?_;rw[ho] at Jr;(replace Jr:=aU Jr;subst Jr);rcases hd with⟨vs,hd⟩|⟨vs,k,hd⟩<;>(replace sQ:=hd▸sQ;cases sQ)
 ·refine lC (N.Jq _ _ e) λv0 o' Jr sQ=>?_;replace Jr:=ho▸Jr;(replace Jr:=aU Jr;subst Jr);rcases hd with⟨vs,hd⟩|⟨vs,k,hd⟩<;>(replace sQ:=hd▸sQ;cases sQ)
theorem Ee.p9(T:Ee A I it xs fp wr St)(x:St i h ρ){b:ao}{items:bj ak}(t:Tp h ρ b items):b∉wr:=λhb=>by obtain⟨_,o,vs,ho,hd⟩:=T.Y5 _ _ _ x b hb;refine eh t.ex λk e=>?_;rw[e] at ho;(replace ho:=aU ho;subst ho);cases hd
theorem Ee.lt(T:Ee A I it xs fp wr St)(x:St i h ρ){b:ao}(hb:b∈fp):b<h.objs.size:=bH (T.live _ _ _ x b hb) λ_ e _=>cB e
structure At(A:aW)(I:ao)(it:eA)(xs:af aA)(fp wr:af ao)(St:ag->aO->af ao->Prop)(env:bD)(sc:aX)(X:ao->Prop)(s:aq)(ρ:af ao)(i:ag)(m:Env)(eK:af O)(cW:aq)(c7:af ao):Prop where
 good:Good X s ρ eK cW c7
 env:cD cW.heap c7 env sc m
 st:St i cW.heap c7
 off:∀b∈fp,b∉c7
variable{X:ao->Prop}{s cW iL:aq}{c7 gL:af ao}{eK iC:af O}
structure Walk(A:aW)(env:bD)(sc:aX)(X:ao->Prop)(s:aq)(ρ:af ao)(I:ao)(it:eA)(xs:af aA)(P:ag->Env->af O->aq->af ao->Prop):Prop where
 gd:∀{i m st s1 d0},P i m st s1 d0->Good X s ρ st s1 d0
 en:∀{i m st s1 d0},P i m st s1 d0->cD s1.heap d0 env sc m
 turn:∀{i m st s1 d0 v fe} {Q:aS ak->aq->Prop} {E:ak->aq->Prop},P i m st s1 d0->TT xs fe->t9 it st->it.vs[i]?=ae v->
  (∀v' s2,(∀{K:cH->aq->Prop}{E:ak->aq->Prop},(∀s3,VR s3.heap d0 v' v->P (i+1) m st s3 d0->K () s3)->aw (ay Wc.prog Wc.w) A (rj fe (.ref I) v') K E s2)->Q (ae v') s2)->aw (ay Wc.prog Wc.w) A (eE (.ref I)) Q E s1
 done:∀{m st s1 d0} {Q:aS ak->aq->Prop} {E:ak->aq->Prop},P it.vs.length m st s1 d0->t9 it st->(∀s2,Good X s ρ st s2 d0->cD s2.heap d0 env sc m->Q aC s2)->aw (ay Wc.prog Wc.w) A (eE (.ref I)) Q E s1
 step:∀{i m st s1 d0 m' st' s2 lu} {Y:ao->Prop},P i m st s1 d0->Good Y s1 d0 st' s2 lu->(∀b,Y b->XF env b)->(∀b,Y b->¬X b->s.heap.objs.size<=b)->cD s2.heap lu env sc m'->P i m' st' s2 lu
 m0:∀{i m m' st s1 d0},P i m st s1 d0->cD s1.heap d0 env sc m'->P i m' st s1 d0
theorem Ee.moved(T:Ee A I it xs fp wr St)(fr:∀b∈fp,s.heap.objs.size<=b)(a:At A I it xs fp wr St env sc X s ρ i m eK cW c7)(g:Good (·∈wr) cW c7 eK iL c7):Good X s ρ eK iL c7/\cD iL.heap c7 env sc m:=
 have w:=λb hb=>(T.Y5 _ _ _ a.st b hb).1
 ⟨a.good.fresh g λb hb _=>fr b (w b hb),a.env.mono g.qf (g.U9 a.good.rel λb items t=>T.p9 a.st t) (λhb=>T.NS a.st a.env (w _ hb) (.inl ac)) λy b e hb=>T.NS a.st a.env (w _ hb) (.inr ⟨y,e⟩)⟩
theorem B5(T:Ee A I it xs fp wr St)(fr:∀b∈fp,s.heap.objs.size<=b)(hs:Wc.h₀.objs.size<=s.heap.objs.size):Walk A env sc X s ρ I it xs (At A I it xs fp wr St env sc X s ρ) where
 gd:=λa=>a.good
 en:=λa=>a.env
 turn:=λ{i m st s1 d0 v fe Q E} a tt c e k=>wm (T.item i s1 d0 st v fe a.st a.good.rel c e a.off (λb hb=>lT hs (fr b hb)) tt) λr s2 hq=>bH hq λv' hr h=>by
  exact hr▸k v' s2 λk=>wm h λ_ s3 hq=>qg hq λg x st'=>have m:=T.moved fr a g;k s3 x ⟨m.1,m.2,st',a.off⟩
 done:=λ{m st s1 d0 Q E} a c k=>wm (T.done s1 d0 st a.st a.good.rel c a.off (λb hb=>lT hs (fr b hb))) λr s2 hq=>fB hq λhr g=>by
  subst hr
  have m:=T.moved fr a g
  exact k s2 m.1 m.2
 step:=λa g y yx N=>⟨a.good.fresh g yx,N,T.frame _ _ _ _ _ a.st (λb hb o e=>g.qf.kept b o e (a.off b hb) λq=>T.NS a.st a.env hb (y b q)) (g.U9 a.good.rel λb items t q=>a.env.Wq t (y b q)) g.qf.pre,
  λb hb=>g.qf.Es (T.lt a.st hb) (a.off b hb)⟩
 m0:=λa N=>⟨a.good,N,a.st,a.off⟩
end
theorem yF{h':aO}{s:aq}{ρ:af ao}{st:af O}(R:Rel s.heap ρ st)(tk:ag)(ext:ub s.heap.objs.size s.heap h')(sz:s.heap.objs.size<=h'.objs.size):
  Good mA s ρ st {s with heap:=h',toks:=tk} ρ:=
 have k:∀b o,s.heap.get? b=ae o->h'.get? b=ae o:=λb o e=>ext b o (λq=>bS _ (q▸cB e)) e
 ⟨R.kept k sz,mX.of_kept k sz,ac,ac⟩
section
variable{A:aW}{s:aq}{ρ:af ao}{st:af O}{env:bD}{sc:aX}{m m':Env}
theorem uc{xs ys:af aA}(h:∀x∈xs,x∈ys){b:ao}(x:XT env xs b):XT env ys b:=by
 rcases x with x|⟨y,hy,e⟩
 ·exact .inl x
 ·exact .inr ⟨y,h y hy,e⟩
theorem Hc{y z:aA}{v:V}(e:bindTo m [y,z] v=ae m'):∃u1 u2,v=.tup [u1,u2]/\m'=m.bind [y,z] [u1,u2]:=by
 refine V.casesOn (motive_1:=λv=>bindTo m [y,z] v=ae m'->∃u1 u2,v=.tup [u1,u2]/\m'=m.bind [y,z] [u1,u2]) v eP (λ_=>eP) (λ_=>eP) (λ_=>eP) (λvs e=>?_) (λ_=>eP) e;replace e:(if 2=vs.length then ae (m.bind [y,z] vs) else aC)=ae m':=e;by_cases hl:2=vs.length
 ·exact sE (A8 hl.symm) λu1 u2 z=>⟨u1,u2,z▸ac,z▸(aU ((aF hl).symm.trans e)).symm⟩
 ·exact eP ((aG hl).symm.trans e)
theorem Jy{h:aO}{items:bj ak}{u1 u2:V}(r:eB h ρ items.toList [u1,u2]):∃i1 i2,items=#[i1,i2]/\VR h ρ i1 u1/\VR h ρ i2 u2:=by rcases items with⟨l⟩;exact(show eB h ρ l [u1,u2] from r).Ao λi1 _ a r=>r.Ao λi2 _ b r=>r.GU ⟨i1,i2,ac,a,b⟩
theorem zL(hh:A.handled=aC){y z:aA}{p1 p2 pos:bu}{k:ag}{u1 u2:V}{i1 i2:ak}{a:ao}(o1:gC sc y=aj)(o2:gC sc z=aj)(R:Rel s.heap ρ st)(N:cD s.heap ρ env sc m)(t:Tp s.heap ρ a #[i1,i2])(r1:VR s.heap ρ i1 u1)(r2:VR s.heap ρ i2 u2):aw (ay Wc.prog Wc.w) A (pB (.Tuple [.Name (aB y) p1,.Name (aB z) p2] k pos) env (.ref a)) (λ_ s'=>Good (XT env [y,z]) s ρ st s' ρ/\cD s'.heap ρ env sc (m.bind [y,z] [u1,u2])) dC s:=by refine au (jr ((au (cy (bG s.heap.objs.size (aP _) (unpackItems_tuple hh (eh t.ex λn e=>⟨_,e,ac,n,ac⟩) λh' ext sz=>?_)))):aw _ A (lN [oU a] (ud (.ref a) (#[i1,i2]:bj ak).size aC)>>=_) _ _ s));have g0:=yF R s.toks ext sz;exact au (cy (rk (wm (iN g0.rel (N.go R g0) o1 (r1.go R g0)) λ_ s1 hq=>qg hq λg1 n1 tk=>au (cy (rk (wm (iN g1.rel n1 o2 ((r2.go R g0).mono tk Pre.refl)) λ_ s2 hq=>qg hq λg2 n2 _=>aD ⟨(g0.weak λ_ q=>q.elim).trans ((g1.weak λb h=>uc (λ_ h=>bX.mp h▸.head _) h).trans (g2.weak λb h=>uc (λ_ h=>.tail _ h) h)),n2⟩))))))
theorem ue(hh:A.handled=aC){xs:af aA}{fe:aK}{v:V}{v':ak}(tt:TT xs fe)(own:∀x∈xs,gC sc x=aj)(R:Rel s.heap ρ st)(N:cD s.heap ρ env sc m)(x:VR s.heap ρ v' v)(e:bindTo m xs v=ae m'):aw (ay Wc.prog Wc.w) A (pB fe env v') (λ_ s'=>Good (XT env xs) s ρ st s' ρ/\cD s'.heap ρ env sc m') dC s:=by
 induction tt with
 |@name y pos=>replace e:=aU e;subst e;exact rk (wm (iN R N (own _ (.head _)) x) λ_ s' hq=>qg hq λg n _=>⟨g,n⟩)
 |@two y z p1 p2 pos k=>exact lC (Hc e) λu1 u2 z1 z2=>az z2<|x.kB (vs:=[u1,u2]) (z1▸ac) λa items t r=>kS (Jy r) λi1 i2 z3 r1 r2=>zL hh (own _ (.head _)) (own _ (.tail _ (.head _))) R N (z3▸t) r1 r2
end
inductive Ty(A:aW)(it:eA)(xs:af aA)(s:aq)(ρ:af ao)(st':af O)(Y6:ak)(s2:aq):Prop
 |mk(I:ao)(fp wr:af ao)(St:ag->aO->af ao->Prop)(dP:af ao)(e:Y6=.ref I)(T:Ee A I it xs fp wr St)(g:Good mA s ρ st' s2 dP)(h0:St 0 s2.heap dP)(fr:∀b∈fp,s.heap.objs.size<=b)(off:∀b∈fp,b∉dP)
noncomputable def ly(n:ag):Prop:=∀(sc:aX)(e:aK)(src:Src),GJ sc e src->∀(A:aW)(s:aq)(ρ:af ao)(st:af O)(env:bD)(m:Env)(it:eA)(st':af O)(xs:af aA),
 oi src xs=aj->dO n A->Rel s.heap ρ st->cD s.heap ρ env sc m->itemsOf (λe=>(run Wc.G n).ev e m) src st=ae (it,st')->
 aw (ay Wc.prog Wc.w) A (bw e env) (λx' s1=>aw (ay Wc.prog Wc.w) A (i4 x') (Ty A it xs s ρ st') dC s1) dC s
theorem ly.go{n:ag}(SO:ly n){sc:aX}{e:aK}{src:Src}(t:GJ sc e src){A:aW}{s:aq}{ρ:af ao}{st:af O}{env:bD}{m:Env}{it:eA}{st':af O}{xs:af aA}(ot:oi src xs=aj)(rm:dO n A)(R:Rel s.heap ρ st)(N:cD s.heap ρ env sc m)(ei:itemsOf (λe=>(run Wc.G n).ev e m) src st=ae (it,st')){Q:ak->aq->Prop}{E E':ak->aq->Prop}(k:∀s2 I fp wr St dP,Ee A I it xs fp wr St->Good mA s ρ st' s2 dP->St 0 s2.heap dP->(∀b∈fp,s.heap.objs.size<=b)->(∀b∈fp,b∉dP)->Q (.ref I) s2):aw (ay Wc.prog Wc.w) A (bw e env) (λx' s1=>aw (ay Wc.prog Wc.w) A (i4 x') Q E s1) E' s:=wm (SO sc e src t A s ρ st env m it st' xs ot rm R N ei) λx s1 h=>wm h λY6 s2 p=>by obtain⟨I,fp,wr,St,dP,e,T,g,h0,fr,off⟩:=p;subst e;exact k s2 I fp wr St dP T g h0 fr off
theorem qA{sc:aX}{e:aK}{src:Src}(t:GJ sc e src):tJ e:=by
 induction t with
 |seq _ h=>exact h
 |range=>intro env x;rfl
 |nW=>intro env x;rfl
 |zip=>intro env x;rfl
noncomputable abbrev aaR(env:bD)(sc:aX)(s:aq)(ρ:af ao)(fl:Flow)(m':Env)(st':af O):jq->aq->Prop:=λr s'=>match r with
 |.ok f=>rY env sc s ρ fl m' st' f s'
 |.error _=>io
section
variable{n:ag}{A:aW}{env:bD}{sc:aX}
theorem drop_cons{α:Type}{l:af α}{i:ag}{v:α}{vs:af α}(e:l.drop i=v::vs):l[i]?=ae v/\l.drop (i+1)=vs:=by
 have h1:l[i]?=ae v:=by have:=bf (·[0]?) e;simpa using this
 refine⟨h1,?_⟩;simpa[List.drop_drop,oP] using(bf (Bu 1) e)
theorem drop_nil{α:Type}{l:af α}{i:ag}(e:l.drop i=[])(h:i<=l.length):i=l.length:=by exact gT h (List.drop_eq_nil_iff.mp e)
theorem Hd{it:eA}{b:V->Env->P (Flow×Env)}{i:ag}{m:Env}{st st':af O}{r:Flow×Env}{C:Prop}(e:c9 it b (it.vs.drop i) m st=ae (r,st'))(hi:i<=it.vs.length)(k0:i=it.vs.length->t9 it st->r=(.next,m)->st'=st->C)(k1:∀v m1 d4,it.vs[i]?=ae v->i<it.vs.length->t9 it st->b v m st=ae ((.next,m1),d4)->c9 it b (it.vs.drop (i+1)) m1 d4=ae (r,st')->C)(k2:∀v u m1,it.vs[i]?=ae v->t9 it st->b v m st=ae ((.ret u,m1),st')->r=(.ret u,m1)->C):C:=by
 cases hd:it.vs.drop i with
 |nil=>replace e:=hd▸e;refine ba e λu MS e1 e2=>fB (ua e1) λz1 c=>?_;replace z1:=z1.symm;subst z1;exact fB (dw e2) λh h'=>k0 (drop_nil hd hi) c h h'
 |cons v vs=>
  refine fB (drop_cons hd) λh1 h2=>?_;replace e:=hd▸e;refine ba e λu MS e1 e2=>fB (ua e1) λz2 c=>?_;replace z2:=z2.symm;subst z2;refine ba e2 λq d4 e3 e4=>?_;obtain⟨fl,m1⟩:=q;induction fl with
  |next=>exact k1 v m1 d4 h1 (bq.mp h1).1 c e3 (h2.symm▸e4)
  |ret u=>exact fB (dw e4) λh h'=>k2 v u m1 h1 c (h'.symm▸e3) h
inductive LpI(P:ag->Env->af O->aq->af ao->Prop)(L:ag->Env->af O->Prop)(N k:ag)(iL:aq):Prop
 |mk(i:ag)(yG:Env)(gL:af ao)(iC:af O)(hk:k=N-i)(hi:i<=N)(a:P i yG iC iL gL)(e:L i yG iC)
theorem Lm(IX:qy n){fe:aK}{xs:af aA}{body:af d6}{ps:af PS}(tt:TT xs fe)(own:∀x∈xs,gC sc x=aj)(tb:UW sc body ps)(rm:dO n A){it:eA}{I:ao}{s:aq}{ρ:af ao}{P:ag->Env->af O->aq->af ao->Prop}(K:Walk A env sc (XF env) s ρ I it xs P){r:Flow×Env}{st':af O}{m:Env}{cW:aq}{c7:af ao}{eK:af O}(a:P 0 m eK cW c7)(e:c9 it (λv m=>bP (bindTo m xs v) λm'=>(run Wc.G n).ex ps m') it.vs m eK=ae (r,st')){Q:jq->aq->Prop}(hQ:∀f s',rY env sc s ρ r.1 r.2 st' f s'->Q (.ok f) s'):fO (ay Wc.prog Wc.w) A (.forLoop fe (.ref I) body [] env) Q cW:=by
 obtain⟨L,hL⟩:∃L:ag->Env->af O->Prop,∀i m st,L i m st↔c9 it (λv m=>bP (bindTo m xs v) λm'=>(run Wc.G n).ex ps m') (it.vs.drop i) m st=ae (r,st'):=⟨_,λ_ _ _=>yH⟩;refine codeAny_forLoop_any (LpI P L it.vs.length) (λk iL h=>?_) it.vs.length ⟨0,m,c7,eK,ac,bR _,a,(hL _ _ _).mpr e⟩;rcases h with⟨i,yG,gL,iC,hk,hi,a,e⟩;have go:∀{v r1 d4} {K':B4->aq->Prop} {E E' E'':ak->aq->Prop} {X:aS ak->aq->Prop},it.vs[i]?=ae v->t9 it iC->bP (bindTo yG xs v) (λm'=>(run Wc.G n).ex ps m') iC=ae (r1,d4)->
  (∀f s6 NT,P (i+1) r1.2 d4 s6 NT->(match r1.1 with|.next=>f=.next|.ret v=>∃v',f=.ret v'/\VR s6.heap NT v' v)->K' f s6)->
  (∀v' s2,aw (ay Wc.prog Wc.w) A (rj fe (.ref I) v') (λ_ s4=>aw (ay Wc.prog Wc.w) A (pB fe env v') (λ_ s5=>aw (ay Wc.prog Wc.w) A (execs body env) K' E s5) E' s4) E'' s2->X (ae v') s2)->aw (ay Wc.prog Wc.w) A (eE (.ref I)) X E iL:=λ{v r1 d4 K' E E' E'' X} hv c e1 k x=>bb e1 λm4 e5 e6=>K.turn a tt c hv λv' s3 h=>x v' s3<|h λs4 xv a4=>
   wm (ue rm.handled tt own (K.gd a4).rel (K.en a4) xv e5) λ_ s5 h5=>by have a5:=K.step a4 h5.1 (λb h=>vR h) (λb h nx=>aV (vR h) nx) h5.2;exact wm (IX _ _ _ tb A s5 gL iC env m4 r1.2 r1.1 d4 rm (K.gd a5).rel h5.2 e6) λf s6 h6=>jj h6 λNT g6 N6 hf=>k f s6 NT (K.step a5 g6 (λb h=>h) (λb h nx=>aV h nx) N6) hf
 refine Hd ((hL _ _ _).mp e) hi (λh0 c hr hs=>?_) (λv m1 d4 hv hl c e1 e2=>?_) λv u m1 hv c e1 hr=>?_
 ·subst h0;exact K.done a c λs3 g N=>Jz (hQ _ _ (by subst hr;replace hs:=hs.symm;subst hs;exact⟨gL,g,N,ac⟩))
 ·exact go hv c e1 (λf s6 NT a6 hf=>by subst hf;exact⟨it.vs.length-(i+1),hk▸uf hl (de i),i+1,m1,NT,d4,ac,hl,a6,(hL _ _ _).mpr e2⟩) λ_ _ h=>h
 ·exact go hv c e1 (λf s6 NT a6 hf=>by
   refine bH hf λu' z3 xu=>?_;exact z3▸hQ _ _ (by replace hr:=hr.symm;subst hr;exact⟨NT,K.gd a6,K.en a6,u',ac,xu⟩)) λ_ _ h=>h
noncomputable def B7(n:ag):Prop:=∀(sc:aX)(t:aK)(pt:PE)(ss:af d6)(ps:af PS),TE sc t pt->UW sc ss ps->∀(A:aW)(s:aq)(ρ:af ao)(st:af O)(env:bD)(m:Env)(r:Flow×Env)(st':af O)(Q:jq->aq->Prop),
 dO n A->Rel s.heap ρ st->cD s.heap ρ env sc m->(run Wc.G n).wl pt ps m st=ae (r,st')->(∀f s',rY env sc s ρ r.1 r.2 st' f s'->Q (.ok f) s')->fO (ay Wc.prog Wc.w) A (.whileLoop t ss [] env) Q s
inductive WhI(G:Env->af O->aq->af ao->Prop)(L:ag->Env->af O->Prop)(n k:ag)(iL:aq):Prop
 |mk(yG:Env)(gL:af ao)(iC:af O)(hk:k<=n)(g:G yG iC iL gL)(e:L k yG iC)
theorem EJ(n:ag)(hE:∀k,k<n->b7 k)(hX:∀k,k<n->qy k):B7 n:=by
 intro sc t pt ss ps tt ts A s ρ st env m r st' Q rm R N e hQ;obtain⟨L,hL⟩:∃L:ag->Env->af O->Prop,∀k m st,L k m st↔(run Wc.G k).wl pt ps m st=ae (r,st'):=⟨_,λ_ _ _=>yH⟩;refine codeAny_whileLoop (WhI (λyG iC iL gL=>Good (XF env) s ρ iC iL gL/\cD iL.heap gL env sc yG) L n) (λk iL h=>?_) n ⟨m,ρ,st,aP _,⟨Good.refl _ R,N⟩,(hL _ _ _).mpr e⟩;rcases h with⟨yG,gL,iC,hk,⟨g,N⟩,e⟩;induction k with
 |zero=>exact(dy (st:=iC) ((hL _ _ _).mp e)).elim
 |succ k=>
  have rmk:dO k A:=⟨rm.handled,lT (aR (bL (mL (bz hk)))) rm.depth,lT (aR (bL (mL (bz hk)))) rm.units⟩;refine ba ((hL _ _ _).mp e) λx MS e1 f1=>ba f1 λb Lg e2 f2=>fB (gO e2) λhv hs=>?_;replace f2:=hs▸f2;refine Qo (fC (hE k hk) tt rmk g.rel N e1 hv) λb1 s3 h1 MT g3=>?_;replace f2:=(km h1)▸f2;have N3:=N.go g.rel g3;have g':=g.trans (g3.weak λ_ q=>q.elim);induction b1 with
  |true=>
   refine ba (f2) λq RA e3 f3=>wm (hX k hk _ _ _ ts A s3 MT MS env yG q.2 q.1 RA rmk g3.rel N3 e3) λf s4 h4=>jj h4 λQp g4 N4 hf=>?_;obtain⟨TD,m3⟩:=q;induction TD with
   |next=>exact az (hf) ⟨k,de k,m3,Qp,RA,bz hk,⟨g'.trans g4,N4⟩,(hL _ _ _).mpr f3⟩
   |ret u=>refine bH hf λu' hu xu=>az hu ?_;have h:=dw f3;exact hQ _ _ (h.1▸h.2▸⟨Qp,g'.trans g4,N4,u',ac,xu⟩)
  |false=>have h:=dw (f2);exact Jz (hQ _ _ (h.1▸h.2▸⟨MT,g',N3,ac⟩))
end
section
variable{n:ag}{A:aW}{s:aq}{ρ:af ao}{st st':af O}{env:bD}{sc:aX}{m m':Env}
theorem B8{E:ak->aq->Prop}{l:ao}{x y:ak}{Q:af ak->aq->Prop}(hh:A.handled=aC)(hl:s.heap.IsList l #[x,y])(hQ:∀h',ub s.heap.objs.size s.heap h'->Q [x,y] {s with heap:=h'}):aw (ay Wc.prog Wc.w) A (ud (.ref l) 2 aC) Q E s:=by
 have jE:l≠s.heap.objs.size:=by refine bH hl λo ho _=>?_;exact b8 (cB ho)
 unfold ud notIterableAtAll;refine au (au (qU hl.typeIs slot_list_iter.lookup (aD<|wpAny_bind (cy (JA hl ?_)))));have i0:(s.heap.push {cls:=.type "list_iterator",data:=.fields #[.ref l,.int 0 0]}).IsListIter s.heap.objs.size l 0:=⟨_,cT _ ac,ac,ac⟩;have l0:(s.heap.push {cls:=.type "list_iterator",data:=.fields #[.ref l,.int 0 0]}).IsList l #[x,y]:=hl.push _;refine au (cy<|wpAny_bind (B9 i0 l0 (x:=x) ac λh1 i1 zB=>?_));have l1:=l0.extBut zB.extBut jE;exact au (cy<|wpAny_bind (B9 i1 l1 (x:=y) ac λh2 i2 wA=>au (cy (aD (aD (aD<|az (aG (by exact cU (aP _)))<|wpAny_bind (cy (JB hh i2 (l1.extBut wA.extBut jE) ac λh3 eb=>aD (hQ h3 λb o hb e=>eb b o hb (wA.extBut b o hb (zB.extBut b o hb (bW _ e))))))))))))
theorem dB{h:aO}{items:bj ak}{u1 u2:V}(r:eB h ρ items.toList [u1,u2]):∃i1 i2,items=#[i1,i2]/\VR h ρ i1 u1/\VR h ρ i2 u2:=by
 obtain⟨l⟩:=items;cases r with
 |cons r1 r2=>cases r2 with
  |cons r2 r3=>cases r3;exact⟨_,_,ac,r1,r2⟩
theorem Ca(hh:A.handled=aC){v:V}{v':ak}{u1 u2:V}(R:Rel s.heap ρ st)(x:VR s.heap ρ v' v)(e:mr v st=ae ([u1,u2],st')):st'=st/\aw (ay Wc.prog Wc.w) A (ud v' 2 aC) (λis s1=>∃i1 i2,is=[i1,i2]/\Good mA s ρ st s1 ρ/\VR s1.heap ρ i1 u1/\VR s1.heap ρ i2 u2) dC s:=by
 refine mB x (e) (λa items vs t r e=>?_) λe=>fw R x e λi a items k vs p l hd r e=>?_
 ·refine fB (dw e) λz1 z2=>?_;subst z1;subst z2;refine⟨ac,kS (dB r) λi1 i2 z3 r1 r2=>?_⟩;subst z3;show aw _ A (ud (.ref a) (#[i1,i2]:bj ak).size aC) _ _ s;refine bG s.heap.objs.size (aP _) (unpackItems_tuple hh (eh (t.ex) λn e=>⟨_,e,ac,n,ac⟩) λh' ext sz=>?_);have g0:=yF R s.toks ext sz;exact⟨i1,i2,ac,g0,r1.go R g0,r2.go R g0⟩
 ·refine fB (dw e) λz4 z5=>?_;subst z4;replace z5:=z5.symm;subst z5;refine⟨ac,kS (dB r) λi1 i2 z6 r1 r2=>?_⟩;subst z6;refine bG s.heap.objs.size (aP _) (B8 hh (cQ hd) λh' ext sz=>?_);have g0:=yF R s.toks ext sz;exact⟨i1,i2,ac,g0,r1.go R g0,r2.go R g0⟩
theorem yI(N:cD s.heap ρ env sc m):interactive env=aQ:=by unfold interactive;refine az N.yB ?_;rfl
theorem Ln(R:Rel s.heap ρ st)(N:cD s.heap ρ env sc m){s1:aq}{d0:af ao}{d4:af O}(g:Good mA s ρ d4 s1 d0):rY env sc s ρ .next m d4 .next s1:=
 ⟨d0,g.weak λ_ q=>q.elim,N.go R g,ac⟩
theorem RI(rm:dO n A){v:V}{v':ak}{us:af V}{x y:aA}(R:Rel s.heap ρ st)(xv:VR s.heap ρ v' v)(e:mr v st=ae (us,st'))(hl:[x,y].length=us.length){Q:af ak->aq->Prop}{E:ak->aq->Prop}(k:∀i1 i2 u1 u2 s1,us=[u1,u2]->Good mA s ρ st' s1 ρ->VR s1.heap ρ i1 u1->VR s1.heap ρ i2 u2->Q [i1,i2] s1):aw (ay Wc.prog Wc.w) A (ud v' 2 aC) Q E s:=by
 refine sE (A8 hl.symm) λu1 u2 z=>?_;subst z
 ·exact fB (Ca rm.handled R xv e) λh un=>wm un λis s2 h2=>Ed h2 λi1 i2 hi g2 y1 y2=>hi▸k i1 i2 u1 u2 s2 ac (h.symm▸g2) y1 y2
theorem Cb(ok:Wc.Ok)(IH:b7 n){t:aK}{pt:PT}{v:V}{v':ak}(tl:TL sc t pt)(rm:dO n A)(R:Rel s.heap ρ st)(N:cD s.heap ρ env sc m)(xv:VR s.heap ρ v' v)(e:M5 (run Wc.G n) pt v m st=ae (m',st')){Q:cH->aq->Prop}{E:ak->aq->Prop}(k:∀s' dP,Good (XF env) s ρ st' s' dP->cD s'.heap dP env sc m'->Q () s'):aw (ay Wc.prog Wc.w) A (assignAll v' ((assignEach [t] env).map (·.2))) Q E s:=by
 have same:∀{s' dP st'},m'=m->Good mA s ρ st' s' dP->Good (XF env) s ρ st' s' dP/\cD s'.heap dP env sc m':=λh g=>⟨g.weak λ_ q=>q.elim,h.symm▸N.go R g⟩;induction tl with
 |@name x pos' own=>rcases dw e with⟨h,h'⟩;exact rk (wm (iN R N own xv) λ_ s2 h2=>k s2 ρ (h'.symm▸h2.1.weak λb h=>vR h) (h.symm▸h2.2.1))
 |@names x y p1 p2 k' pos' o1 o2 ne=>refine ba e λus nT e2 f2=>bC f2 λhl f2=>fB (dw f2) λh h'=>au (jr ?_);unfold unpack;refine au (cy (RI rm R xv e2 hl λi1 i2 u1 u2 s2 nw g2 y1 y2=>au (cy (rk (wm (iN g2.rel (N.go R g2) o1 y1) λ_ s3 h3=>au (cy (rk (wm (iN h3.1.rel h3.2.1 o2 (y2.mono h3.2.2 Pre.refl)) λ_ s4 h4=>aD ?_))))))));subst nw;exact k s4 ρ (h'.symm▸(g2.weak λ_ q=>q.elim).trans ((h3.1.weak λb h=>vR h).trans (h4.1.weak λb h=>vR h))) (h.symm▸h4.2.1)
 |@attr o p2 x pos' hx to=>
  refine ba e λw nT e2 f2=>ba f2 λu MS e3 f3=>?_;rcases dw f3 with⟨h,h'⟩;show aw _ A (do
   let ov<-lN [v'] (bw o env)
   mZ pos'.atName
   lN [v',ov] (Rv ov (aB x) v')
   release [v',ov] []) _ _ s
  refine au (cy (IH.go to rm R N e2 λo' s2 lu g2 x2=>au (jr (au (cy (wm (zI ok.UY ok.co (ok.fo x hx) g2.rel x2 (xv.go R g2) e3) λ_ s3 h3=>eh h3 λMT g3=>?_))))));have q:=same h (g2.trans g3);exact wpAny_release' (k s3 MT (h'.symm▸q.1) q.2)
 |@idx o i p2 q2 pos' to ti=>
  refine ba e λw nT e2 f2=>ba f2 λj MS e3 f3=>ba f3 λu Lg e4 f4=>fB (dw f4) λh h'=>az (show assignAll v' ((assignEach [Expr.Subscript o i pos'] env).map (·.2))=pB (.Subscript o i pos') env v' from ac) ?_;rewrite[arm_assign_Subscript];refine au (cy (IH.go to rm R N e2 λo' s2 lu g2 x2=>au (cy (IH.go ti rm g2.rel (N.go R g2) e3 λi' s3 MT g3 x3=>au (jr (au (cy
   (wm (BZ g3.rel (rL (eD (lB ac) _) rm.hu) (x2.go g2.rel g3) x3 ((xv.go R g2).go g2.rel g3) e4) λ_ s4 h4=>?_))))))))
  refine eh h4 λQp g4=>?_;have q:=same h (g2.trans (g3.trans g4));exact wpAny_release' (k s4 Qp (h'.symm▸q.1) q.2)
theorem Cc(ok:Wc.Ok)(IH:b7 n){t e:aK}{pt:PT}{p:PE}{pos:bu}(tl:TL sc t pt)(te:TE sc e p)(ps:ye sc t e pos.line)(rm:dO n A)(R:Rel s.heap ρ st)(N:cD s.heap ρ env sc m){fl:Flow}(ev:tC (run Wc.G n) (.assign pt p) m st=ae ((fl,m'),st')):aw (ay Wc.prog Wc.w) A (exec (.Assign [t] e pos) env) (rY env sc s ρ fl m' st') dC s:=by refine ba ev λv d4 e1 f1=>ba f1 λm1 nT f2 f3=>fB (dw f3) λh h'=>?_;cases h;subst h';rcases ps env N.scope with⟨hs,hw⟩;rw[exec_Assign];exact au (jr<|az hs<|wpAny_bind (aD<|az (aG (by decide))<|wpAny_bind (IH.go te rm R N e1 λv' s1 d0 g1 x1=>az hw (au (aD (au (Cb ok IH tl rm g1.rel (N.go R g1) x1 f2 λs' dP g N'=>aD ⟨dP,(g1.weak λ_ q=>q.elim).trans g,N',ac⟩)))))))
end
noncomputable def ug(e elt:aK)(gs:af fY)(d:ag)(acc:ak)(env:bD)(k:cX lF):cX lF:=
 match gs[d+1]? with
 |some g'=>do
  let x<-bw g'.iter env
  mZ g'.iter.pos
  let x<-if g'.is_async !=0 then foldedIterable g'.iter x else foldedSetIterable g'.iter env x
  let _<-runOwn (.compStart e (d+1) (<-lN [x] (if g'.is_async !=0 then asyncIter x else i4 x)) acc env) env
  k
 |none=>do
  (do let _<-cf (.builtin "list.append") [acc,<-bw elt env])
  k
theorem EK(elt:aK)(gs:af fY)(scope:aX)(pos:bu)(d:ag)(it acc:ak)(env:bD)(fe iter:aK)(ifs:af aK)(hg:gs[d]?=ae ⟨fe,iter,ifs,0⟩):
  compTurn (.ListComp elt gs scope pos) d it acc env=(do
   mZ iter.pos
   match<-eE it with
   |none=>bB (.done .next)
   |some v=>
    rj fe it v
    pB fe env v
    let ok<-nN ifs aj λc r=>if r=aj then do let ok<-gH c env (bw c env);bB (ir ok) else bB (ir r)
    if ok then
     ug (.ListComp elt gs scope pos) elt gs d acc env (again (.compLoop (.ListComp elt gs scope pos) d it acc env))
    else again (.compLoop (.ListComp elt gs scope pos) d it acc env)):=by
 unfold compTurn ug
 dsimp only
 rw[hg]
 cases gs[d+1]?<;>rfl
noncomputable def nQ(A:aW)(e elt:aK)(gs:af fY)(d:ag)(acc:ak)(env:bD)(Q:aq->Prop)(s:aq):Prop:=
 match gs[d+1]? with
 |some g'=>g'.is_async=0/\tJ g'.iter/\aw (ay Wc.prog Wc.w) A (bw g'.iter env) (λx s1=>aw (ay Wc.prog Wc.w) A (i4 x) (λY6 s2=>fO (ay Wc.prog Wc.w) A (.compStart e (d+1) Y6 acc env) (λr s3=>∃f,r=.ok f/\Q s3) s2) dC s1) dC s
 |none=>aw (ay Wc.prog Wc.w) A (bw elt env) (λx s1=>aw (ay Wc.prog Wc.w) A (cf (.builtin "list.append") [acc,x]) (λ_ s2=>Q s2) dC s1) dC s
theorem m8{A:aW}{e elt:aK}{gs:af fY}{d:ag}{acc:ak}{env:bD}{Q Q':aq->Prop}{s:aq}(h:nQ A e elt gs d acc env Q s)(q:∀s,Q s->Q' s):nQ A e elt gs d acc env Q' s:=by
 unfold nQ at h⊢;cases hg:gs[d+1]? with
 |none=>replace h:=hg▸h;exact ec h (λx s1 h1=>ec h1 (λ_ s2 h2=>q _ h2) λ_ _ q=>q) λ_ _ q=>q
 |some g'=>rw[hg] at h;exact qg h λh1 h2 h=>⟨h1,h2,ec h (λx s1 h1=>ec h1 (λ_ s2 h2=>rc h2 λr s3 ⟨f,hf,h3⟩=>⟨f,hf,q _ h3⟩) λ_ _ q=>q) λ_ _ q=>q⟩
theorem RJ{A:aW}{e elt:aK}{gs:af fY}{d:ag}{acc:ak}{env:bD}{k:cX lF}{Q:lF->aq->Prop}{E:ak->aq->Prop}{s:aq}(h:nQ A e elt gs d acc env (λs'=>aw (ay Wc.prog Wc.w) A k Q E s') s):aw (ay Wc.prog Wc.w) A (ug e elt gs d acc env k) Q E s:=by
 unfold nQ at h;unfold ug;cases hg:gs[d+1]? with
 |none=>replace h:=hg▸h;dsimp only at h⊢;refine au (au (ec h (λx s1 h1=>au (ec h1 (λ_ s2 h2=>aD h2) λ_ _ q=>q.elim)) λ_ _ q=>q.elim))
 |some g'=>
  rw[hg] at h;dsimp only at h⊢;refine qg h λha hp h=>?_;have hn:(g'.is_async !=0)=aQ:=by refine az ha ?_;rfl
  simp only[hn,jN,iA];exact au (ec h (λx s1 h1=>au (jr (au (rn (hp env x) (au (cy (ec h1 (λY6 s2 h2=>au (wpAny_runOwn (rc h2 λr s3 ⟨f,hf,h3⟩=>hf▸h3))) λ_ _ q=>q.elim))))))) λ_ _ q=>q.elim)
section
variable{A:aW}{R:jq->aq->Prop}{s:aq}{env:bD}
theorem rZ{elt:aK}{gs:af fY}{scope:aX}{pos:bu}{d:ag}{it acc:ak}{fe iter:aK}{ifs:af aK}(hg:gs[d]?=ae ⟨fe,iter,ifs,0⟩)(I:ag->aq->Prop)
  (turn:∀n s,I n s->aw (ay Wc.prog Wc.w) A (eE it) (λr cW=>match r with
   |none=>R (.ok .next) cW
   |some v=>aw (ay Wc.prog Wc.w) A (rj fe it v) (λ_ Va=>aw (ay Wc.prog Wc.w) A (pB fe env v) (λ_ iL=>
     aw (ay Wc.prog Wc.w) A (nN ifs aj λc r=>if r=aj then do let ok<-gH c env (bw c env);bB (ir ok) else bB (ir r)) (λok Wr=>
      if ok=aj then nQ A (.ListComp elt gs scope pos) elt gs d acc env (λY7=>∃m,m<n/\I m Y7) Wr
      else∃m,m<n/\I m Wr) dC iL) dC Va) dC cW) dC s)
  (n:ag)(h:I n s):fO (ay Wc.prog Wc.w) A (.compLoop (.ListComp elt gs scope pos) d it acc env) R s:=by
 refine codeAny_loop ac I (λn s hI=>wpAny_noted<|az (EK _ _ _ _ _ _ _ _ _ _ _ hg)<|wpAny_bind (jr (au (ec (turn n s hI) (λr cW jP=>?_) λ_ _ h'=>h'.elim)))) n h
 induction r with
 |none=>exact aD jP
 |some v=>
  refine au (ec jP (λ_ Va Y8=>au (ec Y8 (λ_ iL vd=>au (ec vd (λok Wr He=>?_) λ_ _ h'=>h'.elim)) λ_ _ h'=>h'.elim)) λ_ _ h'=>h'.elim)
  induction ok with
  |false=>exact aD ⟨ac,He⟩
  |true=>exact RJ (m8 He λY7 NU=>aD ⟨ac,NU⟩)
theorem k8{elt:aK}{gs:af fY}{scope:aX}{pos:bu}{d:ag}{it acc:ak}{fe iter:aK}{ifs:af aK}(hg:gs[d]?=ae ⟨fe,iter,ifs,0⟩)(h0:fO (ay Wc.prog Wc.w) A (.compLoop (.ListComp elt gs scope pos) d it acc env) R s)(h:aw (ay Wc.prog Wc.w) A (i4 it) (λVb s'=>fO (ay Wc.prog Wc.w) A (.compLoop (.ListComp elt gs scope pos) d Vb acc env) R s') dC s):fO (ay Wc.prog Wc.w) A (.compStart (.ListComp elt gs scope pos) d it acc env) R s:=by
 refine JC<|wpAny_notedAt ?_;unfold compStart;refine az hg<|wpAny_bind (pq (Jf ?_));split
 ·first
   |exact au (aD (aD (And.intro ac h0)))
   |exact wpAny_pure (And.intro rfl h0)
 ·first
   |exact au (fN (au (jr (au (ec h (λVb s' h'=>aD (And.intro ac h')) λ_ _ x=>x.elim)))))
   |(refine wpAny_bind (wpAny_rule ?_);show wpAny _ _ (standAt iter.pos>>=_) _ _ s;exact wpAny_bind (wpAny_standAt (wpAny_bind (wpAny_mono h (λVb s' h'=>wpAny_pure (And.intro rfl h')) λ_ _ x=>x.elim))))
end
section
variable{n:ag}{A:aW}{env:bD}{sc:aX}{m:Env}
theorem Lo{es:af aK}:∀{s:aq}{Q:aY->aq->Prop}{E:ak->aq->Prop},Q aQ s->aw (ay Wc.prog Wc.w) A (nN es aQ λc r=>if r=aj then do let ok<-gH c env (bw c env);bB (ir ok) else bB (ir r)) Q E s:=by
 induction es with
 |nil=>intro s Q E h;exact aD h
 |cons e es ih=>
  intro s Q E h
  rw[o4]
  exact au (aD (ih h))
theorem EL(IH:b7 n){es:af aK}{ps:af PE}(t:Gw sc es ps){s:aq}{ρ:af ao}{st st':af O}{b:aY}{Q:aY->aq->Prop}{E:ak->aq->Prop}(rm:dO n A)(R:Rel s.heap ρ st)(N:cD s.heap ρ env sc m)
  (e:tests (λe=>(run Wc.G n).ev e m) ps st=ae (b,st'))(k:∀s' dP,Good mA s ρ st' s' dP->Q b s'):
  aw (ay Wc.prog Wc.w) A (nN es aj λc r=>if r=aj then do let ok<-gH c env (bw c env);bB (ir ok) else bB (ir r)) Q E s:=by
 induction ps generalizing es s ρ st with
 |nil=>
  cases t
  rcases dw e with⟨h,h'⟩
  exact aD (h▸k s ρ (h'▸Good.refl _ R))
 |cons p ps ih=>
  cases t with
  |cons t1 ns t2=>
  refine ba e λv d4 e1 f1=>ba f1 λb1 nT e2 f2=>fB (gO e2) λz1 z2=>?_
  subst z1
  subst z2
  rw[o4]
  refine au (au (Qo (fC IH t1 rm R N e1 ac) λb' s1 h1 d0 g1=>aD ?_))
  subst h1
  induction b' with
  |true=>exact ih t2 g1.rel (N.go R g1) f2 λs' dP g=>k s' dP (g1.trans g)
  |false=>
   rcases dw (f2) with⟨h,h'⟩
   exact Lo (h▸k s1 d0 (h'▸g1))
end
section
variable{h:aO}{ρ:af ao}{env:bD}{sc:aX}{m m':Env}
theorem cD.weak(N:cD h ρ env sc m')(le:∀x v,m x=ae v->m' x=ae v):cD h ρ env sc m:=
 {N with
  locs:=bH (N.locs) λmm a b=>⟨mm,a,λx v e k=>b x v (le _ _ e) k⟩
  cells:=λx v e k=>N.cells x v (le _ _ e) k}
theorem yJ{y:aA}:∀{xs:af aA}{vs:af V}{m:Env},y∉xs->(m.bind xs vs) y=m y
 |[],_,_,_=>by cases‹List V›<;>rfl
 |x::xs,[],m,_=>ac
 |x::xs,v::vs,m,h=>by
  exact az (yJ (λq=>h (iY _ q))) (qu (λq=>h (by refine az q ?_;exact lD)))
theorem pC{xs:af aA}{v:V}(e:bindTo m xs v=ae m'){y:aA}(h:y∉xs):m' y=m y:=by
 have ne:∀{xs:af aA},y∉xs->((mQ v).bind λvs=>if xs.length=vs.length then ae (m.bind xs vs) else aC)=ae m'->m' y=m y:=λ{xs} h e=>by
  refine bH (wM.mp e) λvs _ e=>?_;split at e
  ·replace e:=aU e;subst e;exact yJ h
  ·exact eP e
 match xs,h,e with
 |[],h,e=>exact ne h e
 |[x],h,e=>exact aU e▸qu λq=>h (by refine az q ?_;exact .head _)
 |_::_::_,h,e=>exact ne h e
theorem Lp{xs:af aA}{v:V}(e:bindTo m xs v=ae m')(un:∀x∈xs,m x=aC):∀x u,m x=ae u->m' x=ae u:=λx u hx=>by
 have:x∉xs:=λq=>by replace hx:=(un x q)▸hx;exact eP hx
 refine(pC e this).trans ?_;exact hx
end
section
variable{n:ag}{A:aW}{s:aq}{ρ:af ao}{st st':af O}{env:bD}{sc:aX}{m:Env}
theorem uh{a:ag}{D:ao}{vs:af V}{v:V}{x':ak}(R:Rel s.heap ρ st)(p:ρ[a]?=ae D)(hl:a<st.length/\a≠0)(l:st[a]?=ae (.list vs))(hz:vs.length<16777216)(x:VR s.heap ρ x' v):aw (ay Wc.prog Wc.w) A (cf (.builtin "list.append") [.ref D,x']) (λ_ s'=>Good mA s ρ (st.set a (.list (vs++[v]))) s' ρ) dC s:=by
 refine lC (R.list p l) λitems k hd r=>gx JD (⟨_,hd,ac⟩) entry_list_append (?_:aw _ _ (updateSeq D (·.push x')>>=λ_=>ui .none) _ _ s) (args_list_append _ _);have mM:items.size<=tY:=by(refine az r.size ?_;refine az fg ?_);exact bz ‹_›
 refine au (pE hd ac (aD ⟨.none,ac,?_⟩) (hz:=mM) (_hz':=by rw[Hf];exact jF mM));have sb:=dF s.heap D (cK (·.push x'));obtain⟨n',sQ⟩:∃n',(s.heap.update D (cK (·.push x'))).get? D=ae (eM (items.push x') n'):=⟨_,qZ hd _⟩;exact ii R s.toks p hl.2 sb sQ (.list<|az o5 ((r.snoc x).mono (R.lJ (cw p) sb) Pre.refl))
theorem Lq{it:eA}{b:V->P cH}{i:ag}{st st':af O}{C:Prop}(e:iK it b (it.vs.drop i) st=ae ((),st'))(hi:i<=it.vs.length)(k0:i=it.vs.length->t9 it st->st'=st->C)(k1:∀v u d4,it.vs[i]?=ae v->i<it.vs.length->t9 it st->b v st=ae (u,d4)->iK it b (it.vs.drop (i+1)) d4=ae ((),st')->C):C:=by
 cases hd:it.vs.drop i with
 |nil=>replace e:=hd▸e;exact fB (ua (e)) λh c=>k0 (drop_nil hd hi) c h
 |cons v vs=>refine fB (drop_cons hd) λh1 h2=>?_;rw[hd] at e;exact ba e λu MS e1 e2=>ba e2 λu d4 e3 e4=>fB (ua e1) λh c=>k1 v u d4 h1 (bq.mp h1).1 c (h▸e3) (h2.symm▸e4)
inductive CpI(P:af O->aq->af ao->ag->Prop)(L:ag->af O->Prop)(N k:ag)(iL:aq):Prop
 |mk(i:ag)(gL:af ao)(iC:af O)(hk:k=N-i)(hi:i<=N)(a:P iC iL gL i)(e:L i iC)
theorem yK(IH:b7 n){elt:aK}{gs:af fY}{scope:aX}{pos:bu}{d:ag}{D:ao}{fe iter:aK}{ifs:af aK}{xs:af aA}{qs:af PE}{ys:af aA}{body:Env->P cH}(hg:gs[d]?=ae ⟨fe,iter,ifs,0⟩)(tt:TT xs fe)(own:∀x∈xs,gC sc x=aj)(ti:Gw sc ifs qs)(rm:dO n A){it:eA}{I:ao}{Pw:ag->Env->af O->aq->af ao->Prop}(K:Walk A env sc (XT env ys) s ρ I it xs Pw)(un:∀x∈xs,m x=aC)(hxy:∀x∈xs,x∈ys){a:ag}(rest:∀(v:V) (m1:Env) (s:aq) (ρ:af ao) (st st':af O),bindTo m xs v=ae m1->Rel s.heap ρ st->cD s.heap ρ env sc m1->ρ[a]?=ae D->body m1 st=ae ((),st')->nQ A (.ListComp elt gs scope pos) elt gs d (.ref D) env (λs'=>∃dP,Good (XT env ys) s ρ st' s' dP/\cD s'.heap dP env sc m1) s){cW:aq}{c7:af ao}{eK:af O}(at0:Pw 0 m eK cW c7)(hD:c7[a]?=ae D)(e:iK it (λv=>bP (bindTo m xs v) λm'=>cI (tests (λe=>(run Wc.G n).ev e m') qs) λb=>if b then body m' else ret ()) it.vs eK=ae ((),st')){Q:jq->aq->Prop}(hQ:∀s' dP,Good (XT env ys) s ρ st' s' dP->cD s'.heap dP env sc m->dP[a]?=ae D->Q (.ok .next) s'):fO (ay Wc.prog Wc.w) A (.compLoop (.ListComp elt gs scope pos) d (.ref I) (.ref D) env) Q cW:=by
 obtain⟨L,hL⟩:∃L:ag->af O->Prop,∀i st,L i st↔iK it (λv=>bP (bindTo m xs v) λm'=>cI (tests (λe=>(run Wc.G n).ev e m') qs) λb=>if b then body m' else ret ()) (it.vs.drop i) st=ae ((),st'):=⟨_,λ_ _=>yH⟩;obtain⟨Y,hY⟩:∃Y:af O->aq->af ao->ag->Prop,∀st s ρ i,Y st s ρ i↔Pw i m st s ρ/\ρ[a]?=ae D:=⟨_,λ_ _ _ _=>yH⟩;refine rZ hg (CpI Y L it.vs.length) (λk iL h=>?_) it.vs.length ⟨0,c7,eK,ac,bR _,(hY _ _ _ _).mpr ⟨at0,hD⟩,(hL _ _).mpr e⟩;obtain⟨i,gL,iC,hk,hi,a2,e⟩:=h;rcases(hY _ _ _ _).mp a2 with⟨a2,hD2⟩;refine Lq ((hL _ _).mp e) hi (λh0 c hs=>?_) λv u Lg hv hl c e3 e4=>bb e3 λm4 e5 e6=>ba e6 λb RA e7 e8=>?_
 ·subst h0;exact K.done a2 c λs3 g N=>hQ s3 gL (hs.symm▸g) N hD2
 ·refine K.turn a2 tt c hv λv' s3 h=>h λs4 x a4=>wm (ue rm.handled tt own (K.gd a4).rel (K.en a4) x e5) λ_ s5 h5=>?_;have a5:=K.step a4 h5.1 (λb h=>vR h) (λb h nx=>aV (uc hxy h) nx) h5.2;refine EL IH ti rm (K.gd a5).rel h5.2 e7 λs6 NT g6=>?_;have N6:=h5.2.go (K.gd a5).rel g6;have a6:=K.step a5 g6 (λb h=>h.elim) (λb h nx=>h.elim) N6;have TW:NT[a]?=ae D:=g6.qf.pre _ _ (h5.1.qf.pre _ _ hD2);have fin:∀{s7:aq}{Y9:af ao},Pw (i+1) m4 Lg s7 Y9->Y9[a]?=ae D->∃m_1,m_1<k/\CpI Y L it.vs.length m_1 s7:=λa7 hD7=>
   ⟨it.vs.length-(i+1),hk▸uf hl (de i),i+1,_,Lg,ac,hl,(hY _ _ _ _).mpr ⟨K.m0 a7 ((K.en a7).weak (Lp e5 un)),hD7⟩,(hL _ _).mpr e4⟩
  induction b with
  |true=>exact m8 (rest v m4 s6 NT RA Lg e5 (K.gd a6).rel N6 TW e8) λs7 h7=>bH h7 λY9 g7 N7=>fin (K.step a6 g7 (λb h=>vR h) (λb h nx=>aV h nx) N7) (g7.qf.pre _ _ TW)
  |false=>rcases dw (e8) with⟨_,q⟩;exact fin (q.symm▸a6) TW
theorem Cd(IH:b7 n)(SO:ly n){elt:aK}{pe:PE}{gs:af fY}{scope:aX}{pos:bu}(te:TE sc elt pe)(rm:dO n A){D:ao}{a:ag}:∀(hs:af Gen)(d:ag),ch sc (gs.drop (d+1)) hs->∀(m:Env),(∀x∈dA hs,m x=aC)->(dA hs).Nodup->(∀x∈dA hs,gC sc x=aj)->∀(s:aq)(ρ:af ao)(st st':af O),Rel s.heap ρ st->cD s.heap ρ env sc m->ρ[a]?=ae D->mq (run Wc.G n).ev pe a hs m st=ae ((),st')->nQ A (.ListComp elt gs scope pos) elt gs d (.ref D) env (λs'=>∃dP,Good (XT env (dA hs)) s ρ st' s' dP/\cD s'.heap dP env sc m) s:=by
 intro hs;induction hs with
 |nil=>
  intro d tg m un nd own s ρ st st' R N hD e
  have hg:gs[d+1]?=aC:=by
   cases h:gs.drop (d+1) with
   |nil=>exact Ce (by simpa using h)
   |cons g r=>replace tg:=h▸tg;cases tg
  unfold nQ;refine az hg<|ba e λv d4 e1 e2=>ba e2 λu nT e3 e4=>La e3 λvs l hz hl hr=>az ((dw e4).2.trans (wV hr).2)<|IH.go te rm R N e1 λx s1 d0 g1 x1=>wm (uh g1.rel (g1.qf.pre _ _ hD) hl l hz x1) λ_ s2 g2=>?_;have g:=g1.trans g2;exact⟨d0,g.weak λ_ q=>q.elim,N.go R g⟩
 |cons g hs ih=>
  rcases g with⟨xs,src,qs⟩;intro d tg m un nd own s ρ st st' R N hD e;cases h:gs.drop (d+1) with
  |nil=>replace tg:=h▸tg;cases tg
  |cons g gr=>
   rcases drop_cons h with⟨hg,hr⟩;rw[h] at tg;cases tg with
   |@cons _ fe yL _ ifs _ _ _ tt ot Cf ti tgr=>
   unfold nQ;refine az hg ⟨ac,qA Cf,ba e λit d4 e1 e2=>?_⟩;simp only[dA,cR] at un own;simp only[dA,lK] at nd;refine SO.go Cf ot rm R N e1 λs2 I fp wr St lu T g2 oM fr off=>?_;have N2:=N.go R g2;have loop:=yK (m:=m) (st':=st') IH hg tt (λx hx=>own x (.inl hx)) ti rm (B5 (X:=XT env (dA (.mk xs src qs::hs))) (env:=env) (sc:=sc) (s:=s) (ρ:=ρ) T fr R.size) (λx hx=>un x (.inl hx)) (λx hx=>i5 _ hx) (body:=λm'=>mq (run Wc.G n).ev pe a hs m') (λv m1 s3 MT MS Lg hb R3 N3 hD3 e3=>by
    refine m8 (ih (d+1) (by refine az hr ?_;exact tgr) m1 (λx hx=>?_) nd.2.1 (λx hx=>own x (.inr hx)) s3 MT MS Lg R3 N3 hD3 e3) λs5 hq=>bH hq λUf g5 N5=>⟨Uf,g5.weak λb h=>uc (λx hx=>i6 _ hx) h,N5⟩;refine az (pC hb (λq=>nd.2.2 x q x hx ac)) ?_;exact un x (.inr hx)) ⟨g2.weak λ_ q=>q.elim,N2,oM,off⟩ (g2.qf.pre _ _ hD) e2 (Q:=λr s'=>∃f,r=.ok f/\∃dP,Good (XT env (dA (.mk xs src qs::hs))) s ρ st' s' dP/\cD s'.heap dP env sc m) λs' dP g N' _=>⟨_,ac,dP,g,N'⟩
   exact k8 hg loop (T.self s2 lu _ oM loop)
end
theorem Hg{env:bD}:∀(names:af (aM×jt))(acc:af (aM×ao)),(∀n,(n,jo)∈names->∃c,env.cells.lookup n=ae c)->
  ∃cl,(nN names acc (λ(x:aM×jt)(cs:af (aM×ao))=>if x.2==.free then do let a<-cellOf env x.1;bB (ir ((x.1,a)::cs)) else bB (ir cs)):cX (af (aM×ao)))=bB cl/\
   (∀p∈cl,p∈acc\/(env.cells.lookup p.1=ae p.2/\(p.1,jo)∈names))/\(∀p∈acc,p∈cl)/\(∀n,(n,jo)∈names->∃c,(n,c)∈cl):=by
 intro names
 induction names with
 |nil=>intro acc _;exact⟨acc,ac,λp h=>.inl h,λp h=>h,λn h=>(gu h).elim⟩
 |cons x r ih=>
  intro acc has
  obtain⟨n,k⟩:=x
  rw[o4]
  by_cases hk:(k==jo)=aj
  ·have Ws:k=.free:=by simpa using hk
   subst Ws
   rcases has n lD with⟨c,hc⟩
   refine xU (ih ((n,c)::acc) λn' h=>has n' (iY _ h)) λcl e a b d=>⟨cl,?_,λp hp=>?_,λp hp=>b p (iY _ hp),λn' h=>?_⟩
   ·have f8:cellOf env n=bB c:=by unfold cellOf;(refine az hc ?_;rfl)
    simp only[gE,m7,f8]
    exact e
   ·rcases a p hp with h|⟨h1,h2⟩
    ·rcases ci.mp h with rfl|h
     ·exact .inr ⟨hc,lD⟩
     ·exact .inl h
    ·exact .inr ⟨h1,iY _ h2⟩
   ·rcases ci.mp h with h|h
    ·cases h;exact⟨c,b _ lD⟩
    ·exact d n' h
  ·refine xU (ih acc λn' h=>has n' (iY _ h)) λcl e a b d=>⟨cl,?_,λp hp=>?_,b,λn' h=>?_⟩
   ·simp only[Bool.not_eq_true] at hk
    simp only[hk,jN,iA]
    exact e
   ·rcases a p hp with h|⟨h1,h2⟩
    ·exact .inl h
    ·exact .inr ⟨h1,iY _ h2⟩
   ·rcases ci.mp h with h|h
    ·cases h;exact aV ac hk
    ·exact d n' h
theorem zM{env:bD}{scope:aX}(has:∀n,(n,jo)∈scope.names->∃c,env.cells.lookup n=ae c):∃cl,closureFor scope env=bB cl/\(∀n c,cl.lookup n=ae c->env.cells.lookup n=ae c/\(n,jo)∈scope.names)/\(∀n,(n,jo)∈scope.names->∃c,cl.lookup n=ae c):=by
 refine xU (Hg scope.names [] has) λcl e a _ d=>⟨cl,?_,λn c h=>?_,λn h=>?_⟩
 ·have:closureFor scope env=(nN scope.names ([]:af (aM×ao)) (λ(x:aM×jt)(cs:af (aM×ao))=>if x.2==.free then do let a<-cellOf env x.1;bB (ir ((x.1,a)::cs)) else bB (ir cs))>>=λcs=>bB cs):=ac;refine this.trans<|az e ?_;rfl
 ·rcases a _ (fQ h) with h|h
  ·cases h
  ·exact h
 ·refine eh (d n h) λc hc=>?_;cases q:cl.lookup n with
  |some c'=>exact⟨c',ac⟩
  |none=>have:=List.lookup_eq_none_iff.mp q _ hc;simp at this
theorem zN:∀(names:af (aM×jt))(k:ag)(acc:af (aM×ao)),jT k names acc=jT k names []++acc:=by
 intro l0;induction l0 with
 |nil=>exactλk acc=>ac
 |cons oo r ih=>
  obtain⟨x,kind⟩:=oo;intro k acc;unfold jT;split
  ·rw[ih (k+1) ((x,k)::acc),ih (k+1) [(x,k)],mx];rfl
  ·exact ih k acc
theorem JE:∀(names:af (aM×jt))(k:ag)(acc:af (aM×ao))(p:aM×ao),p∈jT k names acc->p∈acc\/(p.1,xe)∈names:=by
 intro l0;induction l0 with
 |nil=>exactλk acc p h=>.inl h
 |cons oo r ih=>
  obtain⟨x,kind⟩:=oo;intro k acc p h;unfold jT at h;split at h
  ·rename_i hk;have Ws:kind=.cell:=by simpa using hk
   subst Ws;rcases ih (k+1) ((x,k)::acc) p h with h|h
   ·rcases ci.mp h with rfl|h
    ·exact .inr lD
    ·exact .inl h
   ·exact .inr (iY _ h)
  ·rcases ih k acc p h with h|h
   ·exact .inl h
   ·exact .inr (iY _ h)
theorem Hh{f:aM->jt->jt}{n:aM}:∀(names:af (aM×jt)),(names.map λx=>(x.1,f x.1 x.2)).lookup n=(names.lookup n).map (f n):=by
 intro l0;induction l0 with
 |nil=>exact ac
 |cons oo r ih=>
  obtain⟨m,k⟩:=oo;refine jI.trans<|az jI ?_;cases hx:n==m with
  |true=>
   have:n=m:=by simpa using hx
   subst this;rfl
  |false=>exact ih
theorem pF{scope sc:aX}{n:aM}:(gD scope sc).names.lookup n=(scope.names.lookup n).map λk=>if(k==.free&&sc.kind==.function&&sc.names.lookup n==ae .cell) then .cell else k:=by
 have:(gD scope sc).names=scope.names.map λx=>(x.1,(λn k=>if(k==.free&&sc.kind==.function&&sc.names.lookup n==ae .cell) then .cell else k) x.1 x.2):=by unfold gD;dsimp only;congr 1;funext ⟨n,k⟩;split<;>rfl
 exact az this (Hh (f:=λn k=>if(k==.free&&sc.kind==.function&&sc.names.lookup n==ae .cell) then .cell else k) scope.names)
theorem EM{scope sc:aX}{n:aM}(h:(gD scope sc).names.lookup n=ae .local):scope.names.lookup n=ae .local:=by
 rw[pF] at h;cases e:scope.names.lookup n with
 |none=>replace h:=e▸h;exact eP h
 |some k=>
  replace h:=e▸h;dsimp only[wK,JF] at h;split at h
  ·replace h:=aU h;cases h
  ·exact h
theorem yM{scope sc:aX}{n:aM}(h:(gD scope sc).names.lookup n=ae .cell\/(gD scope sc).names.lookup n=ae .free):scope.names.lookup n=ae .cell\/scope.names.lookup n=ae .free:=by
 replace h:=pF▸h;cases e:scope.names.lookup n with
 |none=>replace h:=e▸h;rcases h with h|h<;>exact eP h
 |some k=>
  replace h:=e▸h;dsimp only[wK,JF] at h;split at h
  ·rename_i q;simp only[cY,jp] at q;refine az q.1.1 ?_;exact .inr ac
  ·rcases h with h|h
   ·refine az h ?_;exact .inl ac
   ·refine az h ?_;exact .inr ac
theorem Lr{scope sc:aX}{n:aM}(h:scope.names.lookup n=ae .local\/scope.names.lookup n=ae .cell):(gD scope sc).names.lookup n=scope.names.lookup n:=by refine az pF ?_;rcases h with h|h<;>refine az h ?_<;>rfl
theorem ju{names:af (aM×jt)}(nd:(names.map (·.1)).Nodup){n:aM}{k:jt}(h:(n,k)∈names):names.lookup n=ae k:=by
 induction names with
 |nil=>cases h
 |cons x r ih=>
  rcases x with⟨m,k'⟩;simp -iota only[eL,eV] at nd;rcases ci.mp h with h|h
  ·cases h;simp
  ·have:n≠m:=λq=>nd.1 (by refine dm q ?_;exact RK (f:=(·.1)) h);exact jI.trans<|az (jG.mpr this) (ih nd.2 h)
section
variable{A:aW}{s:aq}{ρ:af ao}{st:af O}{env:bD}{sc scope:aX}{m:Env}{xs:af aA}
theorem zO(co:sO sc scope xs)(R:Rel s.heap ρ st)(N:cD s.heap ρ env sc m){cl:af (aM×ao)}(Bm:∀n c,cl.lookup n=ae c->env.cells.lookup n=ae c/\(n,jo)∈scope.names)(Wt:∀n,(n,jo)∈scope.names->∃c,cl.lookup n=ae c){Q:bD->aq->Prop}{E:ak->aq->Prop}(hQ:∀(zP:bD) (s1:aq),Good mA s ρ st s1 ρ->cD s1.heap ρ {zP with scope:=wG scope env} (gD scope sc) (m.drop (".0"::xs))->s.heap.objs.size<=zP.locals->(∀x∈xs,∀c,zP.cells.lookup (aB x)=ae c->s.heap.objs.size<=c)->Q zP s1):aw (ay Wc.prog Wc.w) A (newFunctionEnv scope env.globals cl [] env.qual aC .none (ae env)) Q E s:=by
 simp only[newFunctionEnv,Option.isSome_some,m7];refine au (JG<|wpAny_bind (wpAny_layCells _ (λname kind cells=>by cases hkc:kind==xe<;>simp[hkc]) _ _ _ _<|wpAny_bind (aD (aD ?_))));have hz:({s with heap:=s.heap.push {cls:=.type "dict",data:=.dict #[]}}:aq).heap.objs.size=s.heap.objs.size+1:=eW ..;refine az hz ?_;have Ls:=cellsFrom_ok scope.names (s.heap.push {cls:=.type "dict",data:=.dict #[]}) (s.heap.objs.size+1) [] ⟨λ_ _ hm=>(nomatch hm),Wu⟩ (by rw[eW];exact aP _);rw[eW] at Ls;generalize hH:pushCells (s.heap.push {cls:=.type "dict",data:=.dict #[]}) scope.names=H at Ls⊢;have kp:∀b o,s.heap.get? b=ae o->H.get? b=ae o:=λb o e=>by refine dm hH ?_;exact pushCells_keeps _ _ b o (bW _ e)
 have hns:H.Ns s.heap.objs.size (λ_=>aC):=by refine dm hH ?_;exact(Heap.Ns.new s.heap (.type "dict")).keeps (pushCells_keeps _ _)
 have sz:s.heap.objs.size<=H.objs.size:=bz hns.lt;have g:Good mA s ρ st {s with heap:=H} ρ:=⟨R.kept kp sz,mX.of_kept kp sz,ac,ac⟩;have N1:=N.go R g;have Yc:=zN scope.names (s.heap.objs.size+1) cl
 have look:∀n c,(jT (s.heap.objs.size+1) scope.names cl).lookup n=ae c->((jT (s.heap.objs.size+1) scope.names []).lookup n=ae c/\(n,xe)∈scope.names)\/(cl.lookup n=ae c/\(n,jo)∈scope.names):=λn c e=>by
  replace e:=Yc▸e;rewrite[RL] at e;cases q:(jT (s.heap.objs.size+1) scope.names []).lookup n with
  |some c'=>
   rw[q] at e;simp at e;subst e;rcases JE _ _ _ _ (fQ q) with h|h
   ·exact nomatch h
   ·exact .inl ⟨ac,h⟩
  |none=>replace e:=q▸e;simp at e;exact .inr ⟨e,(Bm n c e).2⟩
 have excl:∀n,(n,xe)∈scope.names->(n,jo)∈scope.names->io:=λn h1 h2=>by have a:=ju co.nodup h1;have b:=ju co.nodup h2;replace b:=a▸b;(replace b:=aU b;cases b)
 have EN:∀n,(n,jo)∈scope.names->∃c,(jT (s.heap.objs.size+1) scope.names cl).lookup n=ae c/\env.cells.lookup n=ae c:=λn h=>by
  refine eh (Wt n h) λc hc=>⟨c,az Yc<|az RL ?_,(Bm n c hc).1⟩;cases q:(jT (s.heap.objs.size+1) scope.names []).lookup n with
  |some c'=>
   rcases JE _ _ _ _ (fQ q) with h'|h'
   ·exact nomatch h'
   ·exact(excl n h' h).elim
  |none=>trivial
 have NV:∀(x:aA)(v:V),(m.drop (".0"::xs)) x=ae v->¬(scope.names.lookup (aB x)=ae .local\/scope.names.lookup (aB x)=ae .cell):=λx v e h=>by
  have hm:aB x∈(".0"::xs).map aB:=by
   rcases h with h|h
   ·exact co.own _ (fQ h) (.inl ac)
   ·exact co.own _ (fQ h) (.inr ac)
  refine bH (bt.mp hm) λy hy ey=>?_;have:=i3 ey;replace this:=this.symm;subst this;unfold Env.drop at e;exact eP ((aF (by simpa using hy)).symm.trans e)
 have Wv:∀(x:aA)(v:V),(m.drop (".0"::xs)) x=ae v->m x=ae v:=λx v e=>by
  unfold Env.drop at e;split at e
  ·exact eP e
  ·exact e
 have below:∀n c,env.cells.lookup n=ae c->c<s.heap.objs.size:=λn c e=>N.Tk e;refine hQ _ {s with heap:=H} g ?_ (aP _) λx hx c e=>?_
 ·exact{
   scope:=by dsimp only;(rewrite[M6];refine az N.scope ?_;rfl)
   kind:=co.kind
   glob:=N.glob
   Qn:=N.Qn
   locs:=⟨_,hns,λx v e k=>(NV x v e (.inl (EM k))).elim⟩
   cells:=λx v e k=>by
    rcases yM k with h|h
    ·exact(NV x v e (.inr h)).elim
    ·have hf:=fQ h;refine bH (EN _ hf) λc h1 h2=>kS (N1.cells x v (Wv x v e) (co.free _ hf)) λc' v' a1 a2 a3=>?_;rw[h2] at a1;(replace a1:=aU a1;subst a1);exact⟨c,v',h1,a2,a3⟩
   has:=λn k=>by
    rcases yM k with h|h
    ·exact kJ.mp (rg _ _ _ _ (.inl h))
    ·exact bH (EN _ (fQ h)) λc h1 _=>⟨c,h1⟩
   Jq:=λn c e=>by
    rcases look n c e with⟨h,_⟩|⟨h,_⟩
    ·exact⟨aC,(Ls.empty n c (fQ h)).1⟩
    ·exact N1.Jq n c (Bm n c h).1
   apart:=λn n' c e e'=>by
    rcases look n c e with⟨h,k1⟩|⟨h,k1⟩<;>rcases look n' c e' with⟨h',k2⟩|⟨h',k2⟩
    ·exact name_of_addr Ls.apart (fQ h) (fQ h')
    ·have a1:=(Ls.empty n c (fQ h)).2;have a2:=below n' c (Bm n' c h').1;exact aV (rL a1 (RM a2)) (bS _)
    ·have a1:=(Ls.empty n' c (fQ h')).2;have a2:=below n c (Bm n c h).1;exact aV (rL a1 (RM a2)) (bS _)
    ·exact N.apart n n' c (Bm n c h).1 (Bm n' c h').1
   yA:=λhm=>bS _ (R.lt hm)
   wb:=λn c e hm=>by
    rcases look n c e with⟨h,_⟩|⟨h,_⟩
    ·have a1:=(Ls.empty n c (fQ h)).2;exact aV (lR (R.lt hm) (rp a1)) (bS _)
    ·exact N.wb n c (Bm n c h).1 hm
   zJ:=R.size
   zK:=λn c e=>by
    rcases look n c e with⟨h,_⟩|⟨h,_⟩
    ·exact lT R.size (rp (Ls.empty n c (fQ h)).2)
    ·exact N.zK n c (Bm n c h).1}
 ·rcases look _ c e with⟨h,_⟩|⟨h,k⟩
  ·exact rp (Ls.empty _ c (fQ h)).2
  ·have a:=ju co.nodup k;rcases co.fe x hx with h|h<;>(rw[a] at h;(replace h:=aU h;cases h))
end
section
variable{n:ag}{A:aW}{s:aq}{ρ:af ao}{st st':af O}{env:bD}{sc scope:aX}{m:Env}
theorem yN{C:ao}{mm:aM->aS ak}{s1:aq}{d0:af ao}{d4:af O}{X:ao->Prop}(g:Good X s ρ d4 s1 d0)(hn:s1.heap.Ns C mm)(hC:C∉d0)(h1:s.heap.objs.size<=C)(h2:Wc.h₀.objs.size<=C){h':aO}(sb:dH C s1.heap h'):
  Good X s ρ d4 {s1 with heap:=h'} d0:=
 g.fresh (X:=λb=>b=C) ⟨g.rel.other hC h2 sb (Heap.Ns.p9 hn),mX.other sb ac,ac,ac⟩ λc hc _=>hc▸h1
theorem EO(IH:b7 n)(SO:ly n){elt:aK}{pe:PE}{fe yL:aK}{xs:af aA}{src:Src}{ifs:af aK}{qs:af PE}{gs:af fY}{hs:af Gen}{pos p0:bu}(co:sO sc scope (dA (.mk xs src qs::hs)))(tt:TT xs fe)(ot:oi src xs=aj)(Cf:GJ sc yL src)(ti:Gw (gD scope sc) ifs qs)(tg:ch (gD scope sc) gs hs)(te:TE (gD scope sc) elt pe)(rm:dO n A)(R:Rel s.heap ρ st)(N:cD s.heap ρ env sc m){v:V}(e:gf (run Wc.G n) (.comp pe (.mk xs src qs::hs)) m st=ae (v,st')){use:aS (ak->cX cH)}{Q:ak->aq->Prop}(hQ:∀(C:ao) (s':aq) (dP:af ao) (acc:ak) (mm:aM->aS ak) (f:B4),Good mA s ρ st' s' dP->VR s'.heap dP acc v->s'.heap.Ns C mm->C∉dP->s.heap.objs.size<=C->Wc.h₀.objs.size<=C->compPost (ay Wc.prog Wc.w) A dC use Q acc C (.ok f) s'):aw (ay Wc.prog Wc.w) A (comprehension (.ListComp elt (⟨fe,yL,ifs,0⟩::gs) scope pos) scope env p0 (RN []) aQ (bw yL env) use) Q dC s:=by
 refine ba e λit d4 e1 f1=>ba f1 λaaS nT e2 f2=>qg (lL e2) λ_ z1 z2=>?_;subst z1;subst z2;refine ba f2 λu MS e3 f3=>fB (dw f3) λz3 z4=>?_;subst z3;subst z4;refine jj (zM (λn h=>N.has n (co.free n h))) λcl UV Bm Wt=>wpAny_comprehension_free (g:=⟨fe,yL,ifs,0⟩) (gs:=gs) ac (λx=>qA Cf env x) UV co.kind (λx hx hl=>ju co.nodup (by refine dm hl ?_;exact hx)) ?_;refine SO.go Cf ot rm R N e1 λs2 I fp wr St lu T g2 oM fr off=>nf ?_ (by show _<=tY;decide);have gl:Good mA s2 lu (d4++[.list []]) {s2 with heap:=s2.heap.push {cls:=.type "list",data:=.seq (uk ([]:af ak))}} (lu++[s2.heap.objs.size]):=qt g2.rel s2.toks ac (.list .nil);have N2:=(N.go R g2).go g2.rel gl;have g3:=g2.trans gl;refine zO (st:=d4++[.list []]) co gl.rel N2 Bm Wt λzP s4 g4 N4 hC hX=>?_;have g5:=g3.trans g4;have WF:s.heap.objs.size<=(s2.heap.push {cls:=.type "list",data:=.seq (uk ([]:af ak))}).objs.size:=g3.qf.size;have kp:∀b∈fp,∀o,s2.heap.get? b=ae o->s4.heap.get? b=ae o:=λb hb o e=>(gl.trans g4).qf.kept b o e (off b hb) λq=>q;have Lg:St 0 s4.heap (lu++[s2.heap.objs.size]):=T.frame 0 _ _ _ _ oM kp ((gl.trans g4).lJ g2.rel) (gl.trans g4).qf.pre;have WP:∀b∈fp,b∉lu++[s2.heap.objs.size]:=λb hb=>(gl.trans g4).qf.Es (T.lt oM hb) (off b hb);have own:∀x∈dA (.mk xs src qs::hs),gC (gD scope sc) x=aj:=λx hx=>by unfold gC;refine az (Lr (co.fe x hx)) ?_;rcases co.fe x hx with h|h<;>(refine az h ?_;rfl)
 have un:∀x∈dA (.mk xs src qs::hs),(m.drop (".0"::dA (.mk xs src qs::hs))) x=aC:=λx hx=>by unfold Env.drop;(refine az (aF (by simp[hx])) ?_;rfl)
 have nd:=co.VL;simp only[dA,lK] at nd;have loop:fO (ay Wc.prog Wc.w) A (.compLoop (.ListComp elt (⟨fe,yL,ifs,0⟩::gs) scope pos) 0 (.ref I) (.ref s2.heap.objs.size) {zP with scope:=wG scope env}) (compPost (ay Wc.prog Wc.w) A dC use Q (.ref s2.heap.objs.size) zP.locals) s4:=by
  refine yK IH (d:=0) (gs:=⟨fe,yL,ifs,0⟩::gs) (elt:=elt) (scope:=scope) (pos:=pos) (iter:=yL) ac tt (λx hx=>own x (i5 _ hx)) ti rm
   (B5 (X:=XT {zP with scope:=wG scope env} (dA (.mk xs src qs::hs))) T fr R.size) (λx hx=>un x (i5 _ hx)) (λx hx=>i5 _ hx) (body:=λm'=>mq (run Wc.G n).ev pe d4.length hs m') ?_ ⟨g5.weak λ_ q=>q.elim,N4,Lg,WP⟩ (gN g2.rel _) e3 λs' dP g N' hD'=>?_
  ·intro v m1 s5 Uf RA st6 hb R5 N5 hD5 e5;exact m8 (Cd (gs:=⟨fe,yL,ifs,0⟩::gs) IH SO te rm hs 0 tg m1 (λx hx=>az (pC hb (λq=>nd.2.2 x q x hx ac)) (un x (i6 _ hx))) nd.2.1 (λx hx=>own x (i6 _ hx)) s5 Uf RA st6 R5 N5 hD5 e5) λs7 ⟨Y9,g7,N7⟩=>⟨Y9,g7.weak λb h=>uc (λx hx=>i6 _ hx) h,N7⟩
  ·have fresh:∀b,XT {zP with scope:=wG scope env} (dA (.mk xs src qs::hs)) b->s.heap.objs.size<=b:=λb h=>by
    rcases h with h|⟨x,hx,e⟩
    ·refine az h ?_;exact lT WF hC
    ·exact lT WF (hX x hx b e)
   exact bH N'.locs λmm hn _=>hQ zP.locals s' dP _ mm _ (Good.fresh (Good.refl _ R) g λc h _=>fresh c h) (.ref hD') hn N'.yA (lT WF hC) N'.zJ
 exact k8 ac loop (T.self s4 _ _ Lg loop)
end
section
variable{n:ag}{A:aW}{s:aq}{ρ:af ao}{st st':af O}{env:bD}{sc:aX}{m m':Env}
theorem EP(IH:b7 n)(SO:ly n){elt:aK}{scope:aX}{pos:bu}{fe it:aK}{ifs:af aK}{gs:af fY}{xs:af aA}{src:Src}{qs:af PE}{hs:af Gen}{pe:PE}(co:sO sc scope (dA (.mk xs src qs::hs)))(tt:TT xs fe)(ot:oi src xs=aj)(Cf:GJ sc it src)(ti:Gw (gD scope sc) ifs qs)(tg:ch (gD scope sc) gs hs)(te:TE (gD scope sc) elt pe)(rm:dO n A)(R:Rel s.heap ρ st)(N:cD s.heap ρ env sc m){v:V}(e:gf (run Wc.G n) (.comp pe (.mk xs src qs::hs)) m st=ae (v,st')):aw (ay Wc.prog Wc.w) A (bw (.ListComp elt (⟨fe,it,ifs,0⟩::gs) scope pos) env) (gz s ρ v st') dC s:=by·rw[eval_ListComp];exact EO (use:=aC) IH SO co tt ot Cf ti tg te rm R N e λC s' dP acc mm f g x hn hC h1 h2=>⟨mm,hn,λh' sb=>⟨dP,yN g hn hC h1 h2 sb,x.mono (pz sb (Heap.Ns.p9 hn)) Pre.refl⟩⟩
inductive Ww(T:aX->aK->PE->Prop)(sc:aX)(elt:aK)(scope:aX):af fY->PE->Prop
 |mk {fe it ifs gs xs src qs hs pe}:sO sc scope (dA (.mk xs src qs::hs))->TT xs fe->oi src xs=aj->nM (T sc) sc it src->Ak (T (gD scope sc)) ifs qs->QD (T (gD scope sc)) (gD scope sc) gs hs->T (gD scope sc) elt pe->
   Ww T sc elt scope (⟨fe,it,ifs,0⟩::gs) (.comp pe (.mk xs src qs::hs))
noncomputable def LcI(T:aX->aK->PE->Prop)(sc:aX)(p:PE):aK->Prop
 |.ListComp elt gens scope _=>Ww T sc elt scope gens p
 |_=>iZ
theorem eJ.lc{T:aX->aK->PE->Prop}{sc:aX}{e:aK}{p:PE}(t:eJ T sc e p):LcI T sc p e:=
 eJ.casesOn (motive:=λe p _=>LcI T sc p e) t bp bp bp (λ_=>bp) (λ_ _ _=>bp) (λ_ _=>bp) (λ_=>bp) bp (λ_ _ _ _=>bp) (λ_ _=>bp) (λ_=>bp) (λ_=>bp) (λ_ _ _=>bp) (λ_ _ _ _=>bp) (λ_ _=>bp) (λ_ _=>bp) (λ_ _ _=>bp) (λ_ _=>bp) (λ_ _=>bp) (λ_ _ _=>bp) (λ_ _ _ _=>bp) (λ_ _ _=>bp) (λ_ _ _ _=>bp) (λ_ _ _ _ _=>bp) (λ_ _ _ _ _ _ _=>bp) (λ_ _ _ _ _ _ _=>bp) (λ_ _ _ _ _ _=>bp) λa b c d e f g=>.mk a b c d e f g
theorem Hi(IH:b7 n)(SO:ly n){x:aA}{tp:bu}{elt:aK}{gens:af fY}{scope:aX}{p:PE}{cp pos:bu}(own:gC sc x=aj)(t:TE sc (.ListComp elt gens scope cp) p)(us:Al sc (.Name (aB x) tp) (.ListComp elt gens scope cp) pos.line)(rm:dO n A)(R:Rel s.heap ρ st)(N:cD s.heap ρ env sc m){fl:Flow}(hn0:0<n)(e:tC (run Wc.G n) (.assign (.name x) p) m st=ae ((fl,m'),st'))(Za:∀v d4,(run Wc.G n).ev p m st=ae (v,d4)->gf (run Wc.G (n-1)) p m st=ae (v,d4))(Wx:b7 (n-1))(Wy:ly (n-1)):aw (ay Wc.prog Wc.w) A (exec (.Assign [.Name (aB x) tp] (.ListComp elt gens scope cp) pos) env) (rY env sc s ρ fl m' st') dC s:=by
 refine ba e λv d4 e1 f1=>fB (dw f1) λh z1=>?_;subst z1;cases h;have rm':dO (n-1) A:=⟨rm.handled,lT (aR (bL (mL (kL _ _)))) rm.depth,lT (aR (bL (mL (kL _ _)))) rm.units⟩;refine az (exec_Assign_Name_used _ _ _ _ (us env N.scope))<|wpAny_bind (jr (au ?_));rcases t with⟨k,t⟩;cases k with
 |zero=>exact t.elim
 |succ k=>
 have t1:Ww _ sc elt scope gens p:=t.lc;clear t;induction t1 with
 |@mk fe it ifs gs xs src qs hs pe co tt ot ts ti tg te=>
 have Cf:=ts.up k;replace ti:=ti.up;replace tg:=tg.up;replace te:TE _ _ _:=⟨k,te⟩
 ·show aw _ A (do let _<-comprehension (.ListComp elt (⟨fe,it,ifs,0⟩::gs) scope cp) scope env _ (RN []) aQ (bw it env) (ae (pB (.Name (aB x) tp) env))) _ _ s;refine au (wm (EO (use:=ae (pB (.Name (aB x) tp) env)) (Q:=λ_ s'=>rY env sc s ρ .next (m.upd x v) st' .next s') Wx Wy co tt ot Cf ti tg te rm' R N (Za _ _ e1) λC s' dP acc mm f g xv hn hC h1 h2=>rk (wm (iN g.rel (N.go R g) own xv) λ_ s2 h₀=>qg h₀ λg2 N2 tk=>?_)) λ_ s' hq=>aD (aD hq));have cl:C≠env.locals:=λq=>by exact bS _ (lR (q▸N.llt) h1)
  have cc:∀y c,env.cells.lookup y=ae c->c≠C:=λy c e q=>bS _ (lR (q▸N.Tk e) h1);have nX:¬XT env [x] C:=by
   rintro(q|⟨y,_,q⟩)
   ·exact cl q
   ·exact cc _ _ q ac
  refine E32 hn λo es ep ho r=>?_;have XL:s2.heap.Ns C mm:=⟨o,es,ep,g2.qf.kept _ _ ho hC nX,r⟩;exact⟨mm,XL,λh' sb=>⟨dP,yN ((g.weak λ_ q=>q.elim).trans (g2.weak λb h=>vR h)) XL hC h1 h2 sb,N2.mono (X:=λb=>b=C) (mX.other sb ac) (pz sb (Heap.Ns.p9 XL)) (λq=>cl q.symm) λy c e q=>cc y c e q,ac⟩⟩
end
section
variable{n:ag}{A:aW}{env:bD}{sc:aX}
theorem rY.Hj{s s1 s2:aq}{ρ d0:af ao}{d4 st':af O}{fl:Flow}{m':Env}{f:B4}(g:Good (XF env) s ρ d4 s1 d0)(h:rY env sc s1 d0 fl m' st' f s2):rY env sc s ρ fl m' st' f s2:=
 jj (h) λdP a b c=>⟨dP,g.trans a,b,c⟩
noncomputable def XV(n:ag)(A:aW)(env:bD)(sc:aX)(x:d6)(p:PS):Prop:=∀{s:aq}{ρ:af ao}{st st':af O}{m:Env}{r:Flow×Env},
 dO n A->Rel s.heap ρ st->cD s.heap ρ env sc m->tC (run Wc.G n) p m st=ae (r,st')->aw (ay Wc.prog Wc.w) A (exec x env) (rY env sc s ρ r.1 r.2 st') dC s
theorem Hk(ok:Wc.Ok)(IH:b7 n)(IX:qy n)(IW:B7 n)(SO:ly n)(Wx:b7 (n-1))(Wy:ly (n-1)){x:d6}{p:PS}{B:af d6->af PS->Prop}(hB:∀a p,B a p->UW sc a p)(t:TS B sc x p):XV n A env sc x p:=by
 induction t with
 |assign tl te ps=>exactλrm R N e=>Cc ok IH tl te ps rm R N e
 |used own te us=>
  intro s ρ st st' m r rm R N e;induction n with
  |zero=>cases(e)
  |succ k=>exact Hi IH SO own te us rm R N (oQ k) e (λv d4 h=>h) Wx Wy
 |expr te hs=>
  exactλrm R N e=>ba e λv d4 e1 f1=>wpAny_Expr (IH.go te rm R N e1 λv' s1 d0 g1 x1=>by
   have k:=Ln R N g1;cases v with
   |ref _=>exact(dy f1).elim
   |tup _=>exact(dy f1).elim
   |none=>refine bo f1 ?_;refine az x1.none_inv ?_;exact k
   |bool b=>refine bo f1 ?_;refine az x1.bool_inv ?_;exact k
   |int i=>refine bo f1 ?_;refine eh x1.int_inv λt h=>?_;refine az h ?_;exact k
   |str i=>refine bo f1 ?_;refine eh x1.str_inv λt h=>?_;refine az h ?_;exact k) (yI N) (hs _)
 |ret te=>exactλrm R N e=>ba e λv d4 e1 f1=>bo f1 (wpAny_Return_some (IH.go te rm R N e1 λv' s1 d0 g1 x1=>⟨d0,g1.weak λ_ q=>q.elim,N.go R g1,v',ac,x1⟩))
 |YD=>
  intro s ρ st st' m r rm R N e;refine ba e λv d4 e1 f1=>bo f1 ?_;induction n with
  |zero=>exact(dy (st:=st) e1).elim
  |succ k=>exact bo (e1) (wpAny_Return_none ⟨ρ,Good.refl _ R,N,.none,ac,.none⟩)
 |iff tt ta tb=>
  intro s ρ st st' m r rm R N e;refine ba e λv d4 e1 f1=>ba f1 λb nT e2 f2=>fB (gO e2) λhv hs=>?_;replace e1:=hs▸e1;refine wpAny_If (Qo (fC IH tt rm R N e1 hv) λb1 s1 h1 d0 g1=>?_);replace f2:=(km h1)▸f2;have g1':=g1.weak (Y:=XF env) λ_ q=>q.elim;induction b1 with
  |true=>rw[aF ac] at f2⊢;exact wm (IX _ _ _ (hB _ _ ta) A s1 d0 _ env m r.2 r.1 st' rm g1.rel (N.go R g1) f2) λ_ _ h=>rY.Hj g1' h
  |false=>rw[aG (by decide)] at f2⊢;exact wm (IX _ _ _ (hB _ _ tb) A s1 d0 _ env m r.2 r.1 st' rm g1.rel (N.go R g1) f2) λ_ _ h=>rY.Hj g1' h
 |@loop xs fe it src body ps pos tt ot own ts tb=>exactλrm R N e=>ba e λitems d4 e1 f1=>wpAny_For (SO.go ts ot rm R N e1 λs2 I fp wr St lu T g2 oM fr off=>Lm IX tt own (hB _ _ tb) rm (B5 T fr R.size) ⟨g2.weak λ_ q=>q.elim,N.go R g2,oM,off⟩ f1 λf s' h=>h) (λx=>qA ts _ x)
 |«while» tt tb=>exactλrm R N e=>wpAny_While (IW _ _ _ _ _ tt (hB _ _ tb) A _ _ _ env _ _ _ _ rm R N e λf s' h=>h)
 |fail=>exactλ{s ρ st st' m r} _ _ _ e=>(dy (st:=st) e).elim
theorem ER(ok:Wc.Ok)(IH:b7 n)(IX:qy n)(IW:B7 n)(SO:ly n)(Wx:b7 (n-1))(Wy:ly (n-1)){ss:af d6}{ps:af PS}{B:aX->af d6->af PS->Prop}(hB:∀a p,B sc a p->UW sc a p)(t:X8 (B sc) sc ss ps):∀{s:aq}{ρ:af ao}{st st':af O}{m:Env}{r:Flow×Env},dO n A->Rel s.heap ρ st->cD s.heap ρ env sc m->dY (run Wc.G n) ps m st=ae (r,st')->aw (ay Wc.prog Wc.w) A (execs ss env) (rY env sc s ρ r.1 r.2 st') dC s:=by
 induction t with
 |nil=>exactλrm R N e=>bo e (Jz ⟨_,Good.refl _ R,N,ac⟩)
 |cons t1 t2 ih=>
  intro s ρ st st' m r rm R N e;refine ba e λq d4 e1 f1=>wpAny_execs_cons (wm (Hk ok IH IX IW SO Wx Wy hB t1 rm R N e1) λf s1 h=>?_);obtain⟨TD,m1⟩:=q;refine jj h λd0 g1 N1 hf=>?_;induction TD with
  |next=>exact az (hf)<|wm (ih rm g1.rel N1 f1) λ_ _ h=>rY.Hj g1 h
  |ret u=>exact bH hf λu' hu xu=>az hu (bo f1 ⟨d0,g1,N1,u',ac,xu⟩)
theorem ES(ok:Wc.Ok)(IH:b7 n)(IX:qy n)(IW:B7 n)(SO:ly n)(Wx:b7 (n-1))(Wy:ly (n-1)):qy (n+1):=λsc ss ps t A s ρ st env m m' fl st' rm R N e=>t.elim λk t=>by
 induction k with
 |zero=>exact t.elim
 |succ k=>exact ER (B:=cr k) (r:=(fl,m')) ok IH IX IW SO Wx Wy (λ_ _ h=>⟨k,h⟩) t rm.down R N e
end
noncomputable def RP(h:aO)(b:ao):Prop:=∃o vs,h.get? b=ae o/\o.data=.fields vs
section
variable{h h':aO}{ρ:af ao}{st:af O}{s:aq}{A:aW}{E:ak->aq->Prop}
theorem AB{b:ao}(f:RP h b)(items:bj ak):¬Tp h ρ b items:=λt=>by refine eh t.ex λk e=>lC f λo vs ho hd=>?_;rw[e] at ho;(replace ho:=aU ho;subst ho);cases hd
theorem kC(wr:af ao)(R:Rel s.heap ρ st)(nI:∀b∈wr,b∉ρ)(hI:∀b∈wr,Wc.h₀.objs.size<=b)(f:∀b∈wr,RP s.heap b)(ext:∀b o,b∉wr->s.heap.get? b=ae o->h'.get? b=ae o)(sz:s.heap.objs.size<=h'.objs.size)(tk:ag):Good (·∈wr) s ρ st {s with heap:=h',toks:=tk} ρ/\dc s.heap ρ h' ρ:=by
 have NW:dc s.heap ρ h' ρ:=λb items t=>by rcases id t with⟨nb,k,e⟩;exact⟨nb,k,ext b _ (λhb=>AB (f b hb) items t) e⟩
 refine⟨⟨⟨R.len,R.once,R.new,R.zero,λb o e=>ext b o (λhb=>bS _ (lR (cB e) (hI b hb))) (R.base b o e),lT R.size sz,λi o e=>?_⟩,⟨Pre.refl,λi a e l=>aV (bq.mp e).1 (cU l),sz,λb o e _ nx=>ext b o nx e⟩,ac,ac⟩,NW⟩;exact kS (R.at_ i o e) λa ob e1 e2 e3=>⟨a,ob,e1,ext a ob (λhb=>nI a hb (cw e1)) e2,e3.mono NW Pre.refl⟩
theorem Lu{I:ao}{o:cM}{T:aA}{fe:aK}{xs:af aA}{v:ak}{Q:cH->aq->Prop}(tt:TT xs fe)(ho:s.heap.get? I=ae o)(hc:o.cls=.type T)(hT:(["enumerate","zip","dict_itemiterator","dict_reverseitemiterator","odict_iterator","itertools.zip_longest","itertools.pairwise"]:af aA).contains T=aQ)(h:Q () s):aw (ay Wc.prog Wc.w) A (rj fe (.ref I) v) Q E s:=by
 induction tt with
 |name=>exact aD h
 |two=>
  unfold rj;induction v with
  |ref a=>
   refine au (wpAny_load ho ?_);obtain⟨c,d,dt,sl⟩:=o;dsimp only at hc;subst hc;induction dt<;>try exact aD h
   dsimp only;refine az hT ?_;rewrite[Wz];exact az (aG (by decide)) (aD h)
  |_=>exact aD h
end
section
variable{n:ag}{A:aW}{it:eA}{xs:af aA}
theorem one{P:ao->Prop}{a:ao}(h:P a):∀b∈[a],P b:=λ_ hb=>bX.mp hb▸h
theorem xg{I:ao}{S:ag->aO->af ao->Prop}
  (obj:∀{i h ρ},S i h ρ->∃o vs T,h.get? I=ae o/\o.cls=.type T/\o.data=.fields vs/\(["enumerate","zip","dict_itemiterator","dict_reverseitemiterator","odict_iterator","itertools.zip_longest","itertools.pairwise"]:af aA).contains T=aQ)
  (frame:∀{i h ρ h' dP},S i h ρ->(∀o,h.get? I=ae o->h'.get? I=ae o)->dc h ρ h' dP->Pre ρ dP->S i h' dP)
  (item:∀{i} {s:aq} {ρ st v} {Q:aS ak->aq->Prop},S i s.heap ρ->Rel s.heap ρ st->t9 it st->it.vs[i]?=ae v->
   (∀v' h' tk,dH I s.heap h'->s.heap.objs.size<=h'.objs.size->(dc s.heap ρ h' ρ->VR h' ρ v' v/\S (i+1) h' ρ)->Q (ae v') {s with heap:=h',toks:=tk})->aw (ay Wc.prog Wc.w) A (eE (.ref I)) Q dC s)
  (done:∀{s:aq} {ρ st} {Q:aS ak->aq->Prop},S it.vs.length s.heap ρ->Rel s.heap ρ st->t9 it st->(∀h',ub I s.heap h'->s.heap.objs.size<=h'.objs.size->Q aC {s with heap:=h'})->aw (ay Wc.prog Wc.w) A (eE (.ref I)) Q dC s)
  (self:∀(s:aq) ρ (Q:ak->aq->Prop),S 0 s.heap ρ->Q (.ref I) s->aw (ay Wc.prog Wc.w) A (i4 (.ref I)) Q dC s):Ee A I it xs [I] [I] S where
 frame:=λi h ρ h' dP a k tk p=>frame a (λo e=>k I (.head _) o e) tk p
 live:=λi h ρ a=>one (let⟨o,_,_,ho,_,hd,_⟩:=obj a;⟨o,ho,.inl ⟨_,hd⟩⟩)
 Y5:=λi h ρ a=>one (let⟨o,vs,_,ho,_,hd,_⟩:=obj a;⟨.head _,o,vs,ho,hd⟩)
 item:=λi s ρ st v fe a R c e off hz tt=>item a R c e λv' h' tk sb sz q=>by
  have gt:=kC [I] R off hz (one (VC (obj a) λo vs _ ho _ hd _=>⟨o,vs,ho,hd⟩)) (h':=h') (λb o hb e=>sb.extBut b o (λq=>hb (q▸.head _)) e) sz tk
  rcases q gt.2 with⟨x,a'⟩
  exact VC (obj a') λo' vs T Jr hc' sQ hT=>⟨v',ac,Lu tt Jr hc' hT ⟨gt.1,x,a'⟩⟩
 done:=λs ρ st a R c off hz=>done a R c λh' ext sz=>
  ⟨ac,(kC [I] R off hz (one (VC (obj a) λo vs _ ho _ hd _=>⟨o,vs,ho,hd⟩)) (λb o hb e=>ext b o (λq=>hb (q▸.head _)) e) sz s.toks).1⟩
 self:=self
theorem Lv(hh:A.handled=aC){I ax:ao}{items:bj ak}{vs:af V}(tX:ax≠I):Ee A I ⟨vs,.none⟩ xs [I] [I] (λi h ρ=>h.IsTupleIter I ax i/\Tp h ρ ax items/\eB h ρ items.toList vs):=
 xg (λ⟨⟨o,ho,hc,hd⟩,_⟩=>⟨o,_,_,ho,hc,hd,by decide⟩) (λ⟨a,b,c⟩ k tk p=>⟨a.at k,tk _ _ b,c.mono tk p⟩)
  (λ{i s ρ st v Q} ⟨a,b,c⟩ R _ e k=>by
   refine bH (c.get e) λv' hv xv=>?_
   exact bG s.heap.objs.size (aP _) (wpAny_pyNext_tuple_item a b.is (x:=v') (by(refine dm (dS) ?_;try rfl);exact hv) λh' a' sb sz=>k v' h' s.toks sb sz λtk=>⟨xv.mono tk Pre.refl,a',tk _ _ b,c.mono tk Pre.refl⟩))
  (λ{s ρ st Q} ⟨a,b,c⟩ R _ k=>bG s.heap.objs.size (aP _) (wpAny_pyNext_tuple_end hh a b.is (by(refine dm (dS) ?_;rewrite[Cg];refine az c.length ?_);exact aP _) λh' ext sz=>k h' ext sz))
  λs ρ Q ⟨a,_⟩ hq=>wpAny_pyIter_tupleiter a hq
theorem NX(hh:A.handled=aC){I ax:ao}{a:ag}{vs:af V}(tX:ax≠I):Ee A I ⟨vs,.list a vs⟩ xs [I] [I] (λi h ρ=>h.IsListIter I ax i/\ρ[a]?=ae ax):=
 xg (λ⟨⟨o,ho,hc,hd⟩,_⟩=>⟨o,_,_,ho,hc,hd,by decide⟩) (λ⟨x,b⟩ k tk p=>⟨x.at k,p _ _ b⟩)
  (λ{i s ρ st v Q} ⟨x,b⟩ R c e k=>by
   refine lC (R.list b c) λitems n hl r=>bH (r.get e) λv' hv xv=>?_
   exact bG s.heap.objs.size (aP _) (B9 x (cQ hl) (x:=v') (by(refine dm (dS) ?_;try rfl);exact hv) λh' a' sb sz=>k v' h' s.toks sb sz λtk=>⟨xv.mono tk Pre.refl,a',b⟩))
  (λ{s ρ st Q} ⟨x,b⟩ R c k=>by
   refine lC (R.list b c) λitems n hl r=>?_
   exact bG s.heap.objs.size (aP _) (JB hh x (cQ hl) (by(refine dm (dS) ?_;rewrite[Cg];refine az r.length ?_);exact aP _) λh' ext sz=>k h' ext sz))
  λs ρ Q ⟨a,_⟩ hq=>wpAny_pyIter_listiter a hq
theorem RQ(hh:A.handled=aC){I:ao}{x:aM}{t:Tok}{ty:aA}(Qq:ty="str_ascii_iterator"\/ty="str_iterator")(self:∀(s:aq) (Q:ak->aq->Prop) i,s.heap.IsStrIter I ty x t i->Q (.ref I) s->aw (ay Wc.prog Wc.w) A (i4 (.ref I)) Q dC s):
  Ee A I ⟨x.cps.toList.map λc=>.str ⟨#[c]⟩,.none⟩ xs [I] [I] (λi h _=>h.IsStrIter I ty x t i):=
 xg (λ⟨o,ho,hc,hd⟩=>⟨o,_,_,ho,hc,hd,by rcases Qq with h|h<;>refine az h ?_<;>decide⟩) (λ⟨o,ho,r⟩ k tk p=>⟨o,k _ ho,r⟩)
  (λ{i s ρ st v Q} a R _ e k=>by
   replace e:=(gw)▸e
   refine bH (lE.mp e) λc hc z1=>?_
   subst z1
   rw[dS] at hc
   have k:=λh' a' sb sz=>k (.str ⟨#[c]⟩ s.toks) h' (s.toks+1) sb sz λ_=>⟨.str _ _,a'⟩
   rcases Qq with rfl|rfl
   ·exact bG s.heap.objs.size (aP _) (wpAny_pyNext_ascii_item a hc λh' a' sb sz=>k h' a' sb sz)
   ·exact bG s.heap.objs.size (aP _) (wpAny_pyNext_wide_item a hc λh' a' sb sz=>k h' a' sb sz))
  (λ{s ρ st Q} a R _ k=>by
   have hx:x.cps[(x.cps.toList.map λc=>V.str ⟨#[c]⟩).length]?=aC:=by simp
   rcases Qq with rfl|rfl
   ·exact bG s.heap.objs.size (aP _) (wpAny_pyNext_ascii_end hh a hx λh' ext sz=>k h' ext sz)
   ·exact bG s.heap.objs.size (aP _) (wpAny_pyNext_wide_end hh a hx λh' ext sz=>k h' ext sz))
  λs ρ Q a hq=>self s Q 0 a hq
theorem Ly(hh:A.handled=aC){I:ao}{k:ag}:Ee A I ⟨(c5 k).map λ(j:ag)=>.int j,.none⟩ xs [I] [I] (λi h _=>i<=k/\IsRangeIter h I (i:aJ) ((k:aJ)-i) 1):=
 xg (λhq=>fB hq λ_ a=>⟨_,_,_,a,ac,ac,by decide⟩) (λ⟨l,a⟩ kk tk p=>⟨l,kk _ a⟩)
  (λ{i s ρ st v Q} ⟨l,a⟩ R _ e kk=>by
   replace e:=(gw)▸e
   refine bH (lE.mp e) λc hc z2=>?_
   subst z2
   have hi:=(bq.mp hc).1
   replace hi:=lP▸hi
   replace hc:=(List.getElem?_range hi)▸hc
   replace hc:=aU hc
   subst hc
   refine bG s.heap.objs.size (aP _) (wpAny_pyNext_range_item a (by lia) λh' a' sb sz=>kk _ h' _ sb sz λ_=>⟨.int _ _,hi,?_⟩)
   exact az (show(k:aJ)-((i+1:ag):aJ)=(k:aJ)-i-1 by lia) (a'))
  (λ{s ρ st Q} ⟨l,a⟩ R _ kk=>bG s.heap.objs.size (aP _) (wpAny_pyNext_range_end hh a (by simp) λh' ext sz=>kk h' ext sz))
  λs ρ Q ⟨_,a⟩ hq=>wpAny_pyIter_rangeiter a hq
theorem RR{P:ao->Prop}{a b:ao}(x:P a)(y:P b):∀c∈[a,b],P c:=JH.mpr ⟨x,one y⟩
theorem WA{P:ao->Prop}{a b c:ao}(x:P a)(y:P b)(z:P c):∀d∈[a,b,c],P d:=JH.mpr ⟨x,RR y z⟩
theorem _root_.PySem.Heap.IsListIter.f{h:aO}{a b:ao}{i:ag}(x:h.IsListIter a b i):RP h a:=by exact jj x λo ho _ hd=>⟨o,_,ho,hd⟩
theorem _root_.PySem.Heap.IsTupleIter.f{h:aO}{a b:ao}{i:ag}(x:h.IsTupleIter a b i):RP h a:=by exact jj x λo ho _ hd=>⟨o,_,ho,hd⟩
theorem RP.live{h:aO}{b:ao}(f:RP h b):∃o,h.get? b=ae o/\((∃vs,o.data=.fields vs)\/∃vs n,o.data=.seq vs n):=by exact lC f λo vs ho hd=>⟨o,ho,.inl ⟨vs,hd⟩⟩
@[elab_as_elim]theorem TT.kB{x y:aA}{fe:aK}{C:aK->Prop}(t:TT [x,y] fe)(k:∀l n p,C (.Tuple l n p)):C fe:=by
 cases t with
 |two=>exact k _ _ _
@[elab_as_elim]theorem WB{vs:af V}{f:V×ag->V}{i:ag}{v:V}{C:V->Prop}(e:(vs.zipIdx.map f)[i]?=ae v)(k:∀q,vs[i]?=ae q->C (f (q,i))):C v:=by
 replace e:=(gw)▸e;replace e:=(List.getElem?_zipIdx)▸e;cases h:vs[i]? with
 |none=>replace e:=h▸e;exact eP e
 |some q=>rw[h,rq] at e;exact aU e▸k q h
inductive ZB(e yL ax:ao)(a i:ag)(h:aO)(ρ:af ao):Prop
 |mk {old} (u:IsEnum h e yL i old) (x:h.IsListIter yL ax i) (b:ρ[a]?=ae ax)
theorem ZB.fs{e yL ax:ao}{a i:ag}{h:aO}{ρ:af ao}(x:ZB e yL ax a i h ρ):∀b∈[e,yL],RP h b:=by
 induction x with
 |mk u x b=>exact RR ⟨_,_,u,ac⟩ x.f
theorem NY(hh:A.handled=aC){e yL ax:ao}{a:ag}{vs:af V}{x y:aA}(tX:e≠yL):Ee A e ⟨vs.zipIdx.map λp=>.tup [.int p.2,p.1],.list a vs⟩ [x,y] [e,yL] [e,yL] (ZB e yL ax a) where
 frame:=λi h ρ h' dP a k tk p=>by
  induction a with
  |mk u x b=>exact⟨k e (.head _) _ u,x.at λo e=>k yL (.tail _ (.head _)) o e,p _ _ b⟩
 live:=λi h ρ a b hb=>(a.fs b hb).live
 Y5:=λi h ρ a b hb=>⟨hb,a.fs b hb⟩
 item:=λi s ρ st v fe a R c ev off hz tt=>by
  have fs:=a.fs
  induction a with
  |mk u x' b=>
   refine lC (R.list b c) λitems k hl r=>WB ev λq hq=>bH (r.get hq) λv' hv xv=>TT.kB tt λel n ps=>bG s.heap.objs.size (aP _) (wpAny_pyNext_enum_item u x' (cQ hl) (x:=v') (by refine dm (dS) ?_;exact hv) tX λh' a1 a2 a3 a4 a5 sz=>⟨_,ac,?_⟩)
   have g:=kC [e,yL] R off hz fs (h':=h') (λb o hb x=>a5 b o (λq=>hb (q▸.head _)) (λq=>hb (q▸.tail _ (.head _))) x) sz (s.toks+1)
   refine wpAny_letOwnedTupleGo_enum a1 λZb b1 sb=>?_
   have g2:=kC (s:={s with heap:=h',toks:=s.toks+1}) [e] g.1.rel (one (off e (.head _))) (one (hz e (.head _))) (one ⟨_,_,a1,ac⟩) (h':=Zb) (λb o hb x=>sb.extBut b o (λq=>hb (q▸.head _)) x) (by refine az sb.1 ?_;exact aP _) (s.toks+1)
   exact⟨g.1.trans (g2.1.weak λb hb=>bX.mp hb▸.head _),.tup ⟨λhm=>bS _ (R.lt hm),0,sb.extBut _ _ (bZ (cB u)) a3⟩ (.cons (.int _ _) (.cons ((xv.mono g.2 Pre.refl).mono g2.2 Pre.refl) .nil)),b1,a2.extBut sb.extBut tX.symm,b⟩
 done:=λs ρ st a R c off hz=>by
  have fs:=a.fs
  have hlen:(vs.zipIdx.map λp=>V.tup [.int p.2,p.1]).length=vs.length:=by(rewrite[be];exact List.length_zipIdx)
  replace a:=hlen▸a
  induction a with
  |mk u x' b=>
   exact lC (R.list b c) λitems k hl r=>bG s.heap.objs.size (aP _) (wpAny_pyNext_enum_end hh u x' (cQ hl) (by(refine dm (dS) ?_;rewrite[Cg];refine az r.length ?_);exact aP _) λh' ext sz=>⟨ac,(kC [e,yL] R off hz fs (λb o hb x=>ext b o (λq=>hb (q▸.tail _ (.head _))) x) sz s.toks).1⟩)
 self:=λs ρ Q a hq=>by
  induction a with
  |mk u x b=>exact wpAny_pyIter_enum u hq
end
section
variable{A:aW}{E:ak->aq->Prop}{s:aq}
theorem ET{it t:ao}{i:ag}{items:bj ak}{Q:ak->aq->Prop}(hh:A.handled=aC)(hit:s.heap.IsTupleIter it t i)(ht:s.heap.IsTuple t items)(hQ:∀x h',items[i]?=ae x->h'.IsTupleIter it t (i+1)->dH it s.heap h'->Q x {s with heap:=h'})(hE:∀h' e,items[i]?=aC->ub it s.heap h'->(∃o,h'.get? e=ae o/\o.cls=.type "StopIteration")->E (.ref e) {s with heap:=h'}):aw (ay Wc.prog Wc.w) A (RS (.ref it)) Q E s:=by
 have⟨o,ho,hc,hd⟩:=hit;have⟨ol,hol,_,nl,on⟩:=ht;unfold RS;refine au (lM (name:=aB "__next__") hit.typeIs RT (gx RT hit.typeIs F.entry_tuple_iterator_next ?_ (F.args_tuple_iterator_next_1 _)));refine(?_:aw _ _ (field (.ref it) 0>>=_) _ _ s);refine au (jU ho hd (x:=.ref t) ac ?_);refine au (jU ho hd (x:=.int i 0) ac ?_);refine au (jM hol on ?_);dsimp only[vq];cases hx:items[i]? with
 |some x=>exact au (xh ho hd (aP _) (aD ⟨x,ac,aD (hQ _ _ hx ⟨_,gG _ ho (RU (Ci hd _)),(RV ..).trans hc,by rw[Ci hd];rfl⟩ (dF ..))⟩))
 |none=>
  refine au (fN (au (xh ho hd (by exact lB ac)<|wpAny_bind ?_)));simp only[rt,Cj];refine au (nf (au (m:=Ck _ _) (rn (a:=fR) (by first|rfl|(simp only[firstArgMember];rfl))<|wpAny_newObj_type ?_ (by size_fits))) (by size_fits));dsimp only[ru];refine au (Cn ?_);first|refine az (hh) ?_|rw[hh]
  exact au (aD (Co<|hE _ _ hx (((dF ..).extBut.push _).push _) ⟨_,cT _ ac,ac⟩))
structure Zp(h:aO)(z TI TO i1 i2 t1 t2:ao)(k:ag)(xs ys:bj ak)(f0:ak):Prop where
 z:lQ h z TI TO f0
 ti:i7 h TI (.ref i1) (.ref i2)
 to:∃a b,i7 h TO a b
 a1:h.IsTupleIter i1 t1 k
 a2:h.IsTupleIter i2 t2 k
 l1:h.IsTuple t1 xs
 l2:h.IsTuple t2 ys
structure Ap(z TI TO i1 i2 t1 t2:ao):Prop where
 n1:TI≠z
 n2:TO≠z
 n3:i1≠z
 n4:i2≠z
 n5:TI≠TO
 n6:TI≠i1
 n7:TI≠i2
 n8:TO≠i1
 n9:TO≠i2
 n10:i1≠i2
 n11:t1≠z
 n12:t1≠TO
 n13:t1≠i1
 n14:t1≠i2
 n15:t2≠z
 n16:t2≠TO
 n17:t2≠i1
 n18:t2≠i2
theorem JI{g g':aO}{e z:ao}{TI TO:ao}{v:ak}(he:∃o,g.get? e=ae o/\o.cls=.type "StopIteration")(hz:lQ g z TI TO v)(sb:dH z g g'):∃o,g'.get? e=ae o/\o.cls=.type "StopIteration":=by refine bH he λoe Zc hce=>⟨oe,sb.extBut _ _ (λq=>?_) Zc,hce⟩;rw[q,hz] at Zc;replace Zc:=aU Zc;subst Zc;exact aV (Value.type.inj hce) (by decide)
theorem JJ{z TI TO i1 i2 t1 t2:ao}{k:ag}{xs ys:bj ak}{Q:aS ak->aq->Prop}(hh:A.handled=aC)(D:Ap z TI TO i1 i2 t1 t2)(p:Zp s.heap z TI TO i1 i2 t1 t2 k xs ys .none)(hQ:∀x y h',xs[k]?=ae x->ys[k]?=ae y->lQ h' z TI TO (ew s.heap.objs.size)->(∃a b,i7 h' TO a b)->h'.IsTupleIter i1 t1 (k+1)->h'.IsTupleIter i2 t2 (k+1)->i7 h' s.heap.objs.size x y->(∀c o,c≠z->c≠TO->c≠i1->c≠i2->s.heap.get? c=ae o->h'.get? c=ae o)->Q (ae (.ref s.heap.objs.size)) {s with heap:=h'})(hE:∀h',xs[k]?=aC\/ys[k]?=aC->(∀c o,c≠z->c≠TO->c≠i1->c≠i2->s.heap.get? c=ae o->h'.get? c=ae o)->(∃a b,i7 h' TO a b)->Q aC {s with heap:=h'}):aw (ay Wc.prog Wc.w) A (eE (.ref z)) Q E s:=by
 obtain⟨hz,hTI,⟨a,b,Zd⟩,h1,h2,l1,l2⟩:=p;have hT:s.TypeIs (.ref z) "zip":=⟨_,hz,ac⟩;have last:∀(h':aO)(e:ao),(xs[k]?=aC\/ys[k]?=aC)->(∃o,h'.get? e=ae o/\o.cls=.type "StopIteration")->(∀c o,c≠z->c≠TO->c≠i1->c≠i2->s.heap.get? c=ae o->h'.get? c=ae o)->(∃a b,i7 h' TO a b)->
   aw (ay Wc.prog Wc.w) A (do if<-ul (.ref e) (.type "StopIteration") then bB aC else um (.ref e)) Q E {s with heap:=h'}:=λh' e q he kp tp=>by
  exact bH he λo ho hc=>au (o7 (T:="StopIteration") (b:=aj) ⟨o,ho,hc⟩ Cq (aD (hE _ q kp tp)))
 unfold eE;refine au (uo (lM (name:=aB "__next__") hT F.slot_zip_next (gx F.slot_zip_next hT F.entry_zip_next ?_ (F.args_zip_next_1 _))));refine(?_:aw _ _ (field (.ref z) 2>>=_) _ _ _);refine au (jU hz ac (x:=.bool aQ) ac ?_);refine au (jU hz ac (x:=.ref TI) ac ?_);refine au (jM hTI ac ?_);refine au ?_;unfold pc;refine au (jU hz ac (x:=.none) ac (aD<|az (aF ac)<|wpAny_bind (fN<|wpAny_bind (jU hz ac (x:=.ref TO) ac<|wpAny_bind (gI hz (by exact lB ac) λg1 z1 s1=>?_)))));replace z1:lQ g1 z TI TO .ellipsis:=z1;refine au ?_;simp -iota only[JK,List.zipIdx_nil,o4,RW];refine au (au (wpAny_onRaise<|wpAny_bind (ET hh (h1.extBut s1.extBut D.n3) (l1.extBut s1.extBut D.n11) (λx g2 hx a2 s2=>aD ?_) λg2 e hx e2 he=>?_)))
 ·have to2:i7 g2 TO a b:=s2.extBut _ _ D.n8 (s1.extBut _ _ D.n2 Zd);refine au (jM to2 ac<|wpAny_bind (RX to2 λg3 to3 s3=>?_));replace to3:i7 g3 TO x b:=to3;refine au (xi (aD<|wpAny_bind (au (wpAny_onRaise<|wpAny_bind (ET hh (((h2.extBut s1.extBut D.n4).extBut s2.extBut D.n10.symm).extBut s3.extBut D.n9.symm) (((l2.extBut s1.extBut D.n15).extBut s2.extBut D.n17).extBut s3.extBut D.n16) (λy g4 hy a4 s4=>aD ?_) λg4 e hy e4 he=>?_)))))
  ·have to4:i7 g4 TO x b:=s4.extBut _ _ D.n9 to3;refine au (jM to4 ac<|wpAny_bind (RX to4 λg5 pi s5=>?_));replace pi:i7 g5 TO x y:=pi;refine au (xi (aD (aD<|wpAny_bind (jM pi ac<|wpAny_bind (Cr ?_)))));have z5:lQ g5 z TI TO .ellipsis:=s5.extBut _ _ D.n2.symm (s4.extBut _ _ D.n4.symm (s3.extBut _ _ D.n2.symm (s2.extBut _ _ D.n3.symm z1)));have zlt:g5.objs.size≠z:=bZ (cB z5);refine au ?_;unfold re;have z6:lQ (g5.push {cls:=.type "tuple",data:=.seq #[x,y]}) z TI TO .ellipsis:=bW _ z5;refine au (gI z6 (by exact lB ac) λg7 z7 s7=>?_);replace z7:lQ g7 z TI TO (ew g5.objs.size):=z7;refine gI z7 (by exact lB ac) λg8 z8 s8=>?_;have up:∀c o,c≠z->g5.get? c=ae o->g8.get? c=ae o:=λc o c1 e=>s8.extBut _ _ c1 (s7.extBut _ _ c1 (bW _ e));refine aD ⟨_,ac,aD ?_⟩;have q:=hQ x y g8 hx hy;rw[<-(s5.1.trans (s4.1.trans (s3.1.trans (s2.1.trans s1.1))))] at q;exact q z8 ⟨x,y,up _ _ D.n2 pi⟩ ((((a2.extBut s3.extBut D.n8.symm).extBut s4.extBut D.n10).extBut s5.extBut D.n8.symm).at λo e=>up _ o D.n3 e) ((a4.extBut s5.extBut D.n9.symm).at λo e=>up _ o D.n4 e) (s8.extBut _ _ zlt (s7.extBut _ _ zlt (cT _ ac))) λc o c1 c2 c3 c4 e=>
    up c o c1 (s5.extBut _ _ c2 (s4.extBut _ _ c4 (s3.extBut _ _ c2 (s2.extBut _ _ c3 (s1.extBut _ _ c1 e)))))
  ·have z4:lQ g4 z TI TO .ellipsis:=e4 _ _ D.n4.symm (s3.extBut _ _ D.n2.symm (s2.extBut _ _ D.n3.symm z1));refine gI z4 (by exact lB ac) λg5 _ s5=>last g5 e (.inr hy) (JI he z4 s5) (λc o c1 c2 c3 c4 x=>s5.extBut _ _ c1 (e4 _ _ c4 (s3.extBut _ _ c2 (s2.extBut _ _ c3 (s1.extBut _ _ c1 x))))) ⟨_,_,s5.extBut _ _ D.n2 (e4 _ _ D.n9 to3)⟩
 ·have z2:lQ g2 z TI TO .ellipsis:=e2 _ _ D.n3.symm z1;refine gI z2 (by exact lB ac) λg3 _ s3=>last g3 e (.inl hx) (JI he z2 s3) (λc o c1 _ c3 _ x=>s3.extBut _ _ c1 (e2 _ _ c3 (s1.extBut _ _ c1 x))) ⟨a,b,s3.extBut _ _ D.n2 (e2 _ _ D.n8 (s1.extBut _ _ D.n2 Zd))⟩
end
noncomputable abbrev sn(h:aO)(l1:ao):aO:=h.push {cls:=.type "tuple_iterator",data:=.fields #[.ref l1,.int 0 0]}
noncomputable abbrev sw(h:aO)(l1 l2:ao):aO:=(sn h l1).push {cls:=.type "tuple_iterator",data:=.fields #[.ref l2,.int 0 0]}
noncomputable abbrev sB(h:aO)(l1 l2:ao):aO:=(sw h l1 l2).push {cls:=.type "tuple",data:=.seq #[.ref h.objs.size,.ref (sn h l1).objs.size]}
noncomputable abbrev sK(h:aO)(l1 l2:ao):aO:=(sB h l1 l2).push {cls:=.type "tuple",data:=.seq #[.none,.none]}
noncomputable abbrev WC(h:aO)(l1 l2:ao):aO:=(sK h l1 l2).push {cls:=.type "zip",data:=.fields #[.none,.bool aQ,.bool aQ,.ref (sw h l1 l2).objs.size,.ref (sB h l1 l2).objs.size]}
theorem zQ(l1 l2:ao)(xs ys:bj ak):Meets (Builtin.«zip.__new__» ⟨[.type "zip",.ref l1,.ref l2],[]⟩) (λ_ R s=>s.heap.IsTuple l1 xs/\s.heap.IsTuple l2 ys/\R (.ok (.ret (.ref (sK s.heap l1 l2).objs.size))) {s with heap:=WC s.heap l1 l2}):=.of_wp λprog w A R s h=>by obtain⟨hp,g,d,tk,os⟩:=s;refine qg h λJL Gy h=>?_;have Ze:=sub_zip;have hL2:Heap.IsTuple (Shared.heap ⟨hp.push {cls:=.type "tuple_iterator",data:=.fields #[.ref l1,.int 0 0]},g,d,tk,os⟩) l2 ys:=Heap.IsTuple.push Gy _;wp_walk using RY JL,RY hL2;exact⟨_,ac,h⟩
section
variable{A:aW}{E:ak->aq->Prop}{s:aq}
theorem Cs{l1 l2:ao}{xs ys:bj ak}{Q:ak->aq->Prop}(JL:s.heap.IsTuple l1 xs)(Gy:s.heap.IsTuple l2 ys)(h:∀h',Zp h' (s.heap.objs.size+4) (s.heap.objs.size+2) (s.heap.objs.size+3) s.heap.objs.size (s.heap.objs.size+1) l1 l2 0 xs ys .none->h'.objs.size=s.heap.objs.size+5->(∀c o,s.heap.get? c=ae o->h'.get? c=ae o)->i7 h' (s.heap.objs.size+3) .none .none->Q (.ref (s.heap.objs.size+4)) {s with heap:=h'}):aw (ay Wc.prog Wc.w) A (cf (.type "zip") [.ref l1,.ref l2]) Q E s:=by
 refine callType_new F.called_zip (by decide) (F.typeCall_zip_2 _ _) (F.newCall_zip_2 _ _) (λobj=>F.args_object_init_3 obj _ _) F.entry_zip_new (zQ l1 l2 xs ys) ⟨JL,Gy,?_⟩;have z1:(sn s.heap l1).objs.size=s.heap.objs.size+1:=eW ..;have z2:(sw s.heap l1 l2).objs.size=s.heap.objs.size+2:=by(rewrite[eW];refine az z1 ?_;rfl)
 have z3:(sB s.heap l1 l2).objs.size=s.heap.objs.size+3:=by(rewrite[eW];refine az z2 ?_;rfl)
 have z4:(sK s.heap l1 l2).objs.size=s.heap.objs.size+4:=by(rewrite[eW];refine az z3 ?_;rfl)
 have z5:(WC s.heap l1 l2).objs.size=s.heap.objs.size+5:=by(rewrite[eW];refine az z4 ?_;rfl)
 have g5:(WC s.heap l1 l2).get? (sK s.heap l1 l2).objs.size=ae _:=cT _ ac;have g4:(WC s.heap l1 l2).get? (sB s.heap l1 l2).objs.size=ae _:=bW _ (cT _ ac);have g3:(WC s.heap l1 l2).get? (sw s.heap l1 l2).objs.size=ae _:=bW _ (bW _ (cT _ ac));have g2:(WC s.heap l1 l2).get? (sn s.heap l1).objs.size=ae _:=bW _ (bW _ (bW _ (cT _ ac)));rw[z2,z3,z4] at g5;rw[z1,z2] at g3;rw[z3] at g4;rw[z1] at g2;refine az z4 ?_;have kp:∀c o,s.heap.get? c=ae o->(WC s.heap l1 l2).get? c=ae o:=λc o x=>bW _ (bW _ (bW _ (bW _ (bW _ x))));exact⟨⟨_,g5,ac⟩,h _ ⟨g5,g3,⟨_,_,g4⟩,⟨_,(bW _ (bW _ (bW _ (bW _ (cT _ ac))))),ac,ac⟩,⟨_,g2,ac,ac⟩,JL.at λo=>kp _ o,Gy.at λo=>kp _ o⟩ z5 kp g4⟩
end
section
variable{n:ag}{A:aW}{it:eA}
inductive aaa(h:aO)(ρ:af ao)(z TO i1 i2:ao)(j:ag)(st:af O):Prop
 |mk(hj:ρ[j]?=ae TO)(oM:st[j]?=ae .iU)(off:∀b∈[z,i1,i2],b∉ρ)(hz:∀b∈[z,i1,i2],Wc.h₀.objs.size<=b)(f:∀b∈[z,i1,i2],RP h b)
noncomputable def But(z TO i1 i2:ao)(h h':aO):Prop:=∀c o,c≠z->c≠TO->c≠i1->c≠i2->h.get? c=ae o->h'.get? c=ae o
theorem But.of{z TO i1 i2:ao}{h h':aO}(k:But z TO i1 i2 h h'){c:ao}{o:cM}(n:c∉[z,i1,i2])(nt:c≠TO)(e:h.get? c=ae o):h'.get? c=ae o:=
 k c o (λq=>n (q▸.head _)) nt (λq=>n (q▸.tail _ (.head _))) (λq=>n (q▸.tail _ (.tail _ (.head _)))) e
theorem EU{α:Type}{x y:aS α}{a b:α}{P:Prop}(q:x=aC\/y=aC)(hx:x=ae a)(hy:y=ae b):P:=by rcases q with q|q<;>simp_all
theorem EV{s:aq}{ρ:af ao}{st:af O}{h':aO}{z TO i1 i2:ao}{j:ag}(R:Rel s.heap ρ st)(a:aaa s.heap ρ z TO i1 i2 j st)(kp:But z TO i1 i2 s.heap h')(to:∃a b,i7 h' TO a b)(sz:s.heap.objs.size<=h'.objs.size):Good (·∈[z,i1,i2]) s ρ st {s with heap:=h'} ρ/\dc s.heap ρ h' ρ:=by
 induction a with
 |mk hj oM off hz f=>
  have Zd:TO∈ρ:=cw hj;have NW:dc s.heap ρ h' ρ:=λb items t=>⟨t.1,t.2.imp λk e=>kp.of (λhb=>AB (f b hb) items t) (λq=>t.1 (q▸Zd)) e⟩;have base:∀b o,Wc.h₀.get? b=ae o->h'.get? b=ae o:=λb o e=>
   kp.of (λq=>bS _ (lR (cB e) (hz b q))) (λq=>bS _ (lR (cB e) (q▸(R.new j _ hj (λq=>aV (R.zero.2.1 _ (q▸oM)) (by decide)))))) (R.base b o e)
  have at_:∀i o,st[i]?=ae o->∃a ob,ρ[i]?=ae a/\h'.get? a=ae ob/\OR h' ρ ob o:=λi o e=>by
   refine kS (R.at_ i o e) λa ob e1 e2 e3=>?_;by_cases ha:a=TO
   ·have u0:i=j:=(o9 (bq.mp e1).1 R.once).mp (e1.trans (ha▸hj.symm));rw[u0,oM] at e;replace e:=aU e;subst e;exact sE to λx y p=>⟨a,_,e1,ha▸p,.iU⟩
   ·exact⟨a,ob,e1,kp.of (λq=>off a q (cw e1)) ha e2,e3.mono NW Pre.refl⟩
  exact⟨⟨⟨R.len,R.once,R.new,R.zero,base,lT R.size sz,at_⟩,⟨Pre.refl,λi a e l=>aV (bq.mp e).1 (nh.mpr l),sz,λb o e nb nx=>kp.of nx (λq=>nb (q▸Zd)) e⟩,ac,ac⟩,NW⟩
theorem Rel.iU{s:aq}{ρ:af ao}{st:af O}{TO:ao}{j:ag}(R:Rel s.heap ρ st)(hj:ρ[j]?=ae TO)(oM:st[j]?=ae .iU):∃a b,i7 s.heap TO a b:=by refine kS (R.at_ j _ oM) λa ob e1 e2 e3=>?_;replace e1:=hj▸e1;(replace e1:=aU e1;subst e1);cases e3;exact⟨_,_,e2⟩
inductive Vc(z TI TO i1 i2 t1 t2:ao)(j:ag)(xs ys:bj ak)(vs ws:af V)(k:ag)(h:aO)(ρ:af ao):Prop
 |mk(a1:lQ h z TI TO .none)(a2:i7 h TI (.ref i1) (.ref i2))(a3:h.IsTupleIter i1 t1 k)(a4:h.IsTupleIter i2 t2 k)(a5:Tp h ρ t1 xs)(a6:Tp h ρ t2 ys)(a7:eB h ρ xs.toList vs)(a8:eB h ρ ys.toList ws)(a9:ρ[j]?=ae TO)
@[elab_as_elim]theorem WD{vs ws:af V}{f:V×V->V}{i:ag}{v:V}{C:V->Prop}(e:((vs.zip ws).map f)[i]?=ae v)(k:∀p q,vs[i]?=ae p->ws[i]?=ae q->C (f (p,q))):C v:=by
 replace e:=(gw)▸e;cases h:(vs.zip ws)[i]? with
 |none=>replace e:=h▸e;exact eP e
 |some p=>replace e:=h▸e;exact aU e▸k p.1 p.2 (JM.mp h).1 (JM.mp h).2
theorem RZ{vs ws:af V}{f:V×V->V}{xs ys:bj ak}(e1:xs.size=vs.length)(e2:ys.size=ws.length):xs[((vs.zip ws).map f).length]?=aC\/ys[((vs.zip ws).map f).length]?=aC:=by
 rewrite[be];refine az R0 ?_;rcases Nat.le_total vs.length ws.length with h|h
 ·exact .inl (by refine az (Nat.min_eq_left h) ?_;exact EW (bJ e1))
 ·exact .inr (by refine az (Nat.min_eq_right h) ?_;exact EW (bJ e2))
section
variable{z TI TO i1 i2 t1 t2:ao}{j k:ag}{xs ys:bj ak}{vs ws:af V}{h h':aO}{ρ dP:af ao}
theorem NZ{P:ao->Prop}(off:∀b∈[z,TI,i1,i2],P b):∀b∈[z,i1,i2],P b:=WA (off z (.head _)) (off i1 (.tail _ (.tail _ (.head _)))) (off i2 (.tail _ (.tail _ (.tail _ (.head _)))))
theorem Vc.fs(x:Vc z TI TO i1 i2 t1 t2 j xs ys vs ws k h ρ):∀b∈[z,i1,i2],RP h b:=by
 induction x with
 |mk a1 a2 a3 a4=>exact WA ⟨_,_,a1,ac⟩ a3.f a4.f
theorem Vc.frame(x:Vc z TI TO i1 i2 t1 t2 j xs ys vs ws k h ρ)(kp:∀b∈[z,TI,i1,i2],∀o,h.get? b=ae o->h'.get? b=ae o)(tk:dc h ρ h' dP)(p:Pre ρ dP):Vc z TI TO i1 i2 t1 t2 j xs ys vs ws k h' dP:=by
 have k2:=kp i2 (.tail _ (.tail _ (.tail _ (.head _))));induction x with
 |mk a1 a2 a3 a4 a5 a6 a7 a8 a9=>exact⟨kp z (.head _) _ a1,kp TI (.tail _ (.head _)) _ a2,a3.at (kp i1 (.tail _ (.tail _ (.head _)))),a4.at k2,tk _ _ a5,tk _ _ a6,a7.mono tk p,a8.mono tk p,p _ _ a9⟩
theorem Vc.live(x:Vc z TI TO i1 i2 t1 t2 j xs ys vs ws k h ρ):∀b∈[z,TI,i1,i2],∃o,h.get? b=ae o/\((∃vs,o.data=.fields vs)\/∃vs n,o.data=.seq vs n):=by
 have fs:=x.fs;induction x with
 |mk a1 a2=>exact JH.mpr ⟨(fs z (.head _)).live,WA ⟨_,a2,.inr ⟨_,_,ac⟩⟩ (fs i1 (.tail _ (.head _))).live (fs i2 (.tail _ (.tail _ (.head _)))).live⟩
end
theorem R4(hh:A.handled=aC){z TI TO i1 i2 t1 t2:ao}{j:ag}{xs ys:bj ak}{vs ws:af V}{x y:aA}(D:Ap z TI TO i1 i2 t1 t2):
  Ee A z ⟨(vs.zip ws).map λp=>.tup [p.1,p.2],.iU j⟩ [x,y] [z,TI,i1,i2] [z,i1,i2] (Vc z TI TO i1 i2 t1 t2 j xs ys vs ws) where
 frame:=λk h ρ h' dP a kp tk p=>a.frame kp tk p
 live:=λk h ρ a=>a.live
 Y5:=λk h ρ a b hb=>⟨NZ (P:=(·∈[z,TI,i1,i2])) (λ_ h=>h) b hb,a.fs b hb⟩
 item:=λk s ρ st v fe a R c ev off hz tt=>by
  have c:st[j]?=ae .iU:=c
  have fs:=a.fs
  induction a with
  |mk a1 a2 a3 a4 a5 a6 a7 a8 a9=>
   refine WD ev λp q hp1 R7=>bH (a7.get hp1) λv1 u8 xv1=>bH (a8.get R7) λv2 v4 xv2=>TT.kB tt λel n ps=>?_
   have u8:=(dS ..).symm.trans u8
   have v4:=(dS ..).symm.trans v4
   refine bG s.heap.objs.size (aP _) (JJ hh D ⟨a1,a2,Rel.iU R a9 c,a3,a4,a5.is,a6.is⟩ (λx y h' hx hy b1 b2 b3 b4 b5 kp sz=>⟨_,ac,?_⟩) λ_ q=>EU q u8 v4)
   have xv2:=aU (v4.symm.trans hy)▸xv2
   have g:=EV R ⟨a9,c,NZ off,NZ hz,fs⟩ kp b2 sz
   refine wpAny_letOwnedTupleGo_zip b1 λZb c1 sb=>?_
   have g2:=kC (s:={s with heap:=h'}) [z] g.1.rel (one (off z (.head _))) (one (hz z (.head _))) (one ⟨_,_,b1,ac⟩) (h':=Zb) (λb o hb e=>sb.extBut b o (λq=>hb (q▸.head _)) e) (by refine az sb.1 ?_;exact aP _) s.toks
   have Yd:dc s.heap ρ Zb ρ:=λb i t=>g2.2 b i (g.2 b i t)
   exact⟨g.1.trans (g2.1.weak λb hb=>bX.mp hb▸.head _),.tup ⟨λhm=>bS _ (R.lt hm),0,sb.extBut _ _ (bZ (cB a1)) b5⟩ (.cons ((aU (u8.symm.trans hx)▸xv1).mono Yd Pre.refl) (.cons (xv2.mono Yd Pre.refl) .nil)),
    c1,sb.extBut _ _ D.n1 (kp _ _ D.n1 D.n5 D.n6 D.n7 a2),b3.extBut sb.extBut D.n3,b4.extBut sb.extBut D.n4,Yd _ _ a5,Yd _ _ a6,a7.mono Yd Pre.refl,a8.mono Yd Pre.refl,a9⟩
 done:=λs ρ st a R c off hz=>by
  have c:st[j]?=ae .iU:=c
  have fs:=a.fs
  induction a with
  |mk a1 a2 a3 a4 a5 a6 a7 a8 a9=>
   exact bG s.heap.objs.size (aP _) (JJ hh D ⟨a1,a2,Rel.iU R a9 c,a3,a4,a5.is,a6.is⟩ (λx y h' hx hy=>EU (RZ (f:=λp=>.tup [p.1,p.2]) a7.size a8.size) hx hy) λh' _ kp to sz=>⟨ac,(EV R ⟨a9,c,NZ off,NZ hz,fs⟩ kp to sz).1⟩)
 self:=λs ρ Q a hq=>by
  induction a with
  |mk a1=>exact wpAny_pyIter_zip a1 hq
end
section
variable{n:ag}{A:aW}{s:aq}{ρ:af ao}{st st':af O}{env:bD}{sc:aX}{m:Env}
theorem EX(ok:Wc.Ok){f:aA}{v:ak}(h:(f,v)∈kI):Wc.gv f=ae v:=ok.im _ h
theorem N0(ok:Wc.Ok){f:aA}{T:aA}{es:af aK}{ps:af PE}{fp pos:bu}{Q:ak->aq->Prop}(hb:(f,kM T)∈kI)(g:sr sc f)(t:Gw sc es ps)(R:Rel s.heap ρ st)(N:cD s.heap ρ env sc m)
  (h:aw (ay Wc.prog Wc.w) A (w9 (lO pos (iX es env))) (λvs cW=>(∀b o,Wc.h₀.get? b=ae o->cW.heap.get? b=ae o)/\aw (ay Wc.prog Wc.w) A (cf (.type T) vs) Q dC cW) dC s):
  aw (ay Wc.prog Wc.w) A (bw (.Call (.Name (aB f) fp) es [] pos) env) Q dC s:=
 q9 (jA ok R N g (EX ok hb) (eo fP t h))
theorem EY(IH:b7 n){e:aK}{p:PE}{pos:bu}(t:TE sc e p)(ns:noStar e=aj)(rm:dO n A)(R:Rel s.heap ρ st)(N:cD s.heap ρ env sc m){v:V}{d4:af O}(e1:(run Wc.G n).ev p m st=ae (v,d4)){Q:af ak->aq->Prop}(h:∀v' s1 d0,Good mA s ρ d4 s1 d0->VR s1.heap d0 v' v->Q [v'] s1):aw (ay Wc.prog Wc.w) A (w9 (lO pos (iX [e] env))) Q dC s:=by exact Ju (IH.go t rm R N e1 λv' s1 d0 g1 x1=>xc (h v' s1 d0 g1 x1))<|El ns
theorem R8(IH:b7 n){a b:aK}{p q:PE}{pos:bu}(t:TE sc a p)(ns:noStar a=aj)(t2:TE sc b q)(ns2:noStar b=aj)(rm:dO n A)(R:Rel s.heap ρ st)(N:cD s.heap ρ env sc m){v w:V}{d4 nT:af O}(e1:(run Wc.G n).ev p m st=ae (v,d4))(e2:(run Wc.G n).ev q m d4=ae (w,nT)){Q:af ak->aq->Prop}(h:∀v' w' s1 d0,Good mA s ρ nT s1 d0->VR s1.heap d0 v' v->VR s1.heap d0 w' w->Q [v',w'] s1):aw (ay Wc.prog Wc.w) A (w9 (lO pos (iX [a,b] env))) Q dC s:=by
 refine Ju (IH.go t rm R N e1 λv' s1 d0 g1 x1=>?_) ?_
 ·exact EY IH t2 ns2 rm g1.rel (N.go R g1) e2 λw' s2 lu g2 x2=>h v' w' s2 lu (g1.trans g2) (x1.go g1.rel g2) x2
 ·exact El ns
theorem N8{p:PE}:∀{xs:af aA},oi (.nW p) xs=aj->∃x y,xs=[x,y]
 |[x,y],_=>⟨x,y,ac⟩
 |[],h=>ff h
 |[_],h=>ff h
 |_::_::_::_,h=>ff h
theorem R9{p q:PE}:∀{xs:af aA},oi (.zip p q) xs=aj->∃x y,xs=[x,y]
 |[x,y],_=>⟨x,y,ac⟩
 |[],h=>ff h
 |[_],h=>ff h
 |_::_::_::_,h=>ff h
theorem lx(k i j:ag)(h:i≠j):(k+i:ag)≠k+j:=λq=>h (Nat.add_left_cancel q)
theorem Vd{P:ao->Prop}{N:ag}(h:∀k,k≠3->P (N+k)):∀b∈[N+4,N+2,N,N+1],P b:=λb q=>(ci.mp q).elim (λe=>e▸h 4 (by decide)) λq=>(ci.mp q).elim (λe=>e▸h 2 (by decide)) λq=>(ci.mp q).elim (λe=>e▸h 0 (by decide)) λq=>(bX.mp q)▸h 1 (by decide)
theorem four{P:ao->Prop}{N:ag}(h:∀k,P (N+k)):∀b∈[N+4,N+2,N,N+1],P b:=Vd λk _=>h k
theorem vr(ok:Wc.Ok)(IH:b7 n):ly n:=by
 intro sc e src t A s ρ st env m it st' xs ot rm R N ei;have hh:=rm.handled;induction t with
 |seq te _=>
  refine ba ei λv d4 e1 f1=>IH.go te rm R N e1 λv' s1 d0 g1 x1=>?_;have fr:=one g1.qf.size;have off:∀b∈[s1.heap.objs.size],b∉d0:=one λhm=>bS _ (g1.rel.lt hm);have here:∀{a:ao}{o:cM},s1.heap.get? a=ae o->a≠s1.heap.objs.size:=λe q=>bS _ (q▸cB e);refine mB x1 (f1) (λa items vs t r f1=>?_) λf1=>ou x1 f1 (λx t f1=>?_) λf1=>fw g1.rel x1 f1 λi a items k vs p l hd r f1=>?_
  ·refine bo f1<|wpAny_pyIter_tuple t.is ?_;have gp:=ig g1.rel {cls:=.type "tuple_iterator",data:=.fields #[.ref a,.int 0 0]} s1.toks;exact⟨_,_,_,_,d0,ac,Lv hh (eh (t.ex) λ_ e=>here e),g1.trans gp,⟨⟨_,cT _ ac,ac,ac⟩,gp.lJ g1.rel _ _ t,r.go g1.rel gp⟩,fr,off⟩
  ·refine bo f1<|wpAny_pyIter_strU ?_;have gp:=ig g1.rel {cls:=.type (xj x),data:=.fields #[.str x t,.int 0 0]} s1.toks;have Qq:xj x="str_ascii_iterator"\/xj x="str_iterator":=by unfold xj;split<;>simp
   exact⟨_,_,_,_,d0,ac,RQ (x:=x) (t:=t) (ty:=xj x) hh Qq λs Q i hi hq=>Qq.elim (λh=>wpAny_pyIter_striter_ascii (h▸hi) hq) λh=>wpAny_pyIter_striter_wide (h▸hi) hq,
    g1.trans gp,⟨_,cT _ ac,ac,ac⟩,fr,off⟩
  ·refine bo f1<|wpAny_pyIter_list (cQ hd) ?_;have gp:=ig g1.rel {cls:=.type "list_iterator",data:=.fields #[.ref a,.int 0 0]} s1.toks;exact⟨_,_,_,_,d0,ac,NX hh (here hd),g1.trans gp,⟨⟨_,cT _ ac,ac,ac⟩,p⟩,fr,off⟩
 |range g te ns=>
  refine ba ei λv d4 e1 f1=>bb f1 λk hk f1=>bC f1 λhf f1=>bo f1 ?_;simp -iota only[fits,cY,di] at hf;refine N0 ok (T:="range") (by decide) g (.cons te ns .nil) R N (EY IH te ns rm R N e1 λv' s1 d0 g1 x1=>⟨g1.rel.base,x1.jz hk λt=>call_range_1 ?_⟩);have gp:=ig g1.rel {cls:=.type "range",data:=.fields #[.int 0 s1.toks,.int k t,.int 1 (s1.toks+1)]} (s1.toks+1+1);refine wpAny_pyIter_range (Sa ..) (small_one (by trivial) (by trivial) (vk (by decide) (vl hf.1)) (yz hf.2 (by decide))) ?_;rw[rangeSize_one];have WE:s1.heap.objs.size<=(s1.heap.push {cls:=.type "range",data:=.fields #[.int 0 s1.toks,.int k t,.int 1 (s1.toks+1)]}).objs.size:=by rw[eW];exact bc _ _
  refine⟨_,_,_,_,d0,ac,Ly (k:=k.toNat) hh,g1.trans (gp.trans (ig gp.rel {cls:=.type "range_iterator",data:=.fields #[ew 0,ew (if 0<k then k-0 else 0),ew 1]} (s1.toks+1+1))),⟨bR _,?_⟩,λb hb=>by refine az (bX.mp hb) ?_;exact lT g1.qf.size WE,λb hb hm=>by rw[bX.mp hb] at hm;exact bS _ (gp.rel.lt hm)⟩;have e2:(if 0<k then k-0 else 0)=((k.toNat:ag):aJ)-((0:ag):aJ):=by split<;>lia
  exact az e2 (cT _ ac)
 |nW g te ns=>
  refine ba ei λv d4 e1 f1=>?_;rcases N8 ot with⟨x,y,rfl⟩;refine N0 ok (T:="enumerate") (by decide) g (.cons te ns .nil) R N (EY IH te ns rm R N e1 λv' s1 d0 g1 x1=>⟨g1.rel.base,fw g1.rel x1 f1 λi a items k vs p l hd r f1=>bo f1<|bG s1.heap.objs.size (aP _) (call_enumerate_list (cQ hd) λh' b1 b2 b3 b4 sz=>?_)⟩);have gp:Good mA s1 d0 d4 {s1 with heap:=h'} d0:=⟨g1.rel.kept b4 sz,mX.of_kept b4 sz,ac,ac⟩;refine wpAny_pyIter_enum b1 ?_;have hax:a≠s1.heap.objs.size:=λq=>by exact bS _ (q▸(cB hd))
  refine⟨_,_,_,_,d0,ac,NY hh (lx _ 1 0 (by decide)),g1.trans gp,⟨b1,b2,p⟩,λb hb=>?_,λb hb hm=>?_⟩
  ·have q:s.heap.objs.size<=s1.heap.objs.size:=g1.qf.size;simp at hb;rcases hb with rfl|rfl<;>lia
  ·have q:b<s1.heap.objs.size:=g1.rel.lt hm;simp at hb;rcases hb with rfl|rfl
   ·exact bS _ (lR q (pG _))
   ·exact bS _ q
 |zip g ta tb na nb=>
  refine ba ei λv d4 e1 f1=>ba f1 λw nT e2 f2=>bb f2 λvs hv f2=>bb f2 λws hw f2=>?_;replace f2:=aU f2;cases f2;refine sE (R9 ot) λx y z1=>?_;subst z1;refine N0 ok (T:="zip") (by decide) g (.cons ta na (.cons tb nb .nil)) R N (R8 IH ta na tb nb rm R N e1 e2 λv' w' s1 d0 g1 x1 x2=>⟨g1.rel.base,x1.kB hv λt1 i1 u1 r1=>x2.kB hw λt2 i2 u2 r2=>Cs u1.is u2.is λh' zp sz kp pr=>?_⟩);have sz':s1.heap.objs.size<=h'.objs.size:=sz▸bc _ _;have gl:Good mA s1 d0 (nT++[.iU]) {s1 with heap:=h'} (d0++[s1.heap.objs.size+3]):=⟨g1.rel.laid kp sz' (bc _ _) pr .iU,mX.laid kp sz' (bc _ _),ac,ac⟩;refine wpAny_pyIter_zip zp.z ?_;have l1:t1<s1.heap.objs.size:=by refine eh u1.ex λk e=>?_;exact cB e
  have l2:t2<s1.heap.objs.size:=by refine eh u2.ex λk e=>?_;exact cB e
  have D:Ap (s1.heap.objs.size+4) (s1.heap.objs.size+2) (s1.heap.objs.size+3) s1.heap.objs.size (s1.heap.objs.size+1) t1 t2:=by have q1:∀k,t1≠s1.heap.objs.size+k:=λk q=>bS _ (lR (q▸l1) (bc _ _));have q2:∀k,t2≠s1.heap.objs.size+k:=λk q=>bS _ (lR (q▸l2) (bc _ _));exact⟨lx _ 2 4 (by decide),lx _ 3 4 (by decide),lx _ 0 4 (by decide),lx _ 1 4 (by decide),lx _ 2 3 (by decide),lx _ 2 0 (by decide),lx _ 2 1 (by decide),lx _ 3 0 (by decide),lx _ 3 1 (by decide),lx _ 0 1 (by decide),q1 4,q1 3,q1 0,q1 1,q2 4,q2 3,q2 0,q2 1⟩
  refine⟨_,_,_,_,_,ac,R4 hh D,g1.trans gl,⟨zp.z,zp.ti,zp.a1,zp.a2,gl.lJ g1.rel _ _ u1,gl.lJ g1.rel _ _ u2,r1.go g1.rel gl,r2.go g1.rel gl,gN g1.rel _⟩,four λk=>lT g1.qf.size (bc _ k),Vd λk h3 hm=>?_⟩;rcases cR.mp hm with hm|hm
  ·exact bS _ (lR (g1.rel.lt hm) (bc _ k))
  ·exact lx _ k 3 h3 (bX.mp hm)
end
section
variable{A:aW}{s:aq}{ρ:af ao}{st st':af O}
theorem jD{h':aO}(R:Rel s.heap ρ st)(kp:∀b o,s.heap.get? b=ae o->h'.get? b=ae o)(sz:s.heap.objs.size<=h'.objs.size)(tk:ag):Good mA s ρ st {s with heap:=h',toks:=tk} ρ:=
 ⟨R.kept kp sz,mX.of_kept kp sz,ac,ac⟩
theorem mC{h':aO}{a:ao}{ob:cM}{o:O}(R:Rel s.heap ρ st)(kp:∀b o,s.heap.get? b=ae o->h'.get? b=ae o)(sz:s.heap.objs.size<=h'.objs.size)(tk:ag)(hn:s.heap.objs.size<=a)(ha:h'.get? a=ae ob)(x:OR h' (ρ++[a]) ob o):
  Good mA s ρ (st++[o]) {s with heap:=h',toks:=tk} (ρ++[a]):=⟨R.laid kp sz hn ha x,mX.laid kp sz hn,ac,ac⟩
theorem Lz{v r:V}{v':ak}(R:Rel s.heap ρ st)(x:VR s.heap ρ v' v)(e:iV "len" v st=ae (r,st')):aw (ay Wc.prog Wc.w) A (cf (.builtin "len") [v']) (gz s ρ r st') dC s:=by
 refine mB x (e) (λa items vs t rr e=>?_) λe=>fw R x e λi a items n vs p l hd rr e=>?_;all_goals
  refine bC e λq e=>bo e ?_;have hz:=rr.size
 ·exact len_tuple (eh (t.ex) λn e=>⟨_,e,ac,n,ac⟩) (by lia)<|az hz (eC R (.int _ _) _)
 ·exact len_list (cQ hd) (by lia)<|az hz (eC R (.int _ _) _)
theorem LA{v r:V}{v':ak}(R:Rel s.heap ρ st)(x:VR s.heap ρ v' v)(e:iV "abs" v st=ae (r,st')):aw (ay Wc.prog Wc.w) A (cf (.builtin "abs") [v']) (gz s ρ r st') dC s:=by exact bb (e) λi hi e=>x.jz hi λt=>bo e<|call_abs_int λu tk=>az (show(if i<0 then-i else i)=(i.natAbs:aJ) from if q:i<0 then(aF q).trans (Int.ofNat_natAbs_of_nonpos (vl q)).symm else(aG q).trans (WG (xW.mp q)).symm)<|eC R (.int _ _) _
theorem LB{v r:V}{v':ak}(R:Rel s.heap ρ st)(x:VR s.heap ρ v' v)(e:iV "str" v st=ae (r,st')):aw (ay Wc.prog Wc.w) A (cf (.type "str") [v']) (gz s ρ r st') dC s:=by exact bb (e) λi hi e=>x.jz hi λt=>bC e λq e=>bo e<|P.str_of_int (rL (Nat.log2_le_self _) (have q:=cb.mp q;u5.mp (WH (Int.le_of_eq (WG (cA q.1))) (yz (cA q.2) (by decide))))) (eC R (.str _ _) _)
theorem EZ{v r:V}{v':ak}(R:Rel s.heap ρ st)(x:VR s.heap ρ v' v)(e:iV "tuple" v st=ae (r,st')):aw (ay Wc.prog Wc.w) A (cf (.type "tuple") [v']) (gz s ρ r st') dC s:=by
 refine mB x (e) (λa items vs t rr e=>?_) λe=>fw R x e λi a items n vs p l hd rr e=>bC e λq e=>?_
 ·exact bo e<|call_tuple_same t.is (dv R (.tup t rr))
 ·refine bo e<|bG s.heap.objs.size (aP _) (call_tuple_list (cQ hd) (λh' kp sz=>?_) (by(refine az rr.size ?_;refine az fg ?_);exact q));have g:=jD R (h':=h'.push {cls:=.type "tuple",data:=.seq items}) (λb o e=>bW _ (kp b o e)) sz s.toks;exact⟨ρ,g,.tup ⟨λhm=>VC (R.mem hm) λ_ _ _ _ _ e _=>bS _ (cB (kp _ _ e)),0,cT _ ac⟩ (rr.go R g)⟩
theorem wc{v r:V}{v':ak}(R:Rel s.heap ρ st)(x:VR s.heap ρ v' v)(e:iV "list" v st=ae (r,st')):aw (ay Wc.prog Wc.w) A (cf (.type "list") [v']) (gz s ρ r st') dC s:=by refine fw R x (e) λi a items n vs p l hd rr e=>iM e λq=>bG s.heap.objs.size (aP _) (call_list_seq a (T:="list") (.inl ac) hd ac ac (λh' c' kp hn sz=>?_) (by(refine az rr.size ?_;refine az fg ?_);exact q));exact⟨_,mC R kp sz s.toks (aP _) hn (.list (rr.mono (tW kp (aP _)) (Pre.append _))),.ref (gN R _)⟩
theorem Ct:∀{vs:af V}{is:af aJ},allInts vs=ae is->vs=is.map .int:=by
 intro vs;induction vs with
 |nil=>exactλe=>aU e▸ac
 |cons v r ih=>
  intro is e;cases v with
  |int i=>refine bH (lE.mp (e)) λjs h z1=>?_;subst z1;refine az (ih h) ?_;rfl
  |_=>exact eP e
theorem JN{h:aO}{ρ:af ao}:∀{l:af ak}{is:af aJ},eB h ρ l (is.map .int)->∃xs:af (aJ×Tok),l=xs.map (λp=>.int p.1 p.2)/\xs.map (·.1)=is
 |[],[],_=>⟨[],ac,ac⟩
 |_,i::is,.cons x r=>by
  refine eh x.int_inv λt z2=>?_
  subst z2
  refine bH (JN r) λxs z3 z4=>?_
  subst z3
  exact z4▸⟨(i,t)::xs,ac,ac⟩
 |_::_,[],r=>by cases r
theorem preSum_eq(xs:bj (aJ×Tok)):∀k,k<=xs.size->preSum (jV xs) k=((xs.toList.map (·.1)).take k).foldl (·+·) 0:=by
 intro l0;induction l0 with
 |zero=>exactλ_=>ac
 |succ k ih=>
  intro h;rewrite[preSum];refine az (ih (bz ‹_›))<|az uq<|az xm ?_;have:(xs.toList.map (·.1))[k]?=ae (jV xs k):=by simp -iota only[jV,gw,dS];refine az (jK (by assumption)) ?_;rfl
  refine az this ?_;rfl
theorem ints_list{items:bj ak}{vs:af V}{is:af aJ}{h:aO}(hi:allInts vs=ae is)(rr:eB h ρ items.toList vs):∃xs:af (aJ×Tok),items=intItems xs.toArray/\is=xs.map (·.1):=by rw[Ct hi] at rr;exact bH (JN rr) λxs hx e=>⟨xs,WI.mp (by refine hx.trans ?_;simp[intItems]),e.symm⟩
theorem LC(hh:A.handled=aC){v r:V}{v':ak}(R:Rel s.heap ρ st)(x:VR s.heap ρ v' v)(e:iV "sum" v st=ae (r,st')):aw (ay Wc.prog Wc.w) A (cf (.builtin "sum") [v']) (gz s ρ r st') dC s:=by refine fw R x (e) λi a items n vs p l hd rr e=>bb e λis hi e=>bC e λ_ e=>bo e<|bH (ints_list hi rr) λxs hI z5=>?_;subst z5;exact bG s.heap.objs.size (aP _) (sum_intListG (xs:=xs.toArray) hh (hI▸cQ hd) λh' tk t' kp sz=>az (preSum_eq _ _ (aP _))<|az (JO (by simp)) ⟨ρ,jD R kp sz tk,.int _ _⟩)
end
section
variable{A:aW}{s:aq}{ρ:af ao}{st st':af O}
theorem ur{T:aA}{name:aM}{id:aA}{B:Builtin}{v:ak}{args:af ak}{Q:ak->aq->Prop}(S:Slot T name id)(hT:s.TypeIs v T)(e:xn table id=ae B)(a:argsOk id ⟨v::args,[]⟩)
  (h:aw (ay Wc.prog Wc.w) A.in1 (B ⟨v::args,[]⟩) (λfin s'=>∃r,fin=.done (.ret r)/\Q r s') dC s):aw (ay Wc.prog Wc.w) A (cf (.builtin id) (v::args)) Q dC s:=
 gx S hT e h a
theorem N9{o v r:V}{o' x':ak}(R:Rel s.heap ρ st)(y:VR s.heap ρ o' o)(x:VR s.heap ρ x' v)(e:Bc o v st=ae (r,st')):aw (ay Wc.prog Wc.w) A (cf (.builtin "list.append") [o',x']) (gz s ρ r st') dC s:=by
 refine fw R y e λi a items k vs p l hd rr g=>bC g λhz g=>ba g λu d4 e1 e2=>fB (gA e1) λhl z1=>?_;subst z1;refine bo e2<|ur JD ⟨_,hd,ac⟩ entry_list_append (args_list_append _ _) (?_:aw _ _ (updateSeq a (·.push x')>>=λ_=>ui .none) _ _ s);have mM:items.size<=tY:=by(refine az rr.size ?_;refine az fg ?_);exact bz ‹_›
 refine au (pE hd ac (aD ⟨.none,ac,?_⟩) (hz:=mM) (_hz':=by rw[Hf];exact jF mM));have sb:=dF s.heap a (cK (·.push x'));obtain⟨n',sQ⟩:∃n',(s.heap.update a (cK (·.push x'))).get? a=ae (eM (items.push x') n'):=⟨_,qZ hd _⟩;exact⟨ρ,ii R s.toks p hl.2 sb sQ (.list (az o5 ((rr.snoc x).mono (R.lJ (cw p) sb) Pre.refl))),.none⟩
theorem Oa{o u r:V}{o' u':ak}(R:Rel s.heap ρ st)(y:VR s.heap ρ o' o)(x:VR s.heap ρ u' u)(e:Be o u st=ae (r,st')):aw (ay Wc.prog Wc.w) A (cf (.builtin "list.extend") [o',u']) (gz s ρ r st') dC s:=by
 refine bb e λj hj e=>x.jg hj λb q=>fw R y e λi a items k vs p l hd rr g=>oq R q g λdB k2 ws l2 hd2 rr2 g=>bC g λhz g=>ba g λu d4 e1 e2=>?_;have hz:=cA (cb.mp hz).1;refine fB (gA e1) λhl z2=>?_;subst z2;refine bo e2 ?_;have s1:=rr.size;have s2:=rr2.size;refine Cu Sb ⟨_,hd,ac⟩ F.entry_list_extend (F.args_list_extend_2 _ _) (AutoSeq1.list_extend_list_list_0 a items k b dB k2 ?_ (by refine az fg ?_;exact s1▸lT (bc _ _) hz) (by refine az fg ?_;exact eY (lT (aE (bJ s1) (bJ s2)) hz))) ⟨hd,hd2,?_⟩
 ·intro h;simp only[cY] at h;have j1:=h.2;unfold Builtin.List.listTooLong at j1;simp at j1;exact cU (lT (aE (bJ s1) (bJ s2)) hz) (fg▸j1)
 ·have sb:=dF s.heap a (cK λxs=>xs++dB);obtain⟨n',sQ⟩:∃n',(s.heap.update a (cK λxs=>xs++dB)).get? a=ae (eM (items++dB) n'):=⟨_,qZ hd _⟩;exact⟨ρ,ii R s.toks p hl.2 sb sQ (.list (az NH ((rr.append rr2).mono (R.lJ (cw p) sb) Pre.refl))),.none⟩
theorem Zf{o r:V}{o':ak}(R:Rel s.heap ρ st)(y:VR s.heap ρ o' o)(e:Yv o st=ae (r,st')):aw (ay Wc.prog Wc.w) A (cf (.builtin "list.pop") [o']) (gz s ρ r st') dC s:=by
 refine fw R y e λi a items k vs p l hd rr g=>bC g λhz g=>bb g λv hv g=>ba g λu d4 e1 e2=>fB (gA e1) λhl z3=>?_;subst z3;refine bo e2 ?_;have hs:=rr.size;replace hv:=(List.getLast?_eq_getElem?)▸hv;refine bH (rr.get hv) λv' Ob xv=>?_;replace Ob:=(km hs)▸Ob;replace Ob:=(dS)▸Ob;refine Cu F.slot_list_pop ⟨_,hd,ac⟩ F.entry_list_pop (F.args_list_pop_1 _) (MeetsSeq.list_pop_last a items k v' Ob (by refine az fg ?_;exact hs▸hz)) ⟨hd,?_⟩;have sb:=dF s.heap a (cK λxs=>xs.eraseIdxIfInBounds (items.size-1));obtain⟨n',sQ⟩:∃n',(s.heap.update a (cK λxs=>xs.eraseIdxIfInBounds (items.size-1))).get? a=ae (eM (items.eraseIdxIfInBounds (items.size-1)) n'):=⟨_,qZ hd _⟩;have tk:=R.lJ (cw p) sb;refine⟨ρ,ii R s.toks p hl.2 sb sQ (.list ?_),xv.mono tk Pre.refl⟩;have:(items.eraseIdxIfInBounds (items.size-1)).toList=items.toList.take (vs.length-1):=by
  refine dm hs ?_;unfold Zg;split
  ·exact az WJ<|dm jL<|az List.eraseIdx_length_sub_one Oc
  ·rename_i h;have:items.size=0:=Nat.eq_zero_of_not_pos λp=>h (pH p pI);have:items=#[]:=Array.eq_empty_of_size_eq_zero this;subst this;rfl
 exact az this<|az Oc ((rr.take _).mono tk Pre.refl)
theorem Sd(hu:A.units+20<b6){o v r:V}{o' x':ak}(R:Rel s.heap ρ st)(y:VR s.heap ρ o' o)(x:VR s.heap ρ x' v)(e:GG o v st=ae (r,st')):aw (ay Wc.prog Wc.w) A (cf (.builtin "list.index") [o',x']) (gz s ρ r st') dC s:=by
 refine fw R y e λi a items k vs p l hd rr g=>bC g λq g=>bb g λj hj g=>bo g<|fB (cb.mp q) λq qz=>fB (cb.mp q) λpv v6=>?_
 have at_:∀(vs:af V)(l:af ak),eB s.heap ρ l vs->V.eI vs=aj->∀j,indexOf v vs=ae j->(∃h:j<l.length,NK s.heap ρ v l[j]=aj)/\j<vs.length/\∀m (h:m<l.length),m<j->NK s.heap ρ v l[m]=aQ:=by
  intro vs;induction vs with
  |nil=>intro l _ _ j h;exact eP h
  |cons y ys ih=>
   intro l r ps j h;refine r.Ao λy' l' r1 r2=>?_;have pys:V.eI ys=aj:=by exact(d9 ps).2
   replace h:=A9▸h;have hy:=GW pv (Ax ps (i:=0) ac) r1;by_cases c:V.beq y v=aj
   ·replace h:=(aF c)▸h;exact(aU h)▸⟨⟨by simp,by simpa[hy] using c⟩,by simp,λm _ hm=>by trivial⟩
   ·replace h:=(aG c)▸h;refine bH (lE.mp h) λj' MR z4=>?_;subst z4;refine qg (ih l' r2 pys j' MR) λz5 h3 h4=>eh z5 λh1 h2=>⟨⟨by simpa using h1,‹_›⟩,by simpa using h3,λm hm jE=>?_⟩;induction m with
    |zero=>simpa[hy] using c
    |succ m=>simpa using h4 m (by exact o8 hm) (o8 jE)
 refine qg (at_ vs items.toList rr v6 j hj) λz6 h3 h4=>eh z6 λh1 h2=>?_;have mM:j<items.size:=by trivial
 exact Cu Se ⟨_,hd,ac⟩ F.entry_list_index (F.args_list_index_2 _ _) (list_indexAt a items k aC #[] x' (NK s.heap ρ v) j mM (by lia) (by trivial) (λm hm jE=>by have j1:=h4 m (by trivial) jE;rw[WK] at j1;exact j1))
  ⟨hd,λy hy=>NL rr x pv v6 (by show A.units+1+8<b6;lia) y hy,eC R (.int _ _) _⟩
end
section
variable{A:aW}{s:aq}{ρ:af ao}{st st':af O}
theorem Zh(hb:gk<Wc.h₀.objs.size)(hu:A.units+20<b6){o k d r:V}{o' k' d':ak}(R:Rel s.heap ρ st)(z:VR s.heap ρ o' o)(x:VR s.heap ρ k' k)(y:VR s.heap ρ d' d)(e:VJ o k d st=ae (r,st')):aw (ay Wc.prog Wc.w) A (cf (.builtin "dict.get") [o',k',d']) (gz s ρ r st') dC s:=by
 refine ve R z e λi a es n ps p l hd he hn g=>bC g λpk g=>bo g<|ur F.slot_dict_get ⟨_,hd,ac⟩ F.entry_dict_get (F.args_dict_get_3 _ _ _) ((au (vh (M8 hu ac) pk x hd he hn (λu u' tk e xu=>?_) λe tk=>?_)):aw _ _ (wX a k'>>=_) _ _ s)
 ·exact az e (aD ⟨_,ac,eC R xu tk⟩)
 ·exact az e (au (wpAny_missed_other (R.qX hb p) (aD ⟨_,ac,eC R y tk⟩)))
theorem Cv(hb:gk<Wc.h₀.objs.size)(hu:A.units+20<b6){o k d r:V}{o' k' d':ak}(R:Rel s.heap ρ st)(z:VR s.heap ρ o' o)(x:VR s.heap ρ k' k)(y:VR s.heap ρ d' d)(e:M4 o k d st=ae (r,st')):aw (ay Wc.prog Wc.w) A (cf (.builtin "dict.setdefault") [o',k',d']) (gz s ρ r st') dC s:=by
 refine ve R z e λi a es n ps p l hd he hn g=>bC g λq g=>?_;have qz:=cA (cb.mp q).2;have hT:s.TypeIs (.ref a) "dict":=⟨_,hd,ac⟩;refine ur Sf hT F.entry_dict_setdefault (F.args_dict_setdefault_3 _ _ _) ?_;unfold Builtin.«dict.setdefault»;refine au ?_;unfold Sg;refine au (qY hT<|wpAny_pure ?_);show aw _ _ (if(a==gk)=aj then _ else(Ji a k' d'>>=_)) _ _ s;refine az (aG (by refine az (R.qX hb p) ?_;exact cE)) ?_;refine au (vi (M8 hu ac) ((cb.mp q).1) x y hd he hn (bz ‹_›) (λu u' tk e xu=>?_) λee h' tk jc n' sb sQ ND=>?_)
 ·replace g:=e▸g;exact bo g<|wpAny_pure ⟨_,ac,eC R xu tk⟩
 ·replace g:=ee▸g;refine ba g λu d4 e1 e2=>fB (gA e1) λhl z1=>?_;subst z1;rcases dw e2 with⟨rfl,rfl⟩;have NW:=R.lJ (cw p) sb;have Js:cJ (ps++[(k,r)]):=by have:=hn.du (k:=k) (v:=r);rw[kA,vg ee] at this;exact this
  exact aD ⟨_,ac,ρ,ii R tk p hl.2 sb sQ (.dict (ND.mono NW Pre.refl) Js),y.mono NW Pre.refl⟩
theorem WL(hu:A.units+20<b6){o k r:V}{o' k':ak}(R:Rel s.heap ρ st)(z:VR s.heap ρ o' o)(x:VR s.heap ρ k' k)(e:Yw o k st=ae (r,st')):aw (ay Wc.prog Wc.w) A (cf (.builtin "dict.pop") [o',k']) (gz s ρ r st') dC s:=by
 refine bb e λk hk e=>x.jz hk λt=>ve R z e λi a es n ps p l hd he hn g=>bC g λq g=>bb g λv hv g=>ba g λu d4 e1 e2=>fB (gA e1) λhl z2=>?_;subst z2;refine bo e2 ?_;have hT:s.TypeIs (.ref a) "dict":=⟨_,hd,ac⟩;have mM:es.size<=tY:=jR (by have:=he.length;simp at this;exact this▸bz q);refine ur F.slot_dict_pop hT F.entry_dict_pop (F.args_dict_pop_2 _ _) ?_;unfold Builtin.«dict.pop»;refine au ?_;unfold Sg;refine au (qY hT<|wpAny_pure ?_);have aaN:(keyPart (Cw k t)).isSome=aj:=ac;refine au (aD<|wpAny_bind ?_);unfold Builtin.Dict.takeOut;refine cy<|wpAny_bind (qr (.int k) 8 _ _ s _ ac (VR.int (ρ:=ρ) k t) (M8 hu ac) λtk=>au (mz (s:={s with toks:=tk}) (M8 hu ac) ac (VR.int (ρ:=ρ) k t) hd ac he hn<|kS (vf hv) λj pr hj hp z3=>?_));subst z3;refine az hj<|bH (he.get' hp) λen Je qe=>?_;rw[dS] at Je;refine au (iB (s:={s with toks:=tk}) hd ac<|az Je<|wpAny_bind (BQ (hz:=mM) (s:={s with toks:=tk}) hd ac (aD ?_)));have sb:=dF s.heap a (Obj.mapDictKeys λx=>x.eraseIdxIfInBounds j);have NW:=R.lJ (cw p) sb;have hji:j<es.size:=by have:=(tV.mp Je).1;exact this
 refine au (xi (aD ⟨_,ac,ρ,ii R tk p hl.2 sb (gG _ hd ac) (.dict ?_ hn.lm),qe.val.mono NW Pre.refl⟩));have:(es.eraseIdxIfInBounds j).toList=es.toList.eraseIdx j:=by unfold Zg;exact az (tO hji) WJ
 exact az this<|az yn<|az hj ((he.erase j).mono NW Pre.refl)
theorem LD:∀c:ag,c<128->64<c->Unicode.isSpace c=aQ:=by decide+kernel
theorem m_isspace{o r:V}{x':ak}(R:Rel s.heap ρ st)(y:VR s.heap ρ x' o)(e:ya o st=ae (r,st')):aw (ay Wc.prog Wc.w) A (cf (.builtin "str.isspace") [x']) (gz s ρ r st') dC s:=by
 refine bb e λx hx e=>y.sR hx λt=>bC e λq g=>bo g ?_;simp -iota only[cY,di,eH] at q;refine SC.isspace ?_
 have:Sh x=aQ:=by
  rcases x with⟨⟨l⟩⟩
  match l,q with
  |[c],q=>have:=q.2 c (.head _);simp[Sh,LD c this.2 this.1]
  |[],q=>exact aV q.1 (by decide)
  |_::_::r,q=>exact aV q.1 (by trivial)
 exact az this (dv R (.bool _))
end
theorem eB.one{h:aO}{ρ:af ao}{l:af ak}{v:V}(x:eB h ρ l [v]):∃v',l=[v']/\VR h ρ v' v:=x.Ao λv' _ a b=>b.GU ⟨v',ac,a⟩
theorem eB.Zi{h:aO}{ρ:af ao}{l:af ak}(x:eB h ρ l []):l=[]:=x.GU ac
@[elab_as_elim]theorem Cx{h:aO}{ρ:af ao}{l:af ak}{vs:af V}{v:V}{motive:af ak->af V->Prop}(x:eB h ρ l vs)(e:x8 vs=ae v)(k:∀v',VR h ρ v' v->motive [v'] [v]):motive l vs:=by revert x;exact az (Ai e) λx=>x.Ao λv' _ a b=>b.GU (k v' a)
@[elab_as_elim]theorem Od{h:aO}{ρ:af ao}{l:af ak}{vs:af V}{p:V×V}{motive:af ak->af V->Prop}(x:eB h ρ l vs)(e:M3 vs=ae p)(k:∀v' u',VR h ρ v' p.1->VR h ρ u' p.2->motive [v',u'] [p.1,p.2]):motive l vs:=by revert x;exact az (x9 e) λx=>x.Ao λv' _ a b=>b.Ao λu' _ b c=>c.GU (k v' u' a b)
section
variable{n:ag}{A:aW}{s:aq}{ρ:af ao}{st st':af O}{env:bD}{sc:aX}{m:Env}{v:V}
noncomputable abbrev GM(A:aW)(d4:af O)(ov:V)(x id:aA):Prop:=∀(s1:aq)(d0:af ao)(o':ak),Rel s1.heap d0 d4->VR s1.heap d0 o' ov->∀(pl:cX aY)(Q:ak×af ak->aq->Prop),Q (.builtin id,[o']) s1->aw (ay Wc.prog Wc.w) A (getMethod o' (aB x) pl) Q dC s1
noncomputable abbrev Kd(d4 nT:af O)(ov:V):Prop:=∀i,ov=.ref i->∃ob,d4[i]?=ae ob/\∀o,nT[i]?=ae o->O.kind ob=O.kind o
theorem xo{α:Type}{d4 nT:af O}{ov:V}{f id:aA}{g:ag->af V->P α}{r:α×af O}(S:Slot "list" (aB f) id)(ty:typeOf (.builtin id)=bB (.type "method_descriptor"))(hk:Kd d4 nT ov)(e:listAt ov g nT=ae r):GM A d4 ov f id:=λs1 d0 o' R1 x1 pl Q q=>bb e λi hi e=>dQ e λo l e=>bb e λvs h _=>by refine bH (hk i (sI hi)) λob l1 k=>eh (Yy ((k o l).trans (bf O.kind (mS h)))) λws z=>?_;revert q;exact x1.jg hi λa pa q=>lC (R1.list pa (z▸l1)) λitems k hd _=>Cy ⟨_,hd,ac⟩ F.plainAttrs_list S ty (λb e=>Cz e▸⟨_,hd,ac⟩) q
theorem CA{α:Type}{d4 nT:af O}{ov:V}{f id:aA}{g:ag->af (V×V)->P α}{r:α×af O}(S:Slot "dict" (aB f) id)(ty:typeOf (.builtin id)=bB (.type "method_descriptor"))(hk:Kd d4 nT ov)(e:dictAt ov g nT=ae r):GM A d4 ov f id:=λs1 d0 o' R1 x1 pl Q q=>bb e λi hi e=>dQ e λo l e=>bb e λvs h _=>by refine bH (hk i (sI hi)) λob l1 k=>eh (Yz ((k o l).trans (bf O.kind (mT h)))) λws z=>?_;revert q;exact x1.jg hi λa pa q=>lC (R1.dict pa (z▸l1)) λitems k hd _=>Cy ⟨_,hd,ac⟩ Si S ty (λb e=>Cz e▸⟨_,hd,ac⟩) q
theorem Oe(IH:b7 n){o:aK}{p:PE}{x:aA}{apos pos:bu}{es:af aK}{ps:af PE}(hb:eQ o (aB x))(hp:(apos.endLine==pos.line)=aj)(hl:es.length<29)(t1:TE sc o p)(t:Gw sc es ps)(rm:dO n A)(R:Rel s.heap ρ st)(N:cD s.heap ρ env sc m){ov:V}{d4 nT:af O}{vs:af V}(e1:(run Wc.G n).ev p m st=ae (ov,d4))(e2:p6 (λe=>(run Wc.G n).ev e m) ps d4=ae (vs,nT)){id:aA}(gm:GM A d4 ov x id)(cl:∀(s2:aq) (lu:af ao) (o':ak) (fG:af ak),Rel s2.heap lu nT->VR s2.heap lu o' ov->eB s2.heap lu fG vs->aw (ay Wc.prog Wc.w) A (cf (.builtin id) (o'::fG)) (gz s2 lu v st') dC s2):aw (ay Wc.prog Wc.w) A (bw (.Call (.Attribute o (aB x) apos) es [] pos) env) (gz s ρ v st') dC s:=by exact Jw (IH.go t1 rm R N e1 λo' s1 d0 g1 x1=>gm s1 d0 o' g1.rel x1 _ _<|eo dX t (Yb (mc IH t rm g1.rel (N.go R g1) e2) λfG s2 lu g2 x2=>⟨g2.rel.base,jS (g1.trans g2) (cl s2 lu o' fG g2.rel (x1.go g1.rel g2) x2)⟩)) (qx hb hp hl t)
@[elab_as_elim]theorem LF{o:V}{x:aA}{args:af V}{st:af O}{r:V×af O}{C:aA->Prop}(e:iJ o x args st=ae r)
  (k1:∀v,x8 args=ae v->Bc o v st=ae r->C "append")(k2:∀v,x8 args=ae v->Be o v st=ae r->C "extend")(k3:∀v,x8 args=ae v->GG o v st=ae r->C "index")
  (k4:∀p,M3 args=ae p->VJ o p.1 p.2 st=ae r->C "get")(k5:∀p,M3 args=ae p->M4 o p.1 p.2 st=ae r->C "setdefault")(k6:Yx o args st=ae r->C "pop")(k7:args.isEmpty=aj->ya o st=ae r->C "isspace"):C x:=
 sS e (λh e=>h▸bb e k1) λ_ e=>sS e (λh e=>h▸bb e k2) λ_ e=>sS e (λh e=>h▸bb e k3) λ_ e=>sS e (λh e=>h▸bb e k4) λ_ e=>sS e (λh e=>h▸bb e k5) λ_ e=>sS e (λh e=>h▸k6 e) λ_ e=>sS e (λh e=>h▸bC e k7) λ_ e=>(dy e).elim
theorem vS(ok:Wc.Ok)(IH:b7 n){o:aK}{p:PE}{x:aA}{apos pos:bu}{es:af aK}{ps:af PE}(hb:eQ o (aB x))(hp:(apos.endLine==pos.line)=aj)(hl:es.length<29)(t1:TE sc o p)(t:Gw sc es ps)(rm:dO n A)(R:Rel s.heap ρ st)(N:cD s.heap ρ env sc m){ov:V}{d4 nT:af O}{vs:af V}(e1:(run Wc.G n).ev p m st=ae (ov,d4))(e3:p6 (λe=>(run Wc.G n).ev e m) ps d4=ae (vs,nT))(hk:Kd d4 nT ov)(e:iJ ov x vs nT=ae (v,st')):aw (ay Wc.prog Wc.w) A (bw (.Call (.Attribute o (aB x) apos) es [] pos) env) (gz s ρ v st') dC s:=by
 have hu:=rm.hu;have road:=λ{x id:aA}(hb:eQ o (aB x))=>Oe (v:=v) (st':=st') (id:=id) IH hb hp hl t1 t rm R N e1 e3;clear R N e1 e3 t t1 hp hl;revert hb;refine LF e (λu hv e=>?_) (λu hv e=>?_) (λu hv e=>?_) (λq hv e=>?_) (λq hv e=>?_) (λe1=>?_) λhe e1=>?_;all_goals intro hb
 ·exact road hb (xo JD F.type_list_append hk e) λs2 lu o' fG R2 x2 y2=>Cx y2 hv λu' yu=>N9 R2 x2 yu e
 ·exact road hb (bb e λ_ _ e=>xo Sb F.type_list_extend hk e) λs2 lu o' fG R2 x2 y2=>Cx y2 hv λu' yu=>Oa R2 x2 yu e
 ·exact road hb (xo Se F.type_list_index hk e) λs2 lu o' fG R2 x2 y2=>Cx y2 hv λu' yu=>Sd (rL (bL (lB ac)) hu) R2 x2 yu e
 ·exact road hb (CA F.slot_dict_get F.type_dict_get hk e) λs2 lu o' fG R2 x2 y2=>Od y2 hv λk' d' yk yd=>Zh ok.mods (rL (bL (lB ac)) hu) R2 x2 yk yd e
 ·exact road hb (CA Sf F.type_dict_setdefault hk e) λs2 lu o' fG R2 x2 y2=>Od y2 hv λk' d' yk yd=>Cv ok.mods (by exact rL (bL (lB ac)) hu) R2 x2 yk yd e
 ·cases vs with
  |nil=>exact road hb (xo F.slot_list_pop F.type_list_pop hk e1) λs2 lu o' fG R2 x2 y2=>az y2.Zi<|Zf R2 x2 e1
  |cons k vs=>
   refine bb e1 λu hv e2=>road hb (bb e2 λ_ _ e=>CA F.slot_dict_pop F.type_dict_pop hk e) λs2 lu o' fG R2 x2 y2=>?_;induction vs with
   |cons _ _=>cases hv
   |nil=>
   rcases y2.one with⟨k',rfl,yk⟩;exact WL (by exact rL (bL (lB ac)) hu) R2 x2 yk e2
 ·induction vs with
  |cons _ _=>cases he
  |nil=>
  refine road hb (id:="str.isspace") (λs1 d0 o' R1 x1 pl Q q=>?_) λs2 lu o' fG R2 x2 y2=>?_
  ·refine bb e1 λy hy _=>?_;revert q;exact x1.sR hy λtk q=>Cy (typeIs_str _ _ _) F.plainAttrs_str F.slot_str_isspace F.type_str_isspace (λb e=>by cases e) q
  ·exact az y2.Zi<|m_isspace R2 x2 e1
end
section
variable{A:aW}{s:aq}{ρ:af ao}{st st':af O}
theorem E0(i:aJ)(is:af aJ):∀k,k<=is.length->∀f:ag->aJ,(∀j,j<=is.length->f j=((i::is)[j]?).getD 0)->f (uu (λa b=>bh (f a>f b)) k)=(is.take k).foldl max i:=by
 intro l0;induction l0 with
 |zero=>exactλ_ f hf=>by(rewrite[uu];refine az (hf 0 (bR _)) ?_);rfl
 |succ k ih=>
  intro h f hf;have h1:f (k+1)=is[k]'(by assumption):=by refine az (hf (k+1) h) ?_;simp[dq (show k<is.length by assumption)]
  rewrite[uu];refine az uq<|az xm<|dm (ih (bz ‹_›) f hf)<|az (dq (by assumption)) ?_;refine dm h1 ?_;simp only[CB,Sj,List.foldl_nil];by_cases q:f (k+1)>f (uu (λa b=>bh (f a>f b)) k)
  ·exact az (aF (eu q)) ((WM (vl q)).symm)
  ·exact az (aG (λh=>q (cA h))) ((CC (xW.mp q)).symm)
theorem LG(hh:A.handled=aC){v r:V}{v':ak}(R:Rel s.heap ρ st)(x:VR s.heap ρ v' v)(e:iV "max" v st=ae (r,st')):aw (ay Wc.prog Wc.w) A (cf (.builtin "max") [v']) (gz s ρ r st') dC s:=by
 refine fw R x (e) λi a items n vs p l hd rr e=>bb e λis hi e=>bb e λj hj e=>bo e ?_;clear e p l;cases is with
 |nil=>exact eP hj
 |cons i0 is=>
 replace hj:=aU hj;subst hj;refine bH (ints_list hi rr) λxs hI hx2=>?_;have hlen:xs.length=is.length+1:=by have:=bf t4 hx2;simpa using this.symm
 have hn:∀j,j<=is.length->jV xs.toArray j=((i0::is)[j]?).getD 0:=λj hj=>by refine az hx2<|az (gw) ?_;simp only[jV,List.getElem?_toArray]
 have hm:=E0 i0 is is.length (aP _) (jV xs.toArray) hn;replace hm:=CD▸hm;refine bG s.heap.objs.size (aP _) (max_intList (xs:=xs.toArray) hh (hI▸cQ hd) (by simp[hlen]) λv h' tk hv kp sz=>?_);replace hv:=(by simp[hlen]:xs.toArray.size-1=is.length)▸hv;refine dm hm ?_;obtain⟨p,hp,rfl⟩:∃p,xs.toArray[uu (λi j=>bh (jV xs.toArray i>jV xs.toArray j)) is.length]?=ae p/\Cw p.1 p.2=v:=by simpa[intItems] using hv
 exact az (show jV xs.toArray (uu (λi j=>bh (jV xs.toArray i>jV xs.toArray j)) is.length)=p.1 by(rewrite[jV];refine az hp ?_);rfl) (⟨ρ,jD R kp sz tk,.int _ _⟩)
end
theorem jx:plainId "dict.update.loop"=aj:=by decide+kernel
theorem qb:xn table "dict.update.loop"=ae Builtin.«dict.update.loop»:=entryFor_of_fast (by kernel_rfl)
section
variable{A:aW}{s:aq}{ρ:af ao}{st st':af O}{E:ak->aq->Prop}
theorem wg{d:ao}{key v':ak}{k v:V}{es:bj bQ}{ep:ag}{ps:af (V×V)}{Q:cH->aq->Prop}(hu:A.units+8<b6)(pk:k.pure=aj)(hk:VR s.heap ρ key k)(hv:VR s.heap ρ v' v)(ho:s.heap.get? d=ae (cV es ep))(he:kz s.heap ρ es.toList ps)(hn:cJ ps)(hz:ps.length<=16777216)(h:∀h' jc n,dH d s.heap h'->h'.get? d=ae (cV jc n)->kz s.heap ρ jc.toList (du k v ps)->Q () {s with heap:=h'}):aw (ay Wc.prog Wc.w) A (wY d key (cG k) v') Q E s:=by
 unfold wY;try with_reducible refine cy ?_
 refine au (mz hu pk hk ho ac he hn ?_);cases hi:dN k ps with
 |some i=>
  refine au (fN (au (wpAny_updateDict ho ac (wpAny_point (h _ (es.modify i λe=>{e with val:=v'}) ep (dF ..) ?_ ?_)))))
  ·exact gG _ ho ac
  ·exact az kA<|az hi<|az NI (he.modify hv i)
 |none=>
  refine au (fN (BQ (hz:=(jR (by have:=he.length;simp at this;exact this▸hz))) ho ac (h _ (es.push ⟨cG k,key,v'⟩) (ep+1) (dF ..) ?_ ?_)))
  ·exact gG _ ho ac
  ·exact az kA<|az hi (az o5 (he.snoc ⟨pk,hk,ac,hv⟩))
theorem mD{h h':aO}{d:ao}{o:cM}(sb:dH d h h')(ho:h.get? d=ae o)(hc:(∃es n,o.data=.dict es n)\/∃vs,o.data=.fields vs):dc h ρ h' ρ:=λb items t=>by obtain⟨nb,n,e⟩:=t;refine⟨nb,n,(sb.2 b λq=>?_).trans e⟩;subst q;rw[ho] at e;(replace e:=aU e;subst e);rcases hc with⟨_,_,q⟩|⟨_,q⟩<;>cases q
theorem vT(k v:V)(ps:af (V×V)):(du k v ps).length<=ps.length+1:=by have:=bf t4 (Aw (k:=k) (v:=v) (ps:=ps));rw[be] at this;refine az this ?_;split<;>simp
theorem Fb(l:af (V×V))(p:V×V):dictOf (l++[p])=du p.1 p.2 (dictOf l):=by simp[dictOf]
theorem vU:∀(l d:af (V×V)),cJ d->cJ (l.foldl (λd p=>du p.1 p.2 d) d)/\(l.foldl (λd p=>du p.1 p.2 d) d).length<=d.length+l.length:=by
 intro l0;induction l0 with
 |nil=>exactλd h=>⟨h,aP _⟩
 |cons p l ih=>intro d h;refine fB (ih (du p.1 p.2 d) h.du) λa b=>⟨a,lT b ?_⟩;have:=vT p.1 p.2 d;simp -iota only[iD];lia
theorem qB(l:af (V×V)):cJ (dictOf l):=(vU l [] fh).1
theorem zR(l:af (V×V)):(dictOf l).length<=l.length:=by have:=(vU l [] fh).2;simpa[dictOf] using this
theorem CE:∀{vs:af V}{ps:af (V×V)},pairsOf vs=ae ps->vs=cO ps:=by
 intro vs;induction vs with
 |nil=>exactλe=>aU e▸ac
 |cons v r ih=>intro ps e;refine bH (wM.mp e) λus e1 e=>bH (wM.mp e) λp e2 e=>?_;rcases lE.mp e with⟨js,h,rfl⟩;exact az (GF e1)<|az (x9 e2)<|az (ih h) ac
theorem LH{H:aO}{I D L:ao}{items:bj ak}{pv:af (V×V)}{Rz:jq->aq->Prop}(hh:A.handled=aC)(hu:A.units+12<b6)(hL:H.IsList L items)(hI:H.objs.size<=I)(hD:H.objs.size<=D)(hID:I≠D)(rr:eB H ρ items.toList (cO pv))(pk:∀p∈pv,p.1.pure=aj)(hz:pv.length<=16777216):∀(k j:ag)(s:aq)(es:bj bQ)(n:ag),pv.length-j=k->j<=pv.length->(∀b o,H.get? b=ae o->s.heap.get? b=ae o)->H.objs.size<=s.heap.objs.size->s.heap.IsListIter I L j->s.heap.get? D=ae (cV es n)->kz s.heap ρ es.toList (dictOf (pv.take j))->(∀h' tk jc n',(∀b o,H.get? b=ae o->h'.get? b=ae o)->h'.get? D=ae (cV jc n')->kz h' ρ jc.toList (dictOf pv)->Rz (.ok (.ret .none)) {s with heap:=h',toks:=tk})->fO (ay Wc.prog Wc.w) A (.builtin "dict.update.loop" ⟨[.ref D,.ref I,ew j,.none],[]⟩) Rz s:=by
 intro k;have hlen:items.size=pv.length:=by have:=rr.length;simpa[cO] using this
 have hLk:∀{h:aO},(∀b o,H.get? b=ae o->h.get? b=ae o)->h.IsList L items:=λkp=>bH (hL) λo ho r=>⟨o,kp _ _ ho,r⟩;have iO:∀{h:aO}{i:ag},h.IsListIter I L i->∃o,h.get? I=ae o/\∃vs,o.data=.fields vs:=λ⟨o,ho,_,hd⟩=>⟨o,ho,_,hd⟩;induction k with
 |zero=>intro j s es n hk hj kp sz it hd he hq;have Hl:j=pv.length:=Internal.KK hk hj;refine lU qb<|az (rv jx _)<|wpAny_bind (JB (A:=A.in1) hh it (hLk kp) (EW (hlen▸bJ Hl.symm)) λh' ext=>?_);refine aD<|bH (iO it) λo ho hf=>hq h' s.toks es n (λb o e=>ext b o (qq e hI) (kp b o e)) (ext D _ hID.symm hd) ?_;rw[Hl,CD] at he;refine he.mono (λb items t=>?_) Pre.refl;rcases t with⟨nb,m,e⟩;refine⟨nb,m,ext b _ (λq=>?_) e⟩;replace q:=q.symm;subst q;rw[ho] at e;(replace e:=aU e;subst e);exact eh hf λ_ q=>nomatch q
 |succ k ih=>
  intro j s es n hk hj kp sz it hd he hq;have Hl:j<pv.length:=Internal.zB hk;have hx:(cO pv)[j]?=ae (.tup [pv[j].1,pv[j].2]):=by simp[cO,Hl]
  refine bH (rr.get hx) λv' Ob xv=>?_;replace Ob:=(dS)▸Ob;refine lU qb<|az (rv jx _)<|wpAny_bind (bG s.heap.objs.size (aP _) (B9 it (hLk kp) Ob λh' Vb sb sz1=>?_));have LI:∀b o,H.get? b=ae o->h'.get? b=ae o:=λb o e=>(sb.2 b (qq e hI)).trans (kp b o e);refine bH (iO it) λoI Zj hfI=>kS (xv.mono (eR LI) Pre.refl).Rn λa its z1 t r2=>?_;subst z1;have Jo:h'.get? D=ae (cV es n):=(sb.2 D hID.symm).trans hd;refine kS (Jy r2) λkey val z2 xk xw=>eh t.ex λm e=>?_;replace e:=z2▸e;refine au (cy (au (wpAny_tryCatch ?_)));unfold Builtin.Dict.pairItems;refine au (pJ ⟨_,e,ac⟩<|az (aF (by decide))<|wpAny_bind (jM e ac (aD ?_)));have Zk:=zR (pv.take j);have Zl:(pv.take j).length<=pv.length:=by refine az rx ?_;lia
  refine cy (bG h'.objs.size (aP _) (qW (A:=A.in1) (s:={s with heap:=h'}) (M8 hu ac) (pk _ (dR Hl)) xk xw Jo (he.mono (mD (ρ:=ρ) sb Zj (.inr hfI)) Pre.refl) (qB _) (lT Zk (lT Zl hz)) λh2 tk jc n' wA hd2 WN WE=>aD ⟨ni jx _,ih (j+1) {s with heap:=h2,toks:=tk} jc n' (Internal.wA hk) Hl (λb o e=>(wA.2 b (qq e hD)).trans (LI b o e)) (lT sz (lT sz1 WE)) (Vb.at λo e=>(wA.2 I hID).trans e) hd2 (az uq<|az (dq Hl) ?_) hq⟩));rewrite[CB,Fb];exact WN.mono (mD (ρ:=ρ) wA Jo (.inl ⟨_,_,ac⟩)) Pre.refl
end
section
variable{A:aW}{E:ak->aq->Prop}{s:aq}
theorem ry{T newId Hm:aA}{Bi:Builtin}{args:af ak}{obj:ak}{cW:aq}{Q:ak->aq->Prop}(ft:TypeCalled T newId Hm)(hct:checkTypeCall T ⟨args,[]⟩=bB ())(WO:xn table Hm=ae Bi)
  (LJ:∀CF:ak->aq->Prop,CF obj cW->fO (ay Wc.prog Wc.w) A.in1 (.call (.builtin newId) ⟨.type T::args,[]⟩) (wants CF E) s)
  (hT:cW.TypeIs obj T)(hck:∀{A:aW} {Q:cH->aq->Prop} {E:ak->aq->Prop},Q () cW->aw (ay Wc.prog Wc.w) A (checkBuiltinCall Hm ⟨obj::args,[]⟩) Q E cW)
  (hi:aw (ay Wc.prog Wc.w) A.in1.in1 (Bi ⟨obj::args,[]⟩) (λfin s'=>match fin with|.done f=>wants (λr iL=>r=.none/\Q obj iL) E (.ok f) s'|.again c'=>c'.quiet=aj/\fO (ay Wc.prog Wc.w) A.in1 c' (wants (λr iL=>r=.none/\Q obj iL) E) s')
   (λe s'=>wants (λr iL=>r=.none/\Q obj iL) E (.error e) s') cW):aw (ay Wc.prog Wc.w) A (cf (.type T) args) Q E s:=by
 refine sE ft.mro λc tl aaT=>?_
 have aaO:=ft.made
 have Ze:=ft.sub
 refine xd (JC<|wpAny_pure ⟨Sk _ (by decide+kernel),lU F.entry_type_call<|az (Around.under_plain (weight_type_call_type T args []) ac) ?_⟩)
 have h1:=ft.notType
 have h2:=ft.canCreate
 repeat (any_goals (first|assumption|wp_step))
 refine LJ _ ?_
 have hli:=ft.init.lookup
 have hbi:=ft.init.bind obj
 repeat (any_goals (first|assumption|wp_step))
 refine rc (codeAny_call_builtin ft.init.plain WO (hck hi)) λaab iL Of=>?_
 induction aab with
 |error e=>exact Of
 |ok Zm=>
  induction Zm with
  |ret r=>
   refine fB Of λh hq=>?_
   subst h
   repeat (any_goals (first|assumption|wp_step))
  |_=>exact Of.elim
end
theorem CG:CH (.type "list") "keys"=bB aC:=by(rewrite[CI];refine az CJ ?_);kernel_rfl
section
variable{A:aW}{s:aq}{ρ:af ao}{st st':af O}{E:ak->aq->Prop}
theorem sW{a:ao}{xs:bj ak}{k:ag}{Q:aS ak->aq->Prop}(hx:s.heap.get? a=ae (eM xs k))(hA:A.handled=aC)(h:∀h' tk,(∀b o,s.heap.get? b=ae o->h'.get? b=ae o)->Q aC {s with heap:=h',toks:=tk}):aw (ay Wc.prog Wc.w) A (getAttr? (.ref a) "keys") Q E s:=by
 obtain⟨hp,g,d,tk,os⟩:=s;have hT:∀V8,(⟨hp,g,d,V8,os⟩:aq).TypeIs (.ref a) "list":=λ_=>⟨_,hx,ac⟩;have f1:=sub_AttributeError;have f3:=JP.lookup;have f4:=JP.bind (.ref a);have f5:=am_list_getattr_none;unfold getAttr? getAttrBy? getAttrBy;repeat (any_goals (first|assumption|exact hT _|((with_reducible show aw _ _ (cf (Value.builtin "list.__getattribute__") _ _) _ _ _);refine Cu JP (hT _) am_entry_list_getattribute (F.args_list_getattribute_2 _ _) (meets_getattribute_miss_list a xs k #[] "keys" _ CG (by decide+kernel) (by size_fits)) ⟨hx,hA,λh' V8 e hx'=>?_⟩)|wp_step))
 refine sE hx'.there λt' u' he=>?_;unfold getattributeRaised;repeat (any_goals (first|assumption|wp_step))
 exact h _ _ hx'.keeps
theorem wh(hh:A.handled=aC)(hu:A.units+20<b6){r:V}{L:ao}{i:ag}{vs:af V}{ps:af (V×V)}(R:Rel s.heap ρ st)(p:ρ[i]?=ae L)(l:st[i]?=ae (.list vs))(hp:pairsOf vs=ae ps)(q:((ps.all λp=>V.pure p.1)&&bh (ps.length<1000))=aj)(e:alloc (.dict (dictOf ps)) st=ae (r,st')):aw (ay Wc.prog Wc.w) A (cf (.type "dict") [.ref L]) (gz s ρ r st') dC s:=by
 refine tZ e ?_;simp only[cY,di,eH] at q;replace l:=(CE hp)▸l;refine lC (R.list p l) λitems n hd rr=>?_;have hD:(s.heap.push {cls:=.type "dict",data:=.dict #[]}).get? s.heap.objs.size=ae (cV #[] 0):=cT _ ac;have hL:(s.heap.push {cls:=.type "dict",data:=.dict #[]}).get? L=ae (eM items n):=bW _ hd;refine bG s.heap.objs.size (aP _) (ry CK (Sl _) So (λCF q=>kt_code_dict_new _ q) ⟨_,hD,ac⟩ (λq=>CK.init.check _ _ _ _ _ _ _ _ ⟨_,hD,ac⟩ (Sp _ _) q) ?_);unfold Sq;refine au ?_;unfold Sr;refine au (qY ⟨_,hD,ac⟩<|wpAny_pure (?_:aw _ _ (CL "dict.__init__" s.heap.objs.size (.ref L) [] .none) _ _ _));unfold CL;refine au (pJ ⟨_,hL,ac⟩<|az (aF (by decide))<|wpAny_bind (bG _ (aP _) (sW (A:=_) hL (by trivial) λh1 tk LI sz1=>?_)));refine az (aF (ac))<|wpAny_bind (fN ?_);have hD1:=LI _ _ hD;have hL1:=LI _ _ hL;refine au (JA (cQ hL1) ?_);show aw _ _ (bB _) _ _ _;refine aD ⟨ni jx _,?_⟩;have sH:s.heap.objs.size<=h1.objs.size:=lT (by simp) sz1;have tX:s.heap.objs.size<h1.objs.size:=cB hD1;refine LH (H:=s.heap) (A:=_) (by trivial) (M8 hu ac) (cQ hd) sH (aP _) (λq=>bS _ (q▸tX)) rr (λp hp=>q.1 p hp) (tB (b9 q.2) ac) ps.length 0 _ #[] 0 (ac) (bR _)
  (λb o e=>bW _ ((λb o e=>LI b o (bW _ e)) b o e)) (lT sH (by simp)) ⟨_,cT _ ac,ac,ac⟩ (bW _ hD1) (by simp[dictOf];exact .nil) λh' Ve jc n' Gz hd2 WN=>?_
 refine⟨ac,λWE=>⟨_,mC R Gz WE Ve (aP _) hd2 (.dict (WN.mono (λb items t=>?_) (Pre.append _)) (qB _)),.ref (gN R _)⟩⟩;obtain⟨nb,m,e⟩:=t;refine⟨λhm=>?_,m,e⟩;rcases cR.mp hm with hm|hm
 ·exact nb hm
 ·rw[bX] at hm;subst hm;exact aV (bf (jW BI) (hd2.symm.trans e)) (by simp)
end
section
variable{A:aW}{s:aq}{ρ:af ao}{st st':af O}{E:ak->aq->Prop}
theorem CM{h:aO}{v':ak}{v:V}(x:VR h ρ v' v)(f:v.flat=aj):carriedByValue v'=aj:=by
 cases v<;>first|exact ff f|skip
 ·refine eh x.int_inv λt z1=>?_;subst z1;rfl
 ·refine eh x.str_inv λt z2=>?_;subst z2;rfl
theorem uv{id:aA}{d:ao}{es:bj bQ}{ep:ag}{ps:af (V×V)}{Q:bj bQ->aq->Prop}(ho:s.heap.get? d=ae (cV es ep))(he:kz s.heap ρ es.toList ps)(hf:∀p∈ps,p.1.flat=aj)(h:Q es s):aw (ay Wc.prog Wc.w) A (Ss id d) Q E s:=by
 unfold Ss;refine au (iB ho ac ?_);have Zn:(nN es lG λe (_:rz)=>(do
   let q<-Builtin.Dict.quietEq e.key
   if(!q)=aj then
    if(es.filter (·.hash==e.hash)).size>1 then(do let _<-(CN s!"{id}:keys-of-equal-hash":cX rz);bB (ir lG)) else bB (ir lG)
   else bB (ir lG):cX (Bt rz)))=bB lG:=by
  refine dm Jc<|forIn_yield_id _ λe hm c=>eh (Su hm) λi hi=>?_
  exact bH (he.get hi) λp hp q=>az (quietEq_of_byValue (CM q.key (hf p (cw hp)))) ac
 exact au (rn Zn (aD h))
inductive Vf(H:aO)(ρ:af ao)(D:ao)(ps:af (V×V))(s:aq):af ag->aq->Prop
 |mk{h':aO} {i jc n} (hi:i<=ps.length) (hd:h'.get? D=ae (cV jc n)) (he:kz h' ρ jc.toList (ps.take i)) (kp:∀b o,H.get? b=ae o->h'.get? b=ae o):Vf H ρ D ps s (xp i (ps.length-i)) {s with heap:=h'}
theorem Vf.next{H:aO}{ρ:af ao}{D:ao}{ps:af (V×V)}{s s':aq}{x:ag}{rest:af ag}(a:Vf H ρ D ps s (x::rest) s'){P:aq->Prop}(k:∀h' jc n,x<ps.length->h'.get? D=ae (cV jc n)->kz h' ρ jc.toList (ps.take x)->(∀b o,H.get? b=ae o->h'.get? b=ae o)->(∀s2,Vf H ρ D ps s (xp (x+1) (ps.length-(x+1))) s2->Vf H ρ D ps s rest s2)->P {s with heap:=h'}):P s':=by
 generalize hl:x::rest=l at a;induction a with
 |@mk h' i jc n hi hd he kp=>
  cases hk:ps.length-i with
  |zero=>rw[hk] at hl;exact aV hl (by trivial)
  |succ m=>replace hl:=hk▸hl;replace hl:=hl.trans xq;refine fB (fk hl) λz3 z4=>?_;subst z3;subst z4;exact k h' jc n (Internal.zB hk) hd he kp λs2 a=>Internal.wA hk▸a
theorem Vf.done{H:aO}{ρ:af ao}{D:ao}{ps:af (V×V)}{s s':aq}(a:Vf H ρ D ps s [] s'){P:aq->Prop}(k:∀h' jc n,h'.get? D=ae (cV jc n)->kz h' ρ jc.toList ps->(∀b o,H.get? b=ae o->h'.get? b=ae o)->P {s with heap:=h'}):P s':=by
 generalize hl:([]:af ag)=l at a;induction a with
 |@mk h' i jc n hi hd he kp=>
  cases hk:ps.length-i with
  |zero=>exact k h' jc n hd (by rwa[JO (wB hk)] at he) kp
  |succ m=>(replace hl:=hk▸hl;replace hl:=hl.trans xq);cases hl
theorem Hn{ps:af (V×V)}{p:V×V}{x:ag}(hn:cJ ps)(hp:ps[x]?=ae p):dN p.1 (ps.take x)=aC:=mW.mpr λr hr e=>by
 rcases Su hr with⟨j,hj⟩;have WQ:=(bq.mp hj).1;replace WQ:=rx▸WQ;rewrite[Sv (lR WQ (JQ _ _))] at hj;have h1:(ps.map (·.1))[j]?=ae p.1:=by(refine az (gw) ?_;refine az hj ?_);exact bf ae e
 have h2:(ps.map (·.1))[x]?=ae p.1:=by(refine az (gw) ?_;refine az hp ?_);rfl
 exact b8 (lR WQ (JQ _ _)) ((o9 (bq.mp h1).1 hn).mp (h1.trans h2.symm))
theorem AC{H h h':aO}{D:ao}(Vg:H.objs.size<=D)(sb:dH D h h')(k:∀b o,H.get? b=ae o->h.get? b=ae o):∀b o,H.get? b=ae o->h'.get? b=ae o:=
 λb o e=>(sb.2 b (b8 (lR (cB e) Vg))).trans (k b o e)
theorem Fc{nm:aA}{H:aO}{D o:ao}{es:bj bQ}{ep:ag}{ps:af (V×V)}{Q:cH->aq->Prop}(hu:A.units+8<b6)(hdo:D≠o)(hoS:(o==gk)=aQ)(kp:∀b o,H.get? b=ae o->s.heap.get? b=ae o)(Vg:H.objs.size<=D)(hd:s.heap.get? D=ae (cV #[] 0))(ho:H.get? o=ae (cV es ep))(he:kz H ρ es.toList ps)(hn:cJ ps)(hf:∀p∈ps,p.1.flat=aj)(hz:ps.length<16777216)(hQ:∀h' jc n,(∀b o,H.get? b=ae o->h'.get? b=ae o)->h'.get? D=ae (cV jc n)->kz h' ρ jc.toList ps->Q () {s with heap:=h'}):aw (ay Wc.prog Wc.w) A (Sw nm D o) Q E s:=by
 have hlen:ps.length=es.size:=by have:=he.length;exact km ‹_›
 unfold Sw;refine az (aG (by exact nD ‹_›)) ?_;unfold CO;refine az (aG (by refine az hoS ?_;exact cE)) ?_;refine au (aD<|wpAny_bind (iB (kp _ _ ho) ac ?_));have loop:aw (ay Wc.prog Wc.w) A (do
   let Zo<-BM o
   let l<-dictEntries o
   nN [:l.size] lG λi (_:rz)=>(do
    let l'<-dictEntries o
    match l'[i]? with
     |some e=>do
      lN [e.key,e.val] (wY D e.key e.hash e.val)
      let ep'<-BM o
      if(ep' !=Zo)=aj then do
        (CN (toString nm++toString ":source-changed-during-callback"):cX rz)
        bB (ir lG)
       else bB (ir lG)
     |_=>do
      (CN "internal:dict-merge":cX rz)
      bB (ir lG):cX (Bt rz))
   bB ()) Q E s:=by
  refine au (lH (kp _ _ ho) ac<|wpAny_bind (iB (kp _ _ ho) ac<|wpAny_bind ?_))
  rw[wf]
  simp only[wn,Nat.sub_zero,Nat.add_sub_cancel,Nat.div_one]
  refine wpAny_forIn_list _ (λrest _ s'=>Vf H ρ D ps s rest s') _ (λx rest b s' a=>a.next λh' jc n jE sQ ND WR go=>au (iB (WR _ _ ho) ac ?_)) (λb s' a=>a.done λh' jc n sQ ND WR=>aD (hQ h' jc n WR sQ ND)) _ _ (hlen▸.mk (i:=0) (bR _) hd .nil kp)
  have Sx:x<es.size:=hlen▸jE
  refine az (jK Sx) ?_
  refine bH (he.get (i:=x) (e:=es[x]) (by(refine az (dS) ?_;exact(jK Sx)))) λp hp q=>?_
  have V8:=eR (ρ:=ρ) WR
  refine((az q.hash ?_):aw _ _ (lN [es[x].key,es[x].val] (wY D es[x].key es[x].hash es[x].val)>>=_) _ _ _)
  have hno:cJ (ps.take x):=by unfold cJ;exact az JR (hn.sublist (Sy _ _))
  refine au (cy (wg (s:={s with heap:=h'}) hu q.pure (q.key.mono V8 Pre.refl) (q.val.mono V8 Pre.refl) sQ ND hno (lT (Sz _ _) (bz (lR jE (bz hz)))) λZb aaU n'' sb aac Zq=>?_))
  have Zr:=AC Vg sb WR
  refine au (lH (Zr _ _ ho) ac<|az (aG (by simp)) ?_)
  rw[kA,Hn hn hp] at Zq
  refine aD (go _ (.mk jE aac (az uq<|az hp ?_) Zr))
  rewrite[CB]
  exact Zq.mono (mD sb sQ (.inl ⟨_,_,ac⟩)) Pre.refl
 dsimp only;split
 ·refine au (iB hd ac<|az (aF (ac))<|wpAny_bind (uv (kp _ _ ho) (he.mono (eR kp) Pre.refl) hf ?_));split
  ·refine au (wpAny_updateDictKeysTo hd ac (aD (hQ _ es 1 (AC Vg (dF ..) kp) (gG _ hd ac) ?_)) (by have j2:=jR (n:=es.size) (hlen▸bz hz);exact lT j2 (bc _ _)));exact(he.mono (eR kp) Pre.refl).mono (mD (dF ..) hd (.inl ⟨_,_,ac⟩)) Pre.refl
  ·rename_i tX;have h0:es=#[]:=Array.isEmpty_iff.mp (by simpa using tX);subst h0;exact aD (hQ _ #[] 0 kp hd<|he.mono (eR kp) Pre.refl)
 ·exact loop
theorem wi(hb:gk<Wc.h₀.objs.size)(hu:A.units+20<b6){r:V}{d:ao}{i:ag}{ps:af (V×V)}(R:Rel s.heap ρ st)(p:ρ[i]?=ae d)(l:st[i]?=ae (.dict ps))(q:((ps.all λp=>V.flat p.1)&&bh (ps.length<16777216))=aj)(e:alloc (.dict ps) st=ae (r,st')):aw (ay Wc.prog Wc.w) A (cf (.type "dict") [.ref d]) (gz s ρ r st') dC s:=by
 refine tZ e ?_;simp -iota only[cY,di,eH] at q;refine kS (R.dict p l) λes n hd he hn=>?_;have hD:(s.heap.push {cls:=.type "dict",data:=.dict #[]}).get? s.heap.objs.size=ae (cV #[] 0):=cT _ ac;have Jo:(s.heap.push {cls:=.type "dict",data:=.dict #[]}).get? d=ae (cV es n):=bW _ hd;refine bG s.heap.objs.size (aP _) (ry CK (Sl _) So (λCF q=>kt_code_dict_new _ q) ⟨_,hD,ac⟩ (λq=>CK.init.check _ _ _ _ _ _ _ _ ⟨_,hD,ac⟩ (Sp _ _) q) ?_);unfold Sq;refine au ?_;unfold Sr;refine au (qY ⟨_,hD,ac⟩<|wpAny_pure ?_);show aw _ _ (CL "dict.__init__" s.heap.objs.size (.ref d) [] .none) _ _ _;unfold CL;refine au (pJ ⟨_,Jo,ac⟩<|az (aG (by decide))<|wpAny_bind ?_);unfold Builtin.Dict.merge;refine au ?_;unfold Builtin.Dict.readDirectly;refine au (o7 ⟨_,Jo,ac⟩ isSubtype_dict_dict ?_);simp -iota only[vc,jN,iA];refine au (qU ⟨_,Jo,ac⟩ JS.lookup (aD ?_));simp -iota only[gE,m7];refine au (aD<|Fc (H:=s.heap) (M8 (d:=9) (M8 hu ac) ac) (λq=>bS _ (q▸cB hd)) (R.qX hb p) (λb o e=>bW _ e) (aP _) hD hd he hn q.1 q.2 λh' jc n' Gz hd2 WN=>?_);refine au (aD (aD ⟨ac,λWE=>⟨_,mC R Gz WE _ (aP _) hd2 (.dict (WN.mono (λb items t=>?_) (Pre.append _)) hn),.ref (gN R _)⟩⟩));obtain⟨nb,m,e⟩:=t;refine⟨λhm=>?_,m,e⟩;rcases cR.mp hm with hm|hm
 ·exact nb hm
 ·rw[bX] at hm;subst hm;rw[hd2] at e;exact aV (bf (jW BI) e) (by simp)
end
section
variable{n:ag}{A:aW}{s:aq}{ρ:af ao}{st st':af O}{env:bD}{sc:aX}{m:Env}
theorem AD(ok:Wc.Ok)(IH:b7 n){f f2:aA}{F F2:ak}{e:aK}{p:PE}{fp Zs pos uw:bu}{Q:ak->aq->Prop}(hb:(f,F)∈kI)(pl:kK F)(Ye:(f2,F2)∈kI)(pl2:kK F2)(g1:sr sc f)(g2:sr sc f2)(te:TE sc e p)(ns:noStar e=aj)(rm:dO n A)(R:Rel s.heap ρ st)(N:cD s.heap ρ env sc m){v:V}{d4:af O}(e1:(run Wc.G n).ev p m st=ae (v,d4))(h:∀v' s1 d0,Good mA s ρ d4 s1 d0->VR s1.heap d0 v' v->aw (ay Wc.prog Wc.w) A (cf F2 [v']) (λu s2=>(∀b o,s1.heap.get? b=ae o->s2.heap.get? b=ae o)/\aw (ay Wc.prog Wc.w) A (cf F [u]) Q dC s2) dC s1):aw (ay Wc.prog Wc.w) A (bw (.Call (.Name (aB f) fp) [.Call (.Name (aB f2) Zs) [e] [] uw] [] pos) env) Q dC s:=by refine q9 (jA ok R N g1 (EX ok hb) (eo (T:=λ_ _=>iZ) pl (.cons (p:=p) bp ac .nil)<|wpAny_items_cons (q9 (jA ok R N g2 (EX ok Ye) (eo pl2 (.cons te ns .nil) (EY IH te ns rm R N e1 λv' s1 d0 q1 x1=>⟨q1.rel.base,wm (h v' s1 d0 q1 x1) λu s2 ⟨k,hc⟩=>xc ⟨λb o e=>k b o (q1.rel.base b o e),hc⟩⟩)))) (by rfl)))
theorem LK{h:aO}{ρ:af ao}{acc:bj ak}{k:ag}(x:ItemsOf (λi v=>∃t,v=Cw ((0:aJ)+i*1) t) acc k):eB h ρ acc.toList ((c5 k).map λ(j:ag)=>V.int j):=by
 refine fB x λhs hx=>?_
 have:∀(l:af ak)(a:ag),(∀j v,l[j]?=ae v->∃t,v=Cw ((a+j:ag):aJ) t)->eB h ρ l ((xp a l.length).map λ(j:ag)=>V.int j):=by
  intro l;induction l with
  |nil=>intro a _;exact .nil
  |cons v l ih=>intro a hv;refine eh (hv 0 v ac) λt z1=>?_;subst z1;exact az iD<|az xq<|az eL<|.cons (.int _ _) (ih (a+1) λj u e=>eh (hv (j+1) u (‹_›)) λt' z2=>z2▸⟨t',by(refine az (show a+(j+1)=a+1+j by lia) ?_;rfl)⟩)
 have q:=this acc.toList 0 λj v e=>by replace e:=(dS)▸e;exact eh (hx j v e) λt z3=>z3▸⟨t,by congr 1;simp⟩
 replace q:=(by trivial:acc.toList.length=k)▸q;exact((km SD)▸q)
theorem wj(ok:Wc.Ok)(IH:b7 n)(hh:A.handled=aC){e:aK}{p:PE}{fp Zs pos uw:bu}(g1:sr sc "list")(g2:sr sc "range")(te:TE sc e p)(ns:noStar e=aj)(rm:dO n A)(R:Rel s.heap ρ st)(N:cD s.heap ρ env sc m){v r:V}{d4:af O}(e1:(run Wc.G n).ev p m st=ae (v,d4))(e2:iV "listRange" v d4=ae (r,st')):aw (ay Wc.prog Wc.w) A (bw (.Call (.Name (aB "list") fp) [.Call (.Name (aB "range") Zs) [e] [] uw] [] pos) env) (gz s ρ r st') dC s:=by refine AD ok IH (F:=.type "list") (F2:=.type "range") (by decide) fP (by decide) fP g1 g2 te ns rm R N e1 λv' s1 d0 q1 x1=>bb (e2) λk hk e=>bC e λhf e=>iM e λ_=>x1.jz hk λt=>?_;simp only[fits,cY,di] at hf;refine call_range_1 ⟨λb o e=>bW _ e,?_⟩;have gp:=ig q1.rel {cls:=.type "range",data:=.fields #[.int 0 s1.toks,.int k t,.int 1 (s1.toks+1)]} (s1.toks+1+1);exact bG _ (aP _) (call_list_range (n:=k.toNat) hh (Sa ..) (small_one (by trivial) (by trivial) (vk (by decide) (vl hf.1.1)) (yz hf.1.2 (by decide))) (by rw[rangeSize_one];split<;>lia) (Int.toNat_le.mpr (vk hf.2 (by decide))) λh' tk acc c' kp ha aad sz=>⟨_,q1.trans (gp.trans (mC gp.rel kp sz tk (aP _) ha (o:=.list ((c5 k.toNat).map λ(j:ag)=>V.int j)) (.list (LK aad)))),.ref (gN gp.rel _)⟩)
end
noncomputable def Ok(lt:ag->ag->aY)(n:ag){α:Type}:KasT α->(α->Prop)->Prop
 |.ret a,Q=>Q a
 |.ask i j k,Q=>i<n/\j<n/\Ok lt n (k (lt i j)) Q
section
variable{lt:ag->ag->aY}{n:ag}
theorem Ok.mono{α:Type}{Q Q':α->Prop}(hq:∀a,Q a->Q' a):∀{t:KasT α},Ok lt n t Q->Ok lt n t Q'
 |.ret a,h=>hq a h
 |.ask i j k,h=>⟨h.1,h.2.1,Ok.mono hq h.2.2⟩
theorem Ok.bind{α β:Type}{f:α->KasT β}{Q:β->Prop}:∀{t:KasT α},Ok lt n t (λa=>Ok lt n (f a) Q)->Ok lt n (t.bind f) Q
 |.ret a,h=>h
 |.ask i j k,h=>⟨h.1,h.2.1,Ok.bind h.2.2⟩
theorem Ok.wp{α:Type}{cmp:ag->ag->(aY->aq->Prop)->aq->Prop}{s:aq}(hc:∀i j,i<n->j<n->∀C:aY->aq->Prop,C (lt i j) s->cmp i j C s){Q:α->Prop}{Q':α->aq->Prop}(hq:∀a,Q a->Q' a s):
  ∀{t:KasT α},Ok lt n t Q->t.kasWp cmp Q' s
 |.ret a,h=>hq a h
 |.ask i j k,h=>hc i j h.1 h.2.1 _ (Ok.wp hc hq h.2.2)
structure GA(lt:ag->ag->aY)(n:ag):Prop where
 Og:∀i j,i<n->j<n->lt i j=aj->lt j i=aQ
 trans:∀i j k,i<n->j<n->k<n->lt i j=aj->lt j k=aj->lt i k=aj
 Yg:∀i j,i<n->j<n->i≠j->lt i j=aj\/lt j i=aj
noncomputable def gp(p:bj ag)(i:ag):ag:=p.getD i 0
structure Pm(p:bj ag)(n:ag):Prop where
 perm:p.toList.Perm (c5 n)
variable{p:bj ag}
theorem Pm.size(P:Pm p n):p.size=n:=by have:=P.perm.length_eq;simpa using this
theorem nR{p:bj ag}{i:ag}(h:i<p.size):p[i]?=ae (gp p i):=by rw[jK h,gp,JT,tO h];rfl
theorem Pm.under(P:Pm p n){i:ag}(h:i<n):gp p i<n:=by have:=nR (p:=p) (i:=i) (by rw[P.size];exact h);simpa using(P.perm.subset (cw (((dS)).trans this)))
theorem Pm.inj(P:Pm p n){i j:ag}(hi:i<n)(hj:j<n)(e:gp p i=gp p j):i=j:=by have a:=nR (p:=p) (i:=i) (by rw[P.size];exact hi);have b:=nR (p:=p) (i:=j) (by rw[P.size];exact hj);rw[<-dS] at a b;exact(o9 (by rw[jL,P.size];exact hi) (P.perm.nodup_iff.mpr Rd)).mp (by rw[a,b,e])
theorem GA.at(T:GA lt n)(P:Pm p n){i j:ag}(hi:i<n)(hj:j<n)(ne:i≠j)(h:lt (gp p i) (gp p j)=aQ):lt (gp p j) (gp p i)=aj:=by
 rcases T.Yg _ _ (P.under hi) (P.under hj) (λe=>ne (P.inj hi hj e)) with q|q
 ·replace q:=h▸q;exact ff q
 ·exact q
noncomputable def Up(lt:ag->ag->aY)(p:bj ag)(b:ag):Prop:=∀i j,i<j->j<b->lt (gp p i) (gp p j)=aj
noncomputable def Dn(lt:ag->ag->aY)(p:bj ag)(b:ag):Prop:=∀i j,i<j->j<b->lt (gp p j) (gp p i)=aj
theorem GA.flip(T:GA lt n):GA (λi j=>lt j i) n:=⟨λi j hi hj h=>T.Og j i hj hi h,λi j k hi hj hk h h'=>T.trans k j i hk hj hi h' h,λi j hi hj ne=>(T.Yg i j hi hj ne).symm⟩
theorem Up.succ(T:GA lt n)(P:Pm p n){b:ag}(h1:1<=b)(hb:b<n)(u:Up lt p b)(e:lt (gp p (b-1)) (gp p b)=aj):Up lt p (b+1):=λi j u0 hj=>by
 rcases gZ j b with q|q
 ·exact u i j u0 q
 ·have lb:=pH h1 pI;rw[gT (b9 hj) q] at u0⊢;rcases gZ i (b-1) with q2|q2
  ·exact T.trans _ _ _ (P.under (hF u0 hb)) (P.under (hF lb hb)) (P.under hb) (u i (b-1) q2 lb) e
  ·rw[gT (ux u0) q2];exact e
theorem Dn.succ(T:GA lt n)(P:Pm p n){b:ag}(h1:1<=b)(hb:b<n)(u:Dn lt p b)(e:lt (gp p b) (gp p (b-1))=aj):Dn lt p (b+1):=Up.succ T.flip P h1 hb u e
theorem mid{a b:ag}(h:a<b):a<=(a+b)/2/\(a+b)/2<b:=⟨(Nat.le_div_iff_mul_le Nat.two_pos).mpr (CP a▸eD (bz h) a),Nat.div_lt_of_lt_mul (Nat.two_mul b▸Nat.add_lt_add_right h b)⟩
theorem Oh{l m r f:ag}(m1:l<=m)(m2:m<r)(h:r-l<=f+1):m-l<=f/\r-(m+1)<=f:=⟨b9 (lR (SF m1 m2) h),b9 (lR (uf (rL m1 m2) (CQ m1)) h)⟩
theorem Vh{m f n:ag}(h:m+(f+1)<=n):m<n/\m-1<n/\m+1+f<=n:=⟨lR (JU (oQ f)) h,rL (kL _ _) (lR (JU (oQ f)) h),(uy m f).symm▸h⟩
theorem Oi(T:GA lt n)(P:Pm p n)(f:ag):∀m,1<=m->m+f<=n->Up lt p m->Ok lt n (kas_asc p f m) (λr=>m<=r/\r<=m+f/\Up lt p r/\(r<m+f->lt (gp p r) (gp p (r-1))=aj)):=by
 induction f with
 |zero=>exactλm _ _ u=>⟨aP _,aP _,u,λh=>aV h (bS _)⟩
 |succ f ih=>
  intro m h1 hf u;have a:=Vh hf;have b:=uy m f;refine⟨P.under a.1,P.under a.2.1,?_⟩;show Ok lt n (if lt (gp p m) (gp p (m-1))=aj then _ else _) _;by_cases c:lt (gp p m) (gp p (m-1))=aj
  ·rw[aF c];exact⟨aP _,bc _ _,u,λ_=>c⟩
  ·rw[aG c];exact Ok.mono (λr h=>⟨rp h.1,b▸h.2.1,h.2.2.1,λq=>h.2.2.2 (b▸q)⟩) (ih (m+1) (gU 1 m) a.2.2 (u.succ T P h1 a.1 (T.at P a.1 a.2.1 (bZ (pH h1 pI)) (yO.mpr c))))
theorem SG(T:GA lt n)(P:Pm p n)(f:ag):∀m,1<=m->m+f<=n->Dn lt p m->Ok lt n (kas_desc f p m 0) (λr=>r.1=p/\r.2.2=0/\m<=r.2.1/\r.2.1<=m+f/\Dn lt p r.2.1):=by
 induction f with
 |zero=>exactλm _ _ u=>⟨ac,ac,aP _,aP _,u⟩
 |succ f ih=>
  intro m h1 hf u;have a:=Vh hf;refine⟨P.under a.1,P.under a.2.1,?_⟩;show Ok lt n (if lt (gp p m) (gp p (m-1))=aj then _ else _) _;by_cases c:lt (gp p m) (gp p (m-1))=aj
  ·rw[aF c,aG (bS 0)];exact Ok.mono (λr h=>⟨h.1,h.2.1,rp h.2.2.1,(uy m f)▸h.2.2.2.1,h.2.2.2.2⟩) (ih (m+1) (gU 1 m) a.2.2 (u.succ T P h1 a.1 c))
  ·rw[aG c];refine⟨P.under a.2.1,P.under a.1,?_⟩;show Ok lt n (if lt (gp p (m-1)) (gp p m)=aj then _ else _) _;rw[aF (T.at P a.1 a.2.1 (bZ (pH h1 pI)) (yO.mpr c))];exact⟨ac,ac,aP _,bc _ _,u⟩
theorem Oj{m:ag}(hm:m<=p.size){k:ag}(hk:k<p.size):gp (CR p 0 m) k=if k<m then gp p (m-1-k) else gp p k:=by
 have h:=getElem?_mirror_all (xs:=p) (i:=0) hm k;replace h:=(show mirror p 0 m ((m-0)/2)=CR p 0 m from ac)▸h;rewrite[nR (by rw[kas_rev_size];exact hk)] at h;by_cases q:k<m
 ·have lt:0+m-1-k<p.size:=by rw[rq];exact lR (rL (kL _ _) (pH (rL (bR k) q) pI)) hm
  rw[aF ⟨bR _,q⟩,nR lt] at h;rw[aF q];injection h with h;exact h.trans (bf (λz=>gp p (z-1-k)) (rq m))
 ·rewrite[aG λz=>q z.2] at h;rw[aG q];injection (h.trans (nR hk))
theorem Pm.rev(P:Pm p n)(i j:ag):Pm (CR p i j) n:=⟨(WS.mp (mirror_perm p i j _)).trans P.perm⟩
theorem Dn.rev(P:Pm p n){m:ag}(hm:m<=n)(d:Dn lt p m):Up lt (CR p 0 m) m:=λi j u0 hj=>by have wE:m<=p.size:=P.size.symm▸hm;have hi:=hF u0 hj;rw[Oj wE (lR hi wE),Oj wE (lR hj wE),aF hi,aF hj];exact d _ _ (uf (lR u0 (ux hj)) u0) (rL (kL _ _) (pH (JV hj) pI))
noncomputable def Run(lt:ag->ag->aY)(n:ag)(r:ag×bj ag):Prop:=Pm r.2 n/\1<=r.1/\r.1<=n/\Up lt r.2 r.1
theorem Ol(T:GA lt n)(P:Pm p n){m:ag}(h1:1<=m)(hm:m<=n)(d:Dn lt p m):Ok lt n (kas_tail3 m n p) (Run lt n):=
 have e:=wO hm
 Ok.bind (Ok.mono (λr h=>⟨P.rev 0 m,lT h1 h.1,lT h.2.1 (bJ e),h.2.2.1⟩) (Oi T (P.rev 0 m) (n-m) m h1 (bJ e) (d.rev P hm)))
theorem Fd(T:GA lt n)(P:Pm p n){m:ag}(h1:1<=m)(hm:m+1<=n)(d:Dn lt p m)(e:lt (gp p m) (gp p (m-1))=aj):Ok lt n (kas_descPart m n p) (Run lt n):=by
 have e':=wO hm;refine Ok.bind (Ok.mono (λr h=>?_) (SG T P (n-(m+1)) (m+1) (gU 1 m) (bJ e') (d.succ T P h1 hm e)));obtain⟨a,b,c,g,u⟩:=h
 (refine az b ?_;refine az (aG (bS 0)) ?_;refine az a ?_;try rfl)
 exact Ol T P (lT (gU 1 m) c) (lT g (bJ e')) u
theorem Om(T:GA lt n)(P:Pm p n)(h1:1<=n):Ok lt n (kas_count n p) (Run lt n):=by
 have e':=wO h1;have lo:∀{i j:ag},i<j->¬j<1:=λh q=>fM _ (lR h (b9 q));refine Ok.bind (Ok.mono (λr h=>?_) (Oi T P (n-1) 1 (aP _) (bJ e') (λi j u0 hj=>aV hj (lo u0))));obtain⟨a,b,u,e⟩:=h;rw[e'] at b e;by_cases q:(r==n)=aj
 ·rw[aF q];exact⟨P,a,b,u⟩
 ·rw[aG q];have hr:r<n:=nj b λz=>q (z▸gE _);by_cases q2:r>1
  ·rw[aF q2];have q3:r-1<r:=pH a pI;refine⟨P.under h1,P.under (hF q3 hr),?_⟩;show Ok lt n (if lt (gp p 0) (gp p (r-1))=aj then _ else _) _;rw[aF (u 0 (r-1) (ux q2) q3)];exact⟨P,a,b,u⟩
  ·rw[aG q2];have z:r=1:=gT (xr q2) a;subst z;exact Fd T P (aP _) hr (λi j u0 hj=>aV hj (lo u0)) (e hr)
theorem Oo(T:GA lt n)(P:Pm p n){k:ag}(hk:k<n)(u:Up lt p k)(f:ag):∀l r,l<=r->r<=k->r-l<=f->(∀i,i<l->lt (gp p i) (gp p k)=aj)->(∀i,r<=i->i<k->lt (gp p k) (gp p i)=aj)->Ok lt n (kas_place p k f l r) (λq=>q<=k/\(∀i,i<q->lt (gp p i) (gp p k)=aj)/\(∀i,q<=i->i<k->lt (gp p k) (gp p i)=aj)):=by
 induction f with
 |zero=>exactλl r h1 h2 h3 ha hb=>⟨lT h1 h2,ha,λi hi=>hb i (lT (wB (kO.mp h3)) hi)⟩
 |succ f ih=>
  intro l r h1 h2 h3 ha hb;refine(?_:Ok lt n (if l>=r then _ else _) _);by_cases q:l>=r
  ·rw[aF q];exact⟨lT h1 h2,ha,λi hi=>hb i (lT q hi)⟩
  ·rw[aG q];have w:=mid (Nat.lt_of_not_ge q);obtain⟨m,hm⟩:∃m,(l+r)/2=m:=⟨_,ac⟩;replace w:=hm▸w;have m1:=w.1;have m2:=w.2;have m3:=(Oh m1 m2 h3).2;have m4:=(Oh m1 m2 h3).1
   (refine az hm ?_;try rfl)
   have mk:=lR m2 h2;have mn:=hF mk hk;refine⟨P.under (i:=k) hk,P.under (i:=m) mn,?_⟩;show Ok lt n (if lt (gp p k) (gp p m)=aj then _ else _) _;cases c:lt (gp p k) (gp p m) with
   |true=>
    rw[aF ac];refine ih l m m1 (bz mk) m4 ha λi hi wP=>?_;rcases xt hi with g|g
    ·exact T.trans _ _ _ (P.under hk) (P.under mn) (P.under (hF wP hk)) c (u _ _ g wP)
    ·exact g▸c
   |false=>
    rw[aG cE];have c2:=T.at P hk mn (bZ mk) c;refine ih (m+1) r m2 h2 m3 (λi hi=>?_) hb;rcases xt (b9 hi) with g|g
    ·exact T.trans _ _ _ (P.under (hF g mn)) (P.under mn) (P.under hk) (u _ _ g mk) c2
    ·exact g▸c2
theorem LL{k d:ag}(hk:k<p.size)(hd:d<=k){i:ag}(hi:i<p.size):gp (rA p k d) i=if i=k-d then gp p k else if k-d<i/\i<=k then gp p (i-1) else gp p i:=by
 have h:=getElem?_bubble hk d hd i;rewrite[nR (by rw[bubble_size];exact hi)] at h;replace h:=(nR hk)▸h;replace h:=(nR (i:=i) hi)▸h;rewrite[nR (i:=i-1) (rL (kL _ _) hi)] at h;split at h
 ·rename_i q;rw[aF q];injection h
 ·rename_i q;rw[aG q];split at h
  ·rename_i q2;rw[aF q2];injection h
  ·rename_i q2;rw[aG q2];injection h
theorem Pm.bubble(P:Pm p n)(k d:ag):Pm (rA p k d) n:=⟨(WS.mp (bubble_perm p k d)).trans P.perm⟩
theorem Up.put(P:Pm p n){k l:ag}(hk:k<n)(hl:l<=k)(u:Up lt p k)(ha:∀i,i<l->lt (gp p i) (gp p k)=aj)(hb:∀i,l<=i->i<k->lt (gp p k) (gp p i)=aj):Up lt (rA p k (k-l)) (k+1):=by
 have hs:=P.size;have at_:∀{i},i<=k->gp (rA p k (k-l)) i=if i=l then gp p k else if l<i/\i<=k then gp p (i-1) else gp p i:=λ{i} hi=>by rw[LL (by rw[hs];exact hk) (kL _ _) (by rw[hs];exact rL hi hk),(Nat.sub_sub_self hl)]
 have lo:∀{i},i<l->gp (rA p k (k-l)) i=gp p i:=λ{i} hi=>by rw[at_ (lT (bz hi) hl),aG (b8 hi),aG λh=>CS hi h.1]
 have up:∀{i},l<i->i<=k->gp (rA p k (k-l)) i=gp p (i-1):=λ{i} h1 h2=>by rw[at_ h2,aG (bZ h1),aF ⟨h1,h2⟩]
 have mid:gp (rA p k (k-l)) l=gp p k:=by rw[at_ hl,aF ac]
 intro i j u0 hj;have hj:=b9 hj;rcases rB j l with q|q|q
 ·rw[lo (hF u0 q),lo q];exact u i j u0 (lR q hl)
 ·replace q:=q.symm;subst q;rw[lo u0,mid];exact ha i u0
 ·rw[up q hj];have j1:j-1<k:=lR (pH (JV u0) pI) hj;rcases rB i l with r|r|r
  ·rw[lo r];exact u _ _ (lR r (ux q)) j1
  ·replace r:=r.symm;subst r;rw[mid];exact hb _ (ux q) j1
  ·rw[up r (lT (bz u0) hj)];exact u _ _ (SF (JV r) u0) j1
theorem Oq(T:GA lt n):∀(f:ag)(p:bj ag)(k:ag),Pm p n->k+f=n->Up lt p k->Ok lt n (kas_bin f p k) (λq=>Pm q n/\Up lt q n)
 |0,p,k,P,e,u=>⟨P,e▸u⟩
 |f+1,p,k,P,e,u=>
  have hk:k<n:=e▸JU (oQ f)
  Ok.bind (Ok.mono (λl h=>Oq T f _ (k+1) (P.bubble k (k-l)) ((uy k f).trans e) (Up.put P hk h.1 u h.2.1 h.2.2)) (Oo T P hk u k 0 k (bR _) (aP _) (kL _ _) (λi hi=>aV hi (fM _)) λi hi wP=>aV wP (nh.mpr hi)))
theorem SH(T:GA lt n)(h1:1<=n):Ok lt n (uz n) (λq=>Pm q n/\Up lt q n):=by
 refine Ok.bind (Ok.mono (λr h=>?_) (Om T (⟨by simp⟩) h1));obtain⟨P',a,b,u⟩:=h;by_cases q:r.1<n
 ·rw[aF q,Nat.max_eq_left a];exact Oq T _ _ _ P' (wO b) u
 ·rw[aG q];exact⟨P',gT b (xr q)▸u⟩
theorem WT(e:lt 1 0=aQ):Ok lt 2 (uz 2) (λq=>q=#[0,1]):=by refine⟨by decide,by decide,?_⟩;show Ok lt 2 ((KasT.bind (if lt 1 0=aj then _ else _) _).bind _) _;rw[e];exact ac
end
structure Lx{α:Type}(f:af α->af α->aY)(l:α->α->aY):Prop where
 nn:f [] []=aQ
 nc:∀b bs,f [] (b::bs)=aj
 cn:∀a as,f (a::as) []=aQ
 same:∀{a b as bs},a=b->f (a::as) (b::bs)=f as bs
 diff:∀{a b as bs},a≠b->f (a::as) (b::bs)=l a b
section
variable{α:Type}{f:af α->af α->aY}{l:α->α->aY}
theorem Lx.Og(x:Lx f l):∀as,(∀a∈as,∀b,l a b=aj->l b a=aQ)->∀bs,f as bs=aj->f bs as=aQ:=by
 intro as;induction as with
 |nil=>exactλ_ bs _=>by induction bs<;>first|exact x.nn|exact x.cn _ _
 |cons a as ih=>
  intro H bs h;induction bs with
  |nil=>exact ff ((x.cn _ _).symm.trans h)
  |cons b bs=>exact(yf (a=b)).elim (λe=>(x.same e.symm).trans (ih (λa m=>H a (.tail _ m)) bs ((x.same e).symm.trans h))) λe=>(x.diff (dK e)).trans (H a (.head _) b ((x.diff e).symm.trans h))
theorem Lx.step(x:Lx f l){a b c:α}{as bs cs:af α}(H1:l a b=aj->l b a=aQ)(H2:l a b=aj->l b c=aj->l a c=aj)(ih:f as bs=aj->f bs cs=aj->f as cs=aj)(h:f (a::as) (b::bs)=aj)(g:f (b::bs) (c::cs)=aj):f (a::as) (c::cs)=aj:=
 (yf (a=b)).elim (λe=>(yf (b=c)).elim (λd=>(x.same (e.trans d)).trans (ih ((x.same e).symm.trans h) ((x.same d).symm.trans g))) λd=>az e ((x.diff d).trans ((x.diff d).symm.trans g)))
  λe=>have h:=(x.diff e).symm.trans h;(yf (b=c)).elim (λd=>dm d ((x.diff e).trans h)) λd=>have g:=(x.diff d).symm.trans g;(x.diff (a:=a) (b:=c) λq=>ff ((H1 h).symm.trans (show l b a=aj from az q g))).trans (H2 h g)
theorem Lx.trans(x:Lx f l):∀as,(∀a∈as,(∀b,l a b=aj->l b a=aQ)/\∀b c,l a b=aj->l b c=aj->l a c=aj)->∀bs cs,f as bs=aj->f bs cs=aj->f as cs=aj:=by
 intro as;induction as with
 |nil=>
  intro _ bs cs h g;induction cs with
  |cons=>exact x.nc _ _
  |nil=>induction bs with|nil=>exact h|cons=>exact ff ((x.cn _ _).symm.trans g)
 |cons a as ih=>
  intro H bs cs h g;induction bs with
  |nil=>exact ff ((x.cn _ _).symm.trans h)
  |cons b bs=>
  induction cs with
  |nil=>exact ff ((x.cn _ _).symm.trans g)
  |cons c cs=>exact x.step ((H a (.head _)).1 b) ((H a (.head _)).2 b c) (ih (λa m=>H a (.tail _ m)) bs cs) h g
theorem Lx.Yg(x:Lx f l){c:af α->af α->Prop}{k:α->α->Prop}(cs:∀{a b as bs},a=b->c (a::as) (b::bs)->c as bs)(cd:∀{a b as bs},a≠b->c (a::as) (b::bs)->k a b):∀as,(∀a∈as,∀b,k a b->a≠b->l a b=aj\/l b a=aj)->∀bs,c as bs->as≠bs->f as bs=aj\/f bs as=aj:=by
 intro as;induction as with
 |nil=>exactλ_ bs _ n=>by induction bs<;>first|exact aV ac n|exact .inl (x.nc _ _)
 |cons a as ih=>
  intro H bs h n;induction bs with
  |nil=>exact .inr (x.nc _ _)
  |cons b bs=>exact(yf (a=b)).elim (λe=>(ih (λa m=>H a (.tail _ m)) bs (cs e h) λq=>n (congr (bf Nr e) q)).imp (x.same e).trans (x.same e.symm).trans) λe=>(H a (.head _) b (cd e h) e).imp (x.diff e).trans (x.diff (dK e)).trans
end
theorem Ho:Lx ltCps λa b=>bh (a<b) where
 nn:=ac
 nc _ _:=ac
 cn _ _:=ac
 same {a b as bs} e:=show(bh (a<b)||(a==b&&ltCps as bs))=_ by(refine az (jp.mpr e) ?_;refine az (t6 (cU (bJ e.symm))) ?_;rfl)
 diff {a b as bs} n:=show(bh (a<b)||(a==b&&ltCps as bs))=_ by(refine az (jG.mpr n) ?_;exact Ot _)
theorem uA(a b:V)(as bs:af V):V.Ql (a::as) (b::bs)=if V.beq a b then V.Ql as bs else V.lt a b:=ac
theorem Hp:Lx V.Ql V.lt where
 nn:=ac
 nc _ _:=ac
 cn _ _:=ac
 same e:=(uA ..).trans (aF (V.beq_iff.mpr e))
 diff n:=(uA ..).trans (aG λq=>n (V.eq_of_beq _ _ q))
noncomputable def V.mem:V->af V
 |.tup vs=>vs
 |_=>[]
theorem V.ind{P:V->Prop}(h:∀v,(∀u∈v.mem,P u)->P v)(v:V):P v:=
 have n:∀u∈[],P u:=λ_ m=>aV m gu
 V.rec (motive_1:=P) (motive_2:=λvs=>∀u∈vs,P u) (h _ n) (λ_=>h _ n) (λ_=>h _ n) (λ_=>h _ n) (λvs=>h (.tup vs)) (λ_=>h _ n) n (λ_ _ a b _ m=>(ci.mp m).elim (λe=>e▸a) (b _)) v
@[elab_as_elim]theorem vt{motive:V->V->Prop}{a b:V}(h:V.low a b=aj)(i:∀i j:aJ,i<j->motive (.int i) (.int j))(s:∀x y:aM,ltCps x.cps.toList y.cps.toList=aj->motive (.str x) (.str y))(t:∀as bs,V.Ql as bs=aj->motive (.tup as) (.tup bs)):motive a b:=by cases a<;>first|exact ff h|(cases b<;>first|exact ff h|exact i _ _ (cA h)|exact s _ _ h|exact t _ _ h)
@[elab_as_elim]theorem Ou{motive:V->V->Prop}{a b:V}(h:V.fV a b=aj)(i:∀i j:aJ,motive (.int i) (.int j))(s:∀x y:aM,motive (.str x) (.str y))(t:∀as bs,V.jf as bs=aj->motive (.tup as) (.tup bs)):motive a b:=by cases a<;>first|exact ff h|(cases b<;>first|exact ff h|exact i _ _|exact s _ _|exact t _ _ h)
theorem yP{a b:V}(h:V.low a b=aj):V.lt a b=aj:=by unfold V.lt;(refine az h ?_;exact Bool.or_true _)
theorem uB{a b:V}(h:V.low a b=aj):V.rank a=V.rank b:=vt h (λ_ _ _=>ac) (λ_ _ _=>ac) λ_ _ _=>ac
theorem ow{a b:V}(h:V.lt a b=aj):V.rank a<V.rank b\/V.low a b=aj:=(Nx.mp h).imp_left cA
theorem CT{a b:V}(h:V.rank a<V.rank b):V.lt a b=aj:=by unfold V.lt;refine az (eu h) ?_;rfl
theorem sX{a b:V}(H:V.low a b=aj->V.low b a=aQ)(h:V.lt a b=aj):V.lt b a=aQ:=by
 refine yO.mpr λg=>?_;rcases ow h with q|q
 ·exact(ow g).elim (λr=>CS q r) λr=>bZ q (uB r)
 ·exact(ow g).elim (λr=>bZ r (uB q)) λr=>ff ((H q).symm.trans r)
theorem vV{a b c:V}(H:V.low a b=aj->V.low b c=aj->V.low a c=aj)(h:V.lt a b=aj)(g:V.lt b c=aj):V.lt a c=aj:=by
 rcases ow h with q|q
 ·exact(ow g).elim (λr=>CT (hF q r)) λr=>CT (uB r▸q)
 ·exact(ow g).elim (λr=>CT (uB q▸r)) λr=>yP (H q r)
theorem V.Fe(a:V):∀b,V.low a b=aj->V.low b a=aQ:=
 V.ind (P:=λa=>∀b,V.low a b=aj->V.low b a=aQ) (λa ih b h=>by
  revert ih
  exact vt (motive:=λa b=>(∀u∈a.mem,∀b,V.low u b=aj->V.low b u=aQ)->V.low b a=aQ) h (λi j l _=>t6 (xW.mpr (vl l)))
   (λx y l _=>Ho.Og _ (λa _ b h=>t6 (CS (cA h))) _ l) λas bs l ih=>Hp.Og as (λa m b=>sX (ih a m b)) bs l) a
theorem V.CU(a b:V)(h:V.lt a b=aj):V.lt b a=aQ:=sX (V.Fe a b) h
theorem V.lt_irrefl(a:V):V.lt a a=aQ:=yO.mpr λh=>ff ((V.CU a a h).symm.trans h)
theorem V.LM(a:V):∀b c,V.low a b=aj->V.low b c=aj->V.low a c=aj:=
 V.ind (P:=λa=>∀b c,V.low a b=aj->V.low b c=aj->V.low a c=aj) (λa ih b c h=>by
  revert ih c
  exact vt (motive:=λa b=>(∀u∈a.mem,∀b c,V.low u b=aj->V.low b c=aj->V.low u c=aj)->∀c,V.low b c=aj->V.low a c=aj) h
   (λi j l _ c g=>vt (motive:=λb c=>V.int j=b->V.low (.int i) c=aj) g (λ_ _ l' e=>eu (yz l (V.int.inj e▸l'))) (λ_ _ _ e=>V.noConfusion e) (λ_ _ _ e=>V.noConfusion e) ac)
   (λx y l _ c g=>vt (motive:=λb c=>V.str y=b->V.low (.str x) c=aj) g (λ_ _ _ e=>V.noConfusion e) (λ_ _ l' e=>Ho.trans _ (λa _=>⟨λb h=>t6 (CS (cA h)),λb c h g=>eu (hF (cA h) (cA g))⟩) _ _ l (V.str.inj e▸l')) (λ_ _ _ e=>V.noConfusion e) ac)
   λas bs l ih c g=>vt (motive:=λb c=>V.tup bs=b->V.low (.tup as) c=aj) g (λ_ _ _ e=>V.noConfusion e) (λ_ _ _ e=>V.noConfusion e) (λ_ _ l' e=>Hp.trans as (λa m=>⟨λb=>sX (V.Fe a b),λb c=>vV (ih a m b c)⟩) _ _ l (V.tup.inj e▸l')) ac) a
theorem V.lt_trans(a b c:V)(h:V.lt a b=aj)(g:V.lt b c=aj):V.lt a c=aj:=vV (V.LM a b c) h g
theorem V.SJ(a:V):∀b,V.fV a b=aj->a≠b->V.low a b=aj\/V.low b a=aj:=
 V.ind (P:=λa=>∀b,V.fV a b=aj->a≠b->V.low a b=aj\/V.low b a=aj) (λa ih b h=>by
  revert ih
  exact Ou (motive:=λa b=>(∀u∈a.mem,∀b,V.fV u b=aj->u≠b->V.low u b=aj\/V.low b u=aj)->a≠b->V.low a b=aj\/V.low b a=aj) h
   (λi j _ n=>(Int.lt_or_gt_of_ne λq=>n (bf V.int q)).imp eu eu)
   (λx y _ n=>Ho.Yg (c:=λ_ _=>iZ) (k:=λ_ _=>iZ) (λ_ _=>bp) (λ_ _=>bp) _ (λa _ b _ n=>(JW n).imp eu eu) _ bp λq=>n (bf (λl=>V.str ⟨⟨l⟩⟩) q))
   λas bs k ih n=>Hp.Yg (c:=λa b=>V.jf a b=aj) (k:=λa b=>V.fV a b=aj) (λe h=>(aF (V.beq_iff.mpr e)).symm.trans h) (λn h=>(aG λq=>n (V.eq_of_beq _ _ q)).symm.trans h) as (λa m b k n=>(ih a m b k n).imp yP yP) bs k λq=>n (q▸ac)) a
theorem V.Ov(a b:V)(h:V.fV a b=aj)(ne:a≠b):V.lt a b=aj\/V.lt b a=aj:=(V.SJ a b h ne).imp yP yP
theorem Hq:∀{vs:af V},once vs=aj->vs.Nodup:=by
 intro l0;induction l0 with
 |nil=>exactλ_=>fh
 |cons x xs ih=>intro h;rw[once,cY,oT] at h;refine eV.mpr ⟨λm=>?_,ih h.2⟩;have j1:has x xs=aj:=GX.mpr ⟨x,m,V.beq_refl x⟩;replace h:=j1▸h;cases h.1
noncomputable def CV(vs:af V):Prop:=∀a∈vs,∀b∈vs,V.fV a b=aj
theorem Ff(x:V):∀ys,(ins x ys).Perm (x::ys):=by
 intro l0;induction l0 with
 |nil=>exact .refl _
 |cons y ys ih=>
  refine az Ei ?_;split
  ·exact .refl _
  ·exact((ih).cons y).trans (.swap x y ys)
theorem cz:∀vs,(dh vs).Perm vs:=by
 intro l0;induction l0 with
 |nil=>exact .refl _
 |cons x xs ih=>exact(Ff x _).trans ((ih).cons x)
noncomputable abbrev kD(vs:af V):Prop:=vs.Pairwise λa b=>V.lt a b=aj
theorem Hr(x:V):∀ys,(∀y∈ys,V.fV x y=aj/\x≠y)->kD ys->kD (ins x ys):=by
 intro l0;induction l0 with
 |nil=>exactλ_ _=>jQ _ _
 |cons y ys ih=>
  intro h s;refine az Ei ?_;rw[kD,rC] at s;by_cases c:V.lt x y=aj
  ·refine az (aF c)<|List.pairwise_cons.mpr ⟨λz hz=>?_,rC.mpr s⟩;rcases ci.mp hz with rfl|hz
   ·exact c
   ·exact V.lt_trans _ _ _ c (s.1 z hz)
  ·refine az (aG c)<|List.pairwise_cons.mpr ⟨λz hz=>?_,ih (λz hz=>h z (.tail _ hz)) s.2⟩;rcases ci.mp ((Ff x ys).subset hz) with rfl|hz
   ·rcases h y (.head _) with⟨a,b⟩;rcases V.Ov _ _ a b with q|q
    ·exact aV q c
    ·exact q
   ·exact s.1 z hz
theorem fi:∀vs,CV vs->vs.Nodup->kD (dh vs):=by
 intro l0;induction l0 with
 |nil=>exactλ_ _=>.nil
 |cons x xs ih=>intro c nd;rw[eV] at nd;refine Hr x _ (λy hy=>?_) (ih (λa ha b hb=>c a (.tail _ ha) b (.tail _ hb)) nd.2);have j1:=(cz xs).subset hy;exact⟨c x (.head _) y (.tail _ j1),λq=>nd.1 (q▸j1)⟩
theorem ij{a b:af V}(p:a.Perm b)(ha:kD a)(hb:kD b):a=b:=
 List.Perm.eq_of_pairwise (λx y _ _ h1 h2=>by replace h2:=(V.CU x y h1)▸h2;exact ff h2) ha hb p
noncomputable def CW(vs:af V)(i j:ag):aY:=V.lt (vs.getD i .none) (vs.getD j .none)
theorem getD_at{vs:af V}{i:ag}(h:i<vs.length):vs.getD i .none=vs[i]:=by simp[h]
theorem WU{vs:af V}(c:CV vs)(nd:vs.Nodup):GA (CW vs) vs.length where
 Og i j _ _ h:=V.CU _ _ h
 trans i j k _ _ _ h g:=V.lt_trans _ _ _ h g
 Yg i j hi hj ne:=by
  unfold CW
  exact az (getD_at hi)<|az (getD_at hj)<|V.Ov _ _ (c _ (dR hi) _ (dR hj)) λq=>ne (by
   exact(SK nd).mp q)
noncomputable def pick(vs:af V)(p:bj ag):af V:=p.toList.map λi=>vs.getD i .none
theorem LN{vs:af V}{p:bj ag}(P:Pm p vs.length):(pick vs p).Perm vs:=by
 refine(P.perm.map _).trans ?_;have j1:(c5 vs.length).map (λi=>vs.getD i .none)=vs:=by
  apply List.ext_getElem
  ·simp
  ·intro i h1 h2;simp at h1;simp[h1]
 refine az j1 ?_;rfl
theorem Fg{vs:af V}{p:bj ag}(P:Pm p vs.length)(u:Up (CW vs) p vs.length):kD (pick vs p):=by
 refine SM.mpr λi j hi hj u0=>?_;have hs:=P.size;simp -iota only[pick,be,jL] at hi hj;simp -iota only[pick,List.getElem_map,WK];have e:∀k (h:k<p.size),p[k]=gp p k:=λk h=>by(rewrite[gp,JT];refine az (tO h) ?_);rfl
 rw[e,e];exact(u i j u0 (lR hj (bJ hs)))
theorem yQ{vs:af V}(c:CV vs)(nd:vs.Nodup)(h:1<=vs.length):Ok (CW vs) vs.length (uz vs.length) (λp=>Pm p vs.length/\pick vs p=dh vs):=
 Ok.mono (λp h₀=>fB h₀ λP u=>⟨P,ij ((LN P).trans (cz vs).symm) (Fg P u) (fi vs c nd)⟩) (SH (WU c nd) h)
theorem LO(a:V):Ok (CW [a,a]) 2 (uz 2) (λp=>Pm p 2/\pick [a,a] p=dh [a,a]):=
 Ok.mono (λp e=>by
  subst e
  exact⟨⟨by decide⟩,(ite_self (c:=V.lt a a=aj) [a,a]).symm⟩) (WT (V.lt_irrefl a))
theorem Fh{vs:af V}(h:cZ vs=aj)(h1:1<=vs.length):Ok (CW vs) vs.length (uz vs.length) (λp=>Pm p vs.length/\pick vs p=dh vs):=by
 have k:=cb.mp (cb.mp h).1;have c:CV vs:=λa ha b hb=>eH.mp (eH.mp (cb.mp k.1).2 a ha) b hb;refine(Nx.mp k.2).elim (λd=>yQ c (Hq d) h1) λd=>(Eh (cA d)).elim (λz=>?_) λd=>d.elim (λz=>eh z λa z=>?_) λz=>?_
 ·exact aV (z▸h1) (by decide)
 ·exact yQ c (z▸jQ _ _) h1
 ·rcases z with⟨a,b,z⟩;by_cases e:a=b
  ·rw[z,e];exact LO b
  ·exact yQ c (z▸(by simp[e])) h1
noncomputable def zS(A:aW)(s:aq)(y x:ak)(b:aY):Prop:=
 ∀(prog:mV)(w:d7)(E:ak->aq->Prop)(Q:ak->aq->Prop),Q (.bool b) s->aw (ay prog w) A (richCompare .Lt y x) Q E s
noncomputable def CX(e l:ag->aY)(fin:aY):af ag->aY
 |[]=>fin
 |j::r=>if e j then CX e l fin r else l j
theorem Hs(l b:ao)(items dB:bj ak)(n n2:ag)(dd dd2:aS ao)(sl sl2:bj (aS ak))(e lt':ag->aY):Meets (Builtin.«tuple.__lt__» ⟨[.ref l,.ref b],[]⟩) (λA R s=>s.heap.get? l=ae {cls:=.type "tuple",dict:=dd,data:=.seq items n,slots:=sl}/\s.heap.get? b=ae {cls:=.type "tuple",dict:=dd2,data:=.seq dB n2,slots:=sl2}/\(∀j (h1:j<items.size) (h2:j<dB.size),EqAt A.in1 s items[j] dB[j] (e j))/\(∀j (h1:j<items.size) (h2:j<dB.size),(∀i,i<j->e i=aj)->e j=aQ->zS A.in1 s items[j] dB[j] (lt' j))/\R (.ok (.ret (.bool (CX e lt' (bh (items.size<dB.size)) (c5 (min items.size dB.size)))))) s):=.of_wp λprog w A R s h=>by
 obtain⟨hp,g,d,tk,os⟩:=s;refine Ys h λhl hb he Sx h=>?_;have f2:=AutoSeq1.sub_tuple_tuple;have hZ:(items.toList.zip dB.toList).length=min items.size dB.size:=by exact R0
 wp_walk using wpAny_loadPart' hl,wpAny_loadPart' hb,wpAny_forIn_list _ (λrest b s'=>b.1=aC/\s'=⟨hp,g,d,tk,os⟩/\∃i,rest=(items.toList.zip dB.toList).drop i/\(∀k,k<i->e k=aj)/\
  R (.ok (.ret (.bool (CX e lt' (bh (items.size<dB.size)) ((c5 (min items.size dB.size)).drop i))))) ⟨hp,g,d,tk,os⟩) _
 case turn=>
  rintro⟨y,x⟩ rest b s' ⟨Zt,rfl,i,hz,o6,hR⟩;have jE:i<(items.toList.zip dB.toList).length:=by
   rcases gZ i (items.toList.zip dB.toList).length with h'|h'
   ·exact h'
   ·replace hz:=(SN h')▸hz;cases hz
  have hm:i<min items.size dB.size:=hZ▸jE;have h1:i<items.size:=lR hm (JQ _ _);have h2:i<dB.size:=lR hm (SP _ _);rw[Ow jE] at hz;injection hz with hyx Zu;have hy:y=items[i]:=by have j1:=bf Prod.fst hyx;simpa using j1
  have hx:x=dB[i]:=by have j2:=bf Prod.snd hyx;simpa using j2
  subst hy hx;have hd:(c5 (min items.size dB.size)).drop i=i::(c5 (min items.size dB.size)).drop (i+1):=by simp[Ow,hm]
  rw[hd,CX] at hR;refine au (he i h1 h2 prog w _ _ ?_);cases hy:e i with
  |true=>
   replace hR:=hy▸hR;wp_walk;exact⟨ac,ac,i+1,Zu,(λk hk=>by
    rcases Nat.lt_succ_iff_lt_or_eq.mp hk with q|q
    ·exact o6 k q
    ·refine az q ?_;exact hy),‹_›⟩
  |false=>replace hR:=hy▸hR;dsimp only[WV,m7];refine au (fN<|wpAny_bind (Sx i h1 h2 o6 hy prog w _ _ ?_));wp_walk;exact⟨_,ac,‹_›⟩
 case fin=>
  rintro⟨b1,b2⟩ s' ⟨Zt,rfl,i,hz,o6,hR⟩;simp only at Zt;subst Zt;have ge:min items.size dB.size<=i:=by
   rcases gZ i (items.toList.zip dB.toList).length with h'|h'
   ·replace hz:=(Ow h')▸hz;cases hz
   ·exact hZ▸h'
  rw[SN (by exact az lP ge)] at hR;wp_walk;exact⟨_,ac,by trivial⟩
 case h=>
  exact⟨ac,ac,0,ac,(λk hk=>aV hk (fM _)),by trivial⟩
theorem ltCps_eq:∀a b:af ag,ltCps a b=bh (a<b)
 |[],[]=>by decide
 |[],_::_=>ac
 |_::_,[]=>ac
 |a::r,b::t=>by
  rewrite[ltCps]
  refine az (ltCps_eq r t) ?_
  simp -iota only[List.cons_lt_cons_iff]
  by_cases h:a<b<;>by_cases e:a=b<;>simp[h,e]
theorem Ox(e l:ag->aY)(fin:aY)(f:ag->ag):∀r:af ag,CX e l fin (r.map f)=CX (λi=>e (f i)) (λi=>l (f i)) fin r:=by
 intro l0;induction l0 with
 |nil=>exact ac
 |cons j r ih=>exact by simp -iota only[eL,CX,ih]
theorem Fi:∀vs ws:af V,CX (λj=>V.beq (vs.getD j .none) (ws.getD j .none)) (λj=>V.lt (vs.getD j .none) (ws.getD j .none)) (bh (vs.length<ws.length)) (c5 (min vs.length ws.length))=V.Ql vs ws
 |[],[]=>ac
 |[],_::_=>by(refine az wJ ?_;rewrite[Nat.zero_min]);rfl
 |_::_,[]=>by(refine az wJ ?_;rewrite[Nat.min_zero]);rfl
 |v::vs,w::ws=>by
  refine az iD<|az iD ?_
  rewrite[Q3]
  refine az Q4 ?_
  rewrite[CX,Ox]
  simp -iota only[List.getD_cons_zero,List.getD_cons_succ]
  refine az (by simp:decide (vs.length+1<ws.length+1)=decide (vs.length<ws.length))<|az (Fi vs ws) ?_
  rewrite[uA]
  rfl
section
variable{s:aq}{ρ:af ao}
theorem zS.ints(A:aW)(i j:aJ)(t u:Tok):zS A s (.int i t) (.int j u) (bh (i<j)):=λprog w E Q h=>Rl h
theorem zS.strs(A:aW)(x y:aM)(t u:Tok):zS A s (.str x t) (.str y u) (ltCps x.cps.toList y.cps.toList):=λprog w E Q h=>by refine lt_str ?_;rw[ltCps_eq] at h;exact h
theorem LP(vs:af V):∀(ws:af V),V.jf vs ws=aj->∀(j:ag)(h1:j<vs.length)(h2:j<ws.length),(∀i,i<j->V.beq (vs.getD i .none) (ws.getD i .none)=aj)->V.beq vs[j] ws[j]=aQ->V.fV vs[j] ws[j]=aj:=by
 induction vs with
 |nil=>intro ws _ j h1;exact nomatch h1
 |cons v vs ih=>
  intro ws c j h1 h2 ha hj;cases ws with
  |nil=>exact nomatch h2
  |cons w ws=>
  have c:(if V.beq v w then V.jf vs ws else V.fV v w)=aj:=c;induction j with
  |zero=>rw[aG (by refine az (hj) ?_;exact cE)] at c;exact c
  |succ j=>rw[aF (show V.beq v w=aj from ha 0 (oQ _))] at c;exact ih ws c j (o8 h1) (o8 h2) (λi hi=>ha (i+1) (Nat.succ_lt_succ hi)) hj
theorem LQ(v w:V)(n k:ag)(A:aW)(v' w':ak)(pv:v.fq n=aj)(pw:w.fq k=aj)(c:V.fV v w=aj)(x:VR s.heap ρ v' v)(y:VR s.heap ρ w' w)(hu:A.units+n<b6):zS A s v' w' (V.lt v w):=by
 induction n generalizing v w k A v' w' with
 |zero=>
  revert c;refine dG pv x (λi t=>?_) (λz t=>?_) λm a items vs e=>nomatch e
  ·exact dG pw y (λj u _=>zS.ints A _ _ t u) (λ_ _ c=>(cE c).elim) λm a items vs e pv t r c=>(cE c).elim
  ·exact dG pw y (λj u c=>(cE c).elim) (λ_ u _=>zS.strs A _ _ t u) λm a items vs e pv t r c=>(cE c).elim
 |succ n ih=>
  revert c;refine dG pv x (λi t=>?_) (λz t=>?_) λm a items vs e pv t r=>?_
  ·exact dG pw y (λj u _=>zS.ints A _ _ t u) (λ_ _ c=>(cE c).elim) λm a items vs e pv t r c=>(cE c).elim
  ·exact dG pw y (λj u c=>(cE c).elim) (λ_ u _=>zS.strs A _ _ t u) λm a items vs e pv t r c=>(cE c).elim
  cases e;refine dG pw y (λj u c=>(cE c).elim) (λ_ _ c=>(cE c).elim) λk' b dB ws e pw t2 r2 c=>?_;intro prog w E Q h;refine eh t.ex λm1 e1=>eh t2.ex λm2 e2=>?_;have l1:=r.length;have l2:=r2.length;rw[jL] at l1 l2;refine richCompare_meets_room (op:=.Lt) ⟨_,e1,ac⟩ ⟨_,e2,ac⟩ F.slot_tuple_lt F.entry_tuple_lt (F.args_tuple_lt_2 _ _)
   (Hs a b items dB m1 m2 .none .none #[] #[] (λj=>V.beq (vs.getD j .none) (ws.getD j .none)) (λj=>V.lt (vs.getD j .none) (ws.getD j .none)))
   ⟨e1,e2,λj h1 h2=>?_,λj h1 h2 ha hj=>?_,?_⟩ (rL (bc _ _) hu)
  ·exact bH (r.item h1) λMP x1 d1=>bH (r2.item h2) λMQ x2 d2=>az d1<|az d2 (Ep vs n ws k' A.in1 pv pw (by simp only[oZ];lia) j MP MQ _ _ x1 x2)
  ·refine bH (r.item h1) λMP x1 d1=>bH (r2.item h2) λMQ x2 d2=>?_;rw[d1,d2] at hj⊢;exact ih _ _ k' A.in1 _ _ (d5 pv _ (dR MP)) (d5 pw _ (dR MQ)) (LP vs ws c j MP MQ ha hj) x1 x2 (by simp only[oZ];lia)
  ·refine az l1<|az l2 ?_;rewrite[Fi];exact⟨(λq=>nomatch q),h⟩
end
noncomputable def V.ty:V->aA
 |.int _=>"int"
 |.str _=>"str"
 |_=>"tuple"
theorem Fj{a b:V}(h:V.fV a b=aj):a.ty=b.ty:=by cases a<;>first|exact(cE h).elim|(cases b<;>first|rfl|exact(cE h).elim)
section
variable{A:aW}{E:ak->aq->Prop}{s:aq}{ρ:af ao}
theorem SQ{M:gY}{v':ak}{v:V}{n:ag}(p:v.fq n=aj)(x:VR s.heap ρ v' v):Looks M s.heap (typeOf v') (.type v.ty):=
 dG p x (λ_ _=>B1 ac) (λ_ _=>B1 ac) λ_ _ _ _ _ _ t _=>eh (t.ex) λ_ e=>(Looks.ld e).andThen .now
theorem JX{X:Prop}{v w:V}{n k:ag}{p q:ak}{Q:aY->aq->Prop}(pv:v.fq n=aj)(pw:w.fq k=aj)(c:V.fV v w=aj)(x:VR s.heap ρ p v)(y:VR s.heap ρ q w)(ht:v.ty≠"tuple")(ki:∀i j t u,p=.int i t->q=.int j u->Q (bh (i<j)) s->X)(ks:∀a b t u,p=.str a t->q=.str b u->Q (ltCps a.cps.toList b.cps.toList) s->X)(hq:Q (V.lt v w) s):X:=by
 revert c ht ki ks hq;refine dG pv x (λi t=>?_) (λz t=>?_) λm a items vs e pv t r c ht=>aV ac ht
 ·exact dG pw y (λj u _ _ ki _ hq=>ki _ _ _ _ ac ac hq) (λ_ _ c=>(cE c).elim) λm a items vs e pv t r c=>(cE c).elim
 ·exact dG pw y (λj u c=>(cE c).elim) (λ_ u _ _ _ ks hq=>ks _ _ _ _ ac ac hq) λm a items vs e pv t r c=>(cE c).elim
theorem Oy{b fin:aY}{Q:aY->aq->Prop}{n k:ag}(hu:A.units+n<b6)(vs:af V):∀(ws:af V)(fG X7:af ak)(i:ag),eB s.heap ρ fG vs->eB s.heap ρ X7 ws->V.ej n vs=aj->V.ej k ws=aj->V.jf vs ws=aj->fin=bh (vs.length<ws.length)->((b&&i==0)=aj->∀v r,vs=v::r->v.ty≠"tuple")->Q (V.Ql vs ws) s->KatLex Wc.prog Wc.w A b fin Q (fG.zip X7) i s:=by
 induction vs with
 |nil=>intro ws fG X7 i x y _ _ _ hf _ hq;cases x;refine az List.zip_nil_left<|kat_nil<|az hf ?_;induction ws<;>exact hq
 |cons v vs ih=>
  intro ws fG X7 i x y pv pw c hf hb hq;revert hf;refine x.Ao λp _ x r=>?_;induction ws with
  |nil=>exact y.GU λhf=>az hf (kat_nil hq)
  |cons w ws _=>
  refine y.Ao λq _ y t hf=>fB (d9 pv) λpv v6=>fB (d9 pw) λpw pws=>?_;have c:(if V.beq v w then V.jf vs ws else V.fV v w)=aj:=c;rw[uA] at hq;refine kat_cons (om v w n k A p q pv pw x y hu Wc.prog Wc.w _ _ ?_);cases e:V.beq v w with
  |true=>rw[aF e] at c hq;exact kat_yes (ih ws _ _ (i+1) r t v6 pws c (by simpa using hf) (λh=>aV h (by simp)) hq)
  |false=>
   rw[aG (by refine az e ?_;exact cE)] at c hq;refine kat_no ?_;cases hbi:b&&i==0 with
   |true=>exact JX (Q:=Q) pv pw c x y (hb hbi v vs ac) (λi j t u e1 e2 hq=>by subst e1;subst e2;exact oneLt_int hq) (λa b t u e1 e2 hq=>by subst e1;subst e2;exact oneLt_str (by rw[<-ltCps_eq];exact hq)) hq
   |false=>exact kat_one p q (LQ v w n k A p q pv pw c x y hu Wc.prog Wc.w _ (PySem.W.BoolBack Q) hq)
theorem LR{n:ag}(vs:af V):∀(fG:af ak),eB s.heap ρ fG vs->V.ej (n+1) vs=aj->(∀v∈vs,v.ty="tuple"/\v.full=aj)->∃Zv fs,KatTups s.heap fG Zv/\eB s.heap ρ Zv fs/\V.ej n fs=aj/\fs.length=vs.length/\∀j (h:j<vs.length) (h2:j<fs.length),∃r,vs[j]=.tup (fs[j]::r):=by
 induction vs with
 |nil=>exactλ_ x _ _=>x.GU ⟨[],[],bp,.nil,ac,ac,λj h=>nomatch h⟩
 |cons v vs ih=>
  intro _ x p hv;refine x.Ao λ_ _ x r=>fB (d9 p) λp ps=>fB (hv v (.head _)) λh1 h2=>bm (ih _ r ps λv m=>hv v (.tail _ m)) λZv fs k q pf l at_=>?_;revert h1 h2;refine dG p x (λ_ _ h1=>aV (show"int"="tuple" from h1) (by decide)) (λ_ _ h1=>aV (show"str"="tuple" from h1) (by decide)) λm a items us e pu t ri _ h2=>?_;cases e;induction us with
  |nil=>exact(cE h2).elim
  |cons u us=>
  rcases t.ex with⟨m,e⟩;refine bH (ri.get (i:=0) (v:=u) ac) λu' Gx xu=>⟨u'::Zv,u::fs,KatTups.cons e ac ac (by refine dm (dS) ?_;exact Gx) k,.cons xu q,cb.mpr ⟨(d9 pu).1,pf⟩,bf (·+1) l,λj h h2=>?_⟩;induction j with
  |zero=>exact⟨us,ac⟩
  |succ j=>exact at_ j (o8 h) (o8 h2)
theorem Fk{vs:af V}{fG:af ak}{n:ag}{T:aA}{M:gY}(rr:eB s.heap ρ fG vs)(pv:V.ej n vs=aj)(h:∀v∈vs,v.ty=T):∀v'∈fG,Looks M s.heap (typeOf v') (.type T):=λv' m=>by exact bH (rr.back m) λv m x=>dm (h v m) (SQ (d5 pv v m) x)
theorem eB.dflt{vs:af V}{fG:af ak}(rr:eB s.heap ρ fG vs){i:ag}(h:i<vs.length):VR s.heap ρ (fG.getD i .none) vs[i]/\vs.getD i .none=vs[i]:=by refine bH (rr.get (dq h)) λv' e x=>?_;refine az (Jb) ?_;refine az e<|az (Jb) ?_;exact az (dq h) (⟨x,ac⟩)
theorem LS{vs:af V}{fG:af ak}(rr:eB s.heap ρ fG vs)(ok:cZ vs=aj)(h2:2<=vs.length)(hu:A.units+12<b6){E:ak->aq->Prop}:aw (ay Wc.prog Wc.w) A (keyKind' fG.toArray) (λκ s'=>s'=s/\∀i j,i<vs.length->j<vs.length->∀C:aY->aq->Prop,C (CW vs i j) s->CY Wc.prog Wc.w A κ fG i j C s) E s:=by
 simp -iota only[cZ,cY,qC,di,eH] at ok;refine fB ok λz1 full=>fB z1 λz2 _=>fB z2 λz3 c=>fB z3 λpv _=>?_;have pv:V.ej 8 vs=aj:=pv;have hl:=rr.length;have h0:0<vs.length:=bz ‹_›;have Qq:∀v∈vs,v.ty=vs[0].ty:=λv m=>Fj (c v m _ (dR h0));by_cases ht:vs[0].ty="tuple"
 ·refine bm (LR (n:=7) vs fG rr pv λv m=>⟨(Qq v m).trans ht,(full.resolve_left (cU h2)) v m⟩) λZv fs kt fr pf fl fa=>?_;have hf0:0<fs.length:=lR h0 (bJ fl.symm);have fty:∀v∈fs,v.ty=fs[0].ty:=λv m=>by
   rcases List.getElem_of_mem m with⟨j,hj,e⟩;rcases fa j (lR hj (bJ fl)) hj with⟨r1,e1⟩;rcases fa 0 (by assumption) hf0 with⟨r2,e2⟩;have j1:=c _ (dR (fl▸hj)) _ (dR h0);rw[e1,e2,e] at j1;have j1:(if V.beq v fs[0] then V.jf r1 r2 else V.fV v fs[0])=aj:=j1;split at j1
   ·rename_i q;(refine az (V.eq_of_beq _ _ q) ?_;rfl)
   ·exact Fj j1
  refine kat_kind kt (by refine az fr.length ?_;exact hf0) (Fk fr pf fty) (by exact aF ac) ⟨ac,λi j hi hj C hC=>?_⟩;refine fB (rr.dflt hi) λxa da=>fB (rr.dflt hj) λxb db=>eh (fa i hi (lR hi (bJ fl.symm))) λra e1=>eh (fa j hj (fl▸hj)) λrb e2=>?_;have cc:=c _ (dR hi) _ (dR hj);have p1:=d5 pv _ (dR hi);have p2:=d5 pv _ (dR hj);unfold CW at hC;unfold CY;rw[da,db,e1,e2] at hC;rw[e1,e2] at cc;rw[e1] at xa p1;rw[e2] at xb p2;refine xa.kB ac λx xs t r=>xb.kB ac λy ys t2 r2=>eh t.ex λm1 q1=>eh t2.ex λm2 q2=>?_;have z1:=r.length;have z2:=r2.length;rw[jL] at z1 z2;refine kat_lt q1 ac q2 ac (Oy (n:=7) (k:=7) (rL (eD (lB ac) _) hu) (fs[i]::ra) (fs[j]::rb) _ _ 0 r r2 p1 p2 cc (by(refine az z1 ?_;refine az z2 ?_;rfl)) (λhb v r' e=>?_) hC);cases e;intro q;rw[fty _ (dR _)] at q;replace hb:=q▸hb;simp at hb
 ·refine kas_kind (lT h2 (bJ hl.symm)) (Fk rr pv Qq) (by simpa using ht) (by exact aF ac) ⟨ac,λi j hi hj C hC=>fB (rr.dflt hi) λxa da=>fB (rr.dflt hj) λxb db=>?_⟩;unfold CW at hC;unfold CY;rw[da,db] at hC;exact JX (Q:=C) (d5 pv _ (dR hi)) (d5 pv _ (dR hj)) (c _ (dR hi) _ (dR hj)) xa xb (λq=>ht ((Qq _ (dR hi)).symm.trans q))
   (λa b t u e1 e2 hq=>by(refine az e1 ?_;refine az e2 ?_);exact kat_lt_int hq) (λa b t u e1 e2 hq=>by(refine az e1 ?_;refine az e2 ?_);exact kas_lt_str (by rw[<-ltCps_eq];exact hq)) hC
end
section
variable{A:aW}{E:ak->aq->Prop}{s:aq}{ρ:af ao}
theorem Oz{H:aO}{vs:af V}{fG:af ak}(rr:eB H ρ fG vs):∀l:af ag,(∀i∈l,i<vs.length)->eB H ρ (l.map λi=>fG.getD i fR) (l.map λi=>vs.getD i .none):=by
 intro l0;induction l0 with
 |nil=>exactλ_=>.nil
 |cons i l ih=>
  intro h;have hi:=h i (.head _);refine bH (rr.get (dq hi)) λv' e x=>?_;refine .cons ?_ (ih λj m=>h j (.tail _ m));have e1:fG.getD i fR=v':=by simp[e]
  have e2:vs.getD i .none=vs[i]:=by exact getD_at ‹_›
  refine(?_:VR H ρ (fG.getD i fR) (vs.getD i .none));rw[e1,e2];exact x
theorem Fm{H:aO}{a:ao}{n:ag}{fG:af ak}{vs:af V}{P:lF->aq->Prop}(kp:∀b o,H.get? b=ae o->s.heap.get? b=ae o)(ha:H.objs.size<=a)(ho:s.heap.get? a=ae (ed "list" fG.toArray n))(rr:eB H ρ fG vs)(ok:cZ vs=aj)(hu:A.units+12<b6)(h:∀h' c2 out,(∀b o,H.get? b=ae o->h'.get? b=ae o)->h'.get? a=ae (ed "list" (uk out) c2)->eB H ρ out (dh vs)->P (.done (.ret .none)) {s with heap:=h'}):aw (ay Wc.prog Wc.w) A (Builtin.«list.sort» ⟨[.ref a],[]⟩) P E s:=by
 have MU:vs.length<64:=by simp only[cZ,cY,di] at ok;exact ok.1.1.1.2
 have hl:=rr.length;obtain⟨e1,ho1⟩:∃e1,(s.heap.update a (cK λ_=>(#[]:bj ak))).get? a=ae (ed "list" #[] e1):=⟨_,qZ ho λ_=>#[]⟩;have kpu:∀{h1 h2:aO},dH a h1 h2->(∀b o,H.get? b=ae o->h1.get? b=ae o)->∀b o,H.get? b=ae o->h2.get? b=ae o:=λsb k b o e=>(sb.2 b λq=>by replace q:=q.symm;subst q;exact aV (cB e) (nh.mpr ha)).trans (k b o e);have Vi:∀b o,H.get? b=ae o->(((s.heap.update a (cK λ_=>(#[]:bj ak))).push (ed "tuple" fG.toArray 0)).push (ed "list" #[] 0)).get? b=ae o:=λb o e=>bW _ (bW _ (kpu (dF s.heap a (cK λ_=>(#[]:bj ak))) kp b o e));have ho3:(((s.heap.update a (cK λ_=>(#[]:bj ak))).push (ed "tuple" fG.toArray 0)).push (ed "list" #[] 0)).get? a=ae (ed "list" #[] e1):=bW _ (bW _ ho1);rw[list_sort_plain];refine au (listItems_at ho ac<|wpAny_bind (listUpdate_at ho ac ?_ (by(refine az CZ ?_;refine az fg ?_);exact hl▸bz (lR MU (lB ac))) (bR _)));refine au (seqEpoch_at ho1 ac<|wpAny_bind (Cr ?_ (by show fG.length<=_;refine az fg ?_;exact tB (hl▸b9 MU) ac)));refine au (JY (cy ?_) (bR _));have fin:∀(out:af ak)(arr:bj ak),arr=uk out->out.length<=64->eB H ρ out (dh vs)->aw (ay Wc.prog Wc.w) A (do
   let touched:=(<-seqEpoch a)!=e1
   Builtin.List.listUpdate (.ref a) λ_=>arr
   if touched then rule "list.sort.modified";raiseError "ValueError" "list modified during sort"
   ui .none) P E {s with heap:=((s.heap.update a (cK λ_=>(#[]:bj ak))).push (ed "tuple" fG.toArray 0)).push (ed "list" #[] 0)}:=λout arr aae hlen ro=>by
  subst aae
  refine au (seqEpoch_at ho3 ac<|wpAny_bind (listUpdate_at ho3 ac ?_ (bR _) (by(refine az CZ ?_;refine az fg ?_);exact lT hlen (eY (lB ac)))))
  simp only[bne_self_eq_false,jN,iA]
  obtain⟨c2,hc2⟩:∃c2,((((s.heap.update a (cK λ_=>(#[]:bj ak))).push (ed "tuple" fG.toArray 0)).push (ed "list" #[] 0)).update a (cK λ_=>uk out)).get? a=ae (ed "list" (uk out) c2):=⟨_,qZ ho3 _⟩
  exact aD (h _ c2 out (kpu (dF ..) Vi) hc2 ro)
 by_cases hn:fG.toArray.size<2
 ·refine az (aF hn)<|az (aF hn)<|wpAny_bind (aD<|wpAny_bind (aD<|fin fG _ ?_ (hl▸bz MU) ?_))
  ·show(fG.toArray.zip fG.toArray).map (·.2)=fG.toArray;apply WI.mp;exact az Array.toList_map<|az Array.toList_zip (List.map_snd_zip (aP _))
  ·have hv:vs.length<2:=by replace hn:=CZ▸hn;exact hl▸hn
   match vs,hv,rr with
   |[],_,rr=>exact rr
   |[v],_,rr=>exact rr
   |_::_::_,hv,_=>exact aV hv (by simp)
 ·have h2:2<=vs.length:=by replace hn:=CZ▸hn;lia
  refine az (aG hn)<|az (aG hn) ?_;have rr3:eB ({s with heap:=((s.heap.update a (cK λ_=>(#[]:bj ak))).push (ed "tuple" fG.toArray 0)).push (ed "list" #[] 0)}:aq).heap ρ fG vs:=rr.mono (eR Vi) Pre.refl;refine au (ec (LS rr3 ok h2 hu (E:=λ_ _=>io)) (λκ s0 hk=>fB hk λz1 aaf=>?_) λ_ _ x=>x.elim);subst z1;have hwp:(uz fG.length).kasWp (CY Wc.prog Wc.w A κ fG) (λp s'=>s'={s with heap:=((s.heap.update a (cK λ_=>(#[]:bj ak))).push (ed "tuple" fG.toArray 0)).push (ed "list" #[] 0)}/\Pm p vs.length/\pick vs p=dh vs) {s with heap:=((s.heap.update a (cK λ_=>(#[]:bj ak))).push (ed "tuple" fG.toArray 0)).push (ed "list" #[] 0)}:=by exact az hl<|Ok.wp aaf (λp hp=>⟨ac,hp⟩) (Fh ok (bz ‹_›))
  refine au (ec (kat_run (Q:=λst' s'=>∃p:bj ag,p.size=fG.length/\arrOf st'=p.map (kas_item (fG.toArray.zip fG.toArray))/\failedOf st'=aC/\s'={s with heap:=((s.heap.update a (cK λ_=>(#[]:bj ak))).push (ed "tuple" fG.toArray 0)).push (ed "list" #[] 0)}/\Pm p vs.length/\pick vs p=dh vs)
   ac (lT h2 (bJ hl.symm)) (hl▸MU) (λp' st' s' a1 a2 a3 a4=>⟨p',a1,a2,a3,a4⟩) hwp) ?_ λ_ _ e=>e)
  rintro⟨⟨⟩,st'⟩ s' ⟨p,hp,har,hf,rfl,P',Zw⟩;dsimp only;refine az hf<|fin _ _ (kat_snds ac har) ?_ ?_
  ·rewrite[be];refine az jL<|az hp ?_;exact tB (hl▸b9 MU) ac
  ·have:=Oz rr p.toList λi m=>by have:=P'.perm.subset m;simpa using this
   refine dm Zw ?_;exact this
end
section
variable{A:aW}{s:aq}{ρ:af ao}{st st':af O}{E:ak->aq->Prop}
theorem rD{x:ak}{r:af V}(hu:A.units+20<b6)(R:Rel s.heap ρ st)(hc:aw (ay Wc.prog Wc.w) A.in1 (uC x) (λxy s1=>Good mA s ρ st s1 ρ/\∃vs,cZ vs=aj/\dh vs=r/\eB s1.heap ρ xy vs) dC s):aw (ay Wc.prog Wc.w) A (cf (.builtin "sorted") [x]) (gz s ρ (.ref st.length) (st++[.list r])) dC s:=by
 refine Calls.call_function_entry kind_sorted plain_sorted entry_sorted (args_sorted1 _) ?_;unfold Builtin.«sorted»;refine au (m:=checkCount "sorted" 1 1 _) (aD<|wpAny_bind (ec hc (λxy s1 ⟨g1,vs,ok,er,rr⟩=>?_) λ_ _ q=>q.elim));subst er;have MU:vs.length<64:=by simp only[cZ,cY,di] at ok;exact ok.1.1.1.2
 refine au (JY ?_ (by refine az fg ?_;exact rr.length▸bz (lR MU (lB ac))));have hoL:(s1.heap.push (ed "list" xy.toArray 0)).get? s1.heap.objs.size=ae (ed "list" xy.toArray 0):=cT _ ac;refine au (cy (bG s1.heap.objs.size (by simp) (gx slot_list_sort ⟨_,hoL,ac⟩ entry_list_sort (Fm (H:=s1.heap) (s:={s1 with heap:=s1.heap.push (ed "list" xy.toArray 0)}) (λb o e=>bW _ e) (aP _) hoL rr ok (by simp only[oZ];lia) λh' c2 out kp ho ro=>?_) (args_list_sort _))));refine⟨_,ac,λsz=>aD ⟨_,ac,?_⟩⟩;have gn:=mC g1.rel kp sz s1.toks (aP _) ho (o:=.list (dh vs)) (.list (by
  exact ro.mono (tW kp (aP _)) (Pre.append _)))
 exact⟨_,g1.trans gn,.ref (gN g1.rel _)⟩
theorem Fn(hu:A.units+20<b6){r:V}{a:ao}{i:ag}{vs:af V}(R:Rel s.heap ρ st)(p:ρ[i]?=ae a)(l:st[i]?=ae (.list vs))(e:jl vs st=ae (r,st')):aw (ay Wc.prog Wc.w) A (cf (.builtin "sorted") [.ref a]) (gz s ρ r st') dC s:=by
 refine bC (e) λok e=>iM e λ_=>?_;have MU:=qV ok;refine lC (R.list p l) λitems n hd rr=>rD hu R (bG s.heap.objs.size (aP _) (collect_list (vs:=items.toList) (by refine az Array.toArray_toList ?_;exact cQ hd) (λsz=>?_) (by refine az fg ?_;exact rr.length▸bz (lR MU (lB ac)))));have kp:∀b o,s.heap.get? b=ae o->((s.heap.push (ed "list" #[] 0)).update s.heap.objs.size (cK (·++items.toList.toArray))).get? b=ae o:=λb o q=>by have jE:b<s.heap.objs.size:=cB q;refine az (Heap.get?_update_ne _ _ _ _ (b8 jE)) ?_;exact az (Heap.get?_push_ne _ _ _ (b8 jE)) (q)
 have g:=jD R kp sz s.toks;exact⟨g,vs,ok,ac,rr.go R g⟩
end
structure Fo(H:aO)(ρ:af ao)(I:ao)(vs:af V)(St:ag->aO->Prop):Prop where
 frame:∀S acc c i h h',S≠I->h.get? S=ae (eM acc c)->St i h->(∀b o,b≠S->h.get? b=ae o->h'.get? b=ae o)->(∀b o,H.get? b=ae o->h'.get? b=ae o)->St i h'
 fld:∀i h,St i h->∃o us,h.get? I=ae o/\o.data=.fields us
 item:∀(A:aW) i (s:aq) v,A.handled=aC->St i s.heap->(∀b o,H.get? b=ae o->s.heap.get? b=ae o)->vs[i]?=ae v->
  aw (ay Wc.prog Wc.w) A (eE (.ref I)) (λr s1=>∃x h' tk,r=ae x/\s1={s with heap:=h',toks:=tk}/\St (i+1) h'/\(∀b o,b≠I->s.heap.get? b=ae o->h'.get? b=ae o)/\VR h' ρ x v) dC s
 done:∀(A:aW)(s:aq),A.handled=aC->St vs.length s.heap->(∀b o,H.get? b=ae o->s.heap.get? b=ae o)->
  aw (ay Wc.prog Wc.w) A (eE (.ref I)) (λr s1=>∃h' tk,r=aC/\s1={s with heap:=h',toks:=tk}/\(∀b o,b≠I->s.heap.get? b=ae o->h'.get? b=ae o)) dC s
section
variable{A:aW}{s:aq}{ρ:af ao}{st st':af O}
theorem ox{h h':aO}{I:ao}(ext:∀b o,b≠I->h.get? b=ae o->h'.get? b=ae o){o:cM}{us:bj ak}(ho:h.get? I=ae o)(hf:o.data=.fields us):dc h ρ h' ρ:=λb items t=>by obtain⟨nb,n,e⟩:=t;refine⟨nb,n,ext b _ (λq=>?_) e⟩;replace q:=q.symm;subst q;rw[ho] at e;(replace e:=aU e;subst e);cases hf
theorem OA{h h':aO}{S:ao}(sb:dH S h h'){o:cM}(ho:h.get? S=ae o)(hc:o.cls=.type "list"):dc h ρ h' ρ:=λb items t=>by obtain⟨nb,n,e⟩:=t;refine⟨nb,n,(sb.2 b λq=>?_).trans e⟩;subst q;exact aV ((bf (jW C0) (ho▸e)).symm.trans (by(rewrite[wK];refine az hc ?_;rfl))) (by simp)
theorem vW{H:aO}{I S:ao}{vs:af V}{St:ag->aO->Prop}{Rz:jq->aq->Prop}{res:ak}(hh:A.handled=aC)(F:Fo H ρ I vs St)(hI:H.objs.size<=I)(hS:H.objs.size<=S)(tX:I≠S)(hz:vs.length<=16777216):∀(k j:ag)(s:aq)(acc:bj ak)(c:ag),vs.length-j=k->j<=vs.length->St j s.heap->(∀b o,H.get? b=ae o->s.heap.get? b=ae o)->s.heap.get? S=ae (eM acc c)->eB s.heap ρ acc.toList (vs.take j)->(∀h' tk vu c',(∀b o,H.get? b=ae o->h'.get? b=ae o)->h'.get? S=ae (eM vu c')->eB h' ρ vu.toList vs->Rz (.ok (.ret res)) {s with heap:=h',toks:=tk})->fO (ay Wc.prog Wc.w) A (.builtin "list.extend.loop" ⟨[.ref S,.ref I,res],[]⟩) Rz s:=by
 intro k;induction k with
 |zero=>intro j s acc c hk hj oM kp hs rr hq;have Hl:j=vs.length:=Internal.KK hk hj;refine lU SR<|az (rv rE _)<|wpAny_bind (ec (F.done A.in1 s hh (Hl▸oM) kp) (λr s1 h1=>kS h1 λh' tk z1 z2 ext=>?_) λ_ _ q=>q.elim);subst z1;subst z2;refine lC (F.fld _ _ oM) λo us ho hf=>aD (hq h' tk acc c (λb o e=>ext b o (qq e hI) (kp b o e)) (ext S _ tX.symm hs) ?_);replace rr:=Hl▸rr;exact(CD▸rr).mono (ox ext ho hf) Pre.refl
 |succ k ih=>
  intro j s acc c hk hj oM kp hs rr hq;have Hl:j<vs.length:=Internal.zB hk;have hl:=rr.length;replace hl:=hl.trans rx;have mM:acc.size=j:=by(refine dm jL ?_;refine az hl ?_);lia
  refine lU SR<|az (rv rE _)<|wpAny_bind (ec (F.item A.in1 j s vs[j] hh oM kp (dq Hl)) (λr s1 h1=>?_) λ_ _ q=>q.elim);refine Yu h1 λx h' tk z3 z4 aag ext xv=>?_;subst z3;subst z4;refine lC (F.fld _ _ oM) λo us ho hf=>?_;have vX:h'.get? S=ae (eM acc c):=ext S _ tX.symm hs;refine au ?_;have sb:=dF h' S (cK (·.push x));have Gz:∀b o,H.get? b=ae o->(h'.update S (cK (·.push x))).get? b=ae o:=λb o e=>(sb.2 b (qq e hS)).trans ((λb o e=>ext b o (qq e hI) (kp b o e)) b o e);refine pE (s:={s with heap:=h',toks:=tk}) vX ac (aD ⟨ni rE _,ih (j+1) _ (acc.push x) _ (Internal.wA hk) Hl
   (F.frame S _ _ _ _ _ tX.symm vX aag (λb o q e=>(sb.2 b q).trans e) Gz) Gz (gG _ vX ac) ?_ hq⟩) (by(refine az mM ?_;refine az fg ?_);exact lT ‹_› ‹_›) (by show(acc.push x).size<=tY+1;(rewrite[Hf];refine az mM ?_;refine az fg ?_);exact jF (bz (lR Hl hz)))
  refine az o5<|az uq<|az (dq Hl) ?_;rewrite[CB];exact((rr.mono (ox ext ho hf) Pre.refl).snoc xv).mono (OA (ρ:=ρ) sb vX ac) Pre.refl
theorem pK{T:aA}{r:ao}{P:af V->Drawn->Prop}{Q:af ak->aq->Prop}{E:ak->aq->Prop}(hh:A.handled=aC)(hz:∀vs d,P vs d->vs.length<=16777216)(nl:(kM T==kM "list")=aQ)(nt:(kM T==kM "tuple")=aQ)(hr:r<s.heap.objs.size)(ty:∀h',(∀b o,s.heap.get? b=ae o->h'.get? b=ae o)->({s with heap:=h'}:aq).TypeIs (.ref r) T)(hint:∀(A:aW) (E:ak->aq->Prop) (s1:aq) (Q:aY->aq->Prop),(∀b o,s.heap.get? b=ae o->s1.heap.get? b=ae o)->Q aQ s1->aw (ay Wc.prog Wc.w) A (uD (.ref r)) Q E s1)(iter:∀(A:aW) (E:ak->aq->Prop) (s1:aq) (Q:ak->aq->Prop),(∀b o,s.heap.get? b=ae o->s1.heap.get? b=ae o)->s.heap.objs.size<=s1.heap.objs.size->s1.drawn=s.drawn->(∀I h1 d1 vs St,P vs d1->s1.heap.objs.size<=I->Fo s.heap ρ I vs St->St 0 h1->(∀b o,s1.heap.get? b=ae o->h1.get? b=ae o)->Q (.ref I) {s1 with heap:=h1,drawn:=d1})->aw (ay Wc.prog Wc.w) A (i4 (.ref r)) Q E s1)(h:∀xy h' tk d1 vs,P vs d1->(∀b o,s.heap.get? b=ae o->h'.get? b=ae o)->eB h' ρ xy vs->Q xy {s with heap:=h',toks:=tk,drawn:=d1}):aw (ay Wc.prog Wc.w) A (uC (.ref r)) Q E s:=by
 unfold uC;refine au (wpAny_runValue (lU entry_proto_collect'<|wpAny_bind (JY (aD ⟨Sk _ (by decide+kernel),lU entry_list_iadd' (?_:aw _ _ (C4 (.ref s.heap.objs.size) (.ref r) (.ref s.heap.objs.size)) _ _ {s with heap:=s.heap.push (ed "list" #[] 0)})⟩))));have hSr:s.heap.objs.size≠r:=λq=>bS _ (q▸hr);have LI:∀b o,s.heap.get? b=ae o->(s.heap.push (ed "list" #[] 0)).get? b=ae o:=λb o e=>bW _ e;have key:∀(A:aW)(hh:A.handled=aC)(I:ao)(h1:aO)(d1:Drawn)(vs:af V)(c:ag)(St:ag->aO->Prop)(Rz:jq->aq->Prop),P vs d1->Fo s.heap ρ I vs St->s.heap.objs.size<=I->I≠s.heap.objs.size->St 0 h1->(∀b o,s.heap.get? b=ae o->h1.get? b=ae o)->h1.get? s.heap.objs.size=ae (eM #[] c)->
   (∀h' tk vu c',(∀b o,s.heap.get? b=ae o->h'.get? b=ae o)->h'.get? s.heap.objs.size=ae (eM vu c')->eB h' ρ vu.toList vs->Rz (.ok (.ret (.ref s.heap.objs.size))) {s with heap:=h',toks:=tk,drawn:=d1})->
   fO (ay Wc.prog Wc.w) A (.builtin "list.extend.loop" ⟨[.ref s.heap.objs.size,.ref I,.ref s.heap.objs.size],[]⟩) Rz {s with heap:=h1,drawn:=d1}:=λA hh I h1 d1 vs c St Rz hP F hI tX oM kp hs hq=>
  vW hh F hI (aP _) tX (hz vs d1 hP) vs.length 0 {s with heap:=h1,drawn:=d1} #[] c (ac) (bR _) oM kp hs (by simp;exact .nil) hq
 unfold C4;refine au (pJ (ty _ LI) ?_);have h1:C5 (.ref s.heap.objs.size) (.ref r)=aQ:=by simp[C5,hSr]
 simp only[h1,nl,nt,Ot,jN,iA];refine au (iter _ _ _ _ LI (by rw[eW];exact pG _) ac λI h1 d1 vs St hP Zx F oM Zy=>?_);have Gz:∀b o,s.heap.get? b=ae o->h1.get? b=ae o:=λb o e=>Zy b o (LI b o e);have SS:h1.get? s.heap.objs.size=ae (eM #[] 0):=Zy _ _ (cT _ ac);refine au (cy (hint _ _ _ _ Gz ?_));have jE:s.heap.objs.size<I:=by rw[eW] at Zx;exact Zx
 have OB:s.heap.objs.size≠I:=b8 jE;have hIS:s.heap.objs.size<=I:=bz jE;have fin:∀h' tk (vu:bj ak) c',(∀b o,s.heap.get? b=ae o->h'.get? b=ae o)->h'.get? s.heap.objs.size=ae (eM vu c')->eB h' ρ vu.toList vs->
   aw (ay Wc.prog Wc.w) A (do
    let o<-PySem.load s.heap.objs.size
    match o.data with
    |.seq xs _=>bB xs.toList
    |_=>CN "internal:collect") Q E {s with heap:=h',toks:=tk,drawn:=d1}:=λh' tk vu c' kp ho rr=>by
  exact au (wpAny_load (s:={s with heap:=h',toks:=tk,drawn:=d1}) ho<|wpAny_pure (h _ h' tk d1 vs hP kp rr))
 refine C8 (λ_=>au (fN<|wpAny_bind<|wpAny_bind (pE SS ac ?_))) (λ_=>aD ⟨ni rE _,key A hh _ _ _ _ _ _ _ hP F hIS OB.symm oM Gz SS fin⟩);have Zz:=gG (cK (·.push fR)) SS ac;refine pE (hz:=by seq_fits) Zz ac ?_;have zB:=dF h1 s.heap.objs.size (cK (·.push fR));have wA:=dF (h1.update s.heap.objs.size (cK (·.push fR))) s.heap.objs.size (cK (·.pop));have Vi:∀b o,s.heap.get? b=ae o->((h1.update s.heap.objs.size (cK (·.push fR))).update s.heap.objs.size (cK (·.pop))).get? b=ae o:=λb o e=>
  have tX:b≠s.heap.objs.size:=λq=>bS _ (q▸cB e)
  (wA.2 b tX).trans ((zB.2 b tX).trans (Gz b o e))
 exact aD ⟨ni rE _,key A hh _ _ _ _ _ _ _ hP F hIS OB.symm (F.frame s.heap.objs.size _ _ _ _ _ OB SS oM (λb o q e=>(wA.2 b q).trans ((zB.2 b q).trans e)) Vi) Vi (gG (cK (·.pop)) Zz ac) fin⟩
end
section
variable{A:aW}{E:ak->aq->Prop}{s:aq}{d:ao}{es:bj bQ}{ep:ag}
theorem Fp{Q:ak->aq->Prop}(hd:(d==gk)=aQ)(ho:s.heap.get? d=ae (cV es ep))(hQ:Q (.ref s.heap.objs.size) {s with heap:=s.heap.push {cls:=.type "dict_keyiterator",data:=.fields #[.ref d,.int 0 0,.int es.size 0,.int ep 0]}}):aw (ay Wc.prog Wc.w) A (i4 (.ref d)) Q E s:=by have hT:s.TypeIs (.ref d) "dict":=⟨_,ho,ac⟩;refine JZ hT JS (gx JS hT PySem.F.entry_dict_iter ?_ (PySem.F.args_dict_iter_1 _));unfold Builtin.«dict.__iter__»;refine au ?_;unfold Builtin.Dict.dictSlotNone;refine au (qY hT<|wpAny_pure (?_:aw _ _ (CO d>>=_) _ _ s));unfold CO;refine az (aG (by refine az hd ?_;exact cE)) ?_;refine au (aD<|wpAny_bind (iB ho ac<|wpAny_bind (lH ho ac<|wpAny_bind (nf (aD ⟨_,ac,"dict_keyiterator",_,⟨_,cT _ ac,ac⟩,xA.lookup,?_⟩)))));trivial
theorem Ht{it:ao}{i:ag}{e:bQ}{Q:aS ak->aq->Prop}(hit:s.heap.IsKeyIter it d i es.size ep)(OC:s.heap.get? d=ae (cV es ep))(hx:es[i]?=ae e)(hQ:∀h',h'.IsKeyIter it d (i+1) es.size ep->dH it s.heap h'->Q (ae e.key) {s with heap:=h'}):aw (ay Wc.prog Wc.w) A (eE (.ref it)) Q E s:=by
 refine jj (id hit) λo ho hc hd=>?_;unfold eE;refine au (uo (lM (name:=aB "__next__") hit.typeIs xA
  (gx xA hit.typeIs SU ?_ (SV _))))
 refine au (aD<|wpAny_bind<|wpAny_bind ?_);first|refine au (C9 hit.typeIs (aD ?_))|refine wpAny_bind (wpAny_typeNameOf_keyiter hit.typeIs (wpAny_pure ?_))
 refine au (uE ho hd ?_);have u9:xB "dict_keyiterator"=aQ:=by decide
 refine az u9<|az (aG cE) ((az (aG (cE))<|wpAny_bind (aD<|wpAny_bind (iB OC ac<|az (aG (by simp))<|wpAny_bind (aD<|wpAny_bind (lH OC ac<|az (aG (by simp))<|wpAny_pure ?_))))):aw _ _ (if(oU d==fR)=aj then _ else _) _ _ s);dsimp only;refine az (aG (by lia)) ?_;rewrite[vq];refine az hx<|wpAny_bind ?_;first|refine au (C9 hit.typeIs (aD ?_))|refine wpAny_bind (wpAny_typeNameOf_keyiter hit.typeIs (wpAny_pure ?_))
 refine au (SW hit.typeIs ((au (xh ho hd (by exact lB ac) ?_)):aw _ _ (rF (.ref it) 1 (ew ((i:aJ)+1))>>=_) _ _ s));have LU:(s.heap.update it (Obj.mapFields (·.setIfInBounds 1 (ew ((i:aJ)+1))))).IsKeyIter it d (i+1) es.size ep:=
  ⟨_,gG _ ho (RU (Ci hd _)),(RV ..).trans hc,by rw[Ci hd];trivial⟩
 exact au (cy<|wpAny_bind (SW (s:={s with heap:=s.heap.update it (Obj.mapFields (·.setIfInBounds 1 (ew ((i:aJ)+1))))}) LU.typeIs<|wpAny_pure (aD ⟨_,ac,aD (hQ _ LU (dF ..))⟩)))
theorem yR{it:ao}{i:ag}{Q:aS ak->aq->Prop}(hh:A.handled=aC)(hit:s.heap.IsKeyIter it d i es.size ep)(OC:s.heap.get? d=ae (cV es ep))(hx:es.size<=i)(hQ:∀h',ub it s.heap h'->Q aC {s with heap:=h'}):aw (ay Wc.prog Wc.w) A (eE (.ref it)) Q E s:=by
 refine jj (id hit) λo ho hc hd=>?_;unfold eE;refine au (uo (lM (name:=aB "__next__") hit.typeIs xA
  (gx xA hit.typeIs SU ?_ (SV _))))
 refine au (aD<|wpAny_bind<|wpAny_bind ?_);first|refine au (C9 hit.typeIs (aD ?_))|refine wpAny_bind (wpAny_typeNameOf_keyiter hit.typeIs (wpAny_pure ?_))
 refine au (uE ho hd ?_);have u9:xB "dict_keyiterator"=aQ:=by decide
 refine az u9<|az (aG cE) ((az (aG (cE))<|wpAny_bind (aD<|wpAny_bind (iB OC ac<|az (aG (by simp))<|wpAny_bind (aD<|wpAny_bind (lH OC ac<|az (aG (by simp))<|wpAny_pure ?_))))):aw _ _ (if(oU d==fR)=aj then _ else _) _ _ s);dsimp only;refine az (aG (by lia)) ?_;rewrite[vq];refine az (EW hx) ?_;refine au ?_;first|refine au (C9 hit.typeIs (aD ?_))|refine wpAny_bind (wpAny_typeNameOf_keyiter hit.typeIs (wpAny_pure ?_))
 refine(?_:aw _ _ (rF (.ref it) 0 .none>>=_) _ _ s);refine au (xh ho hd (by exact lB ac) ?_);refine au ?_;simp only[rt,Cj];refine au (nf (au (m:=Ck _ _) (rn (a:=fR) (by first|rfl|(simp only[firstArgMember];rfl))<|wpAny_newObj_type ?_ (by size_fits))) (by size_fits));dsimp only[ru];refine au (Cn ?_);refine az (hh) ?_;refine au (aD (Co ?_));refine au (o7 (T:="StopIteration") (b:=aj) ⟨_,cT _ ac,ac⟩ Cq ?_);exact aD (hQ _ (((dF ..).extBut.push _).push _))
end
section
variable{A:aW}{s:aq}{ρ:af ao}{st st':af O}
theorem LV{H:aO}{d I:ao}{es:bj bQ}{ep:ag}{ps:af (V×V)}(hd:H.get? d=ae (cV es ep))(he:kz H ρ es.toList ps)(hI:d≠I):
  Fo H ρ I (ps.map (·.1)) (λi h=>h.IsKeyIter I d i es.size ep) where
 frame:=λS _ _ i h h' hS _ ⟨o,ho,r⟩ k _=>⟨o,k _ _ hS.symm ho,r⟩
 fld:=λi h ⟨o,ho,_,hf⟩=>⟨o,_,ho,hf⟩
 item:=λA i s v hh hit kp hv=>by
  replace hv:=(gw)▸hv
  refine bH (lE.mp hv) λp hp z1=>?_
  subst z1
  refine bH (he.get' hp) λe hx q=>?_
  rw[dS] at hx
  exact Ht hit (kp _ _ hd) hx λh' LU sb=>⟨e.key,h',s.toks,ac,ac,LU,λb o hb e=>(sb.2 b hb).trans e,jj hit λo ho _ hf=>(q.key.mono (eR kp) Pre.refl).mono (mD sb ho (.inr ⟨_,hf⟩)) Pre.refl⟩
 done:=λA s hh hit kp=>by
  refine yR hh hit (kp _ _ hd) (by rw[be];exact(show es.toList.length=es.size from ac)▸bJ he.length) λh' ext=>⟨h',s.toks,ac,ac,λb o hb e=>ext b o hb e⟩
theorem Dc{d:ao}{es:bj bQ}{ep:ag}{ps:af (V×V)}{Q:af ak->aq->Prop}{E:ak->aq->Prop}(hh:A.handled=aC)(hz:ps.length<=16777216)(nm:(d==gk)=aQ)(hd:s.heap.get? d=ae (cV es ep))(he:kz s.heap ρ es.toList ps)(h:∀xy h' tk,(∀b o,s.heap.get? b=ae o->h'.get? b=ae o)->eB h' ρ xy (ps.map (·.1))->Q xy {s with heap:=h',toks:=tk}):aw (ay Wc.prog Wc.w) A (uC (.ref d)) Q E s:=by
 refine pK (T:="dict") (P:=λvs d=>vs=ps.map (·.1)/\d=s.drawn) hh (λvs d q=>by(refine az q.1 ?_;rewrite[be]);exact hz) (by decide) (by decide) (cB hd) (λh' kp=>⟨_,kp _ _ hd,ac⟩) (λA E s1 Q kp q=>kdl_hint_dict ⟨_,kp _ _ hd,ac⟩ q)
  (λA E s1 Q kp _ wS hq=>Fp nm (kp _ _ hd) (hq _ _ s1.drawn _ _ ⟨ac,wS⟩ (aP _) (LV hd he (λq=>?_)) ⟨_,cT _ ac,ac,ac⟩ λb o e=>bW _ e)) λxy h' tk d1 vs q kp rr=>by refine fB q λz2 z3=>?_;subst z2;subst z3;exact h xy h' tk kp rr
 exact bS _ (q▸(cB (kp _ _ hd)))
theorem Fq(hh:A.handled=aC)(hb:gk<Wc.h₀.objs.size)(hu:A.units+20<b6){r:V}{d:ao}{i:ag}{ps:af (V×V)}(R:Rel s.heap ρ st)(p:ρ[i]?=ae d)(l:st[i]?=ae (.dict ps))(e:jl (ps.map (·.1)) st=ae (r,st')):aw (ay Wc.prog Wc.w) A (cf (.builtin "sorted") [.ref d]) (gz s ρ r st') dC s:=by refine bC (e) λok e=>iM e λ_=>?_;have MU:=qV ok;rw[be] at MU;exact kS (R.dict p l) λes n hd he hn=>rD hu R (bG s.heap.objs.size (aP _) (Dc (by trivial) (bz (lR MU (lB ac))) (R.qX hb p) hd he λxy h' tk kp rr sz=>⟨jD R kp sz tk,_,ok,ac,rr⟩))
end
noncomputable abbrev kP(d:ao)(i n ep:ag)(x0 x1 ok ov:ak):cM:={cls:=.type "dict_itemiterator",dict:=aC,data:=.fields #[x0,x1,.ref d,.int i 0,.int n 0,.int ep 0,ok,ov],slots:=#[]}
noncomputable def wT(h:aO)(it d:ao)(i n ep:ag):Prop:=∃x0 x1 ok ov,(x0=.none\/∃a:ag,x0=ew a)/\h.get? it=ae (kP d i n ep x0 x1 ok ov)
section
variable{A:aW}{E:ak->aq->Prop}{s:aq}{d it:ao}{es:bj bQ}{ep:ag}
theorem WW{i n:ag}{x0 x1 ok ov:ak}{Q:aY->aq->Prop}(h0:x0=.none\/∃a:ag,x0=ew a)(he:s.heap.get? it=ae (kP d i n ep x0 x1 ok ov))(hQ:∀b h' y,h'.get? it=ae (kP d i n ep x0 y ok ov)->dH it s.heap h'->Q b {s with heap:=h'}):aw (ay Wc.prog Wc.w) A (J0 (.ref it)) Q E s:=by
 unfold J0;rcases h0 with rfl|⟨a,rfl⟩
 ·refine au (jU he ac (x:=.none) ac (aD (hQ _ _ x1 he (xC _ _))))
 ·refine au (jU he ac (x:=ew a) ac ?_);have hl:∀{α:Type}(k:aS cM->cX α)(Q:α->aq->Prop),aw (ay Wc.prog Wc.w) A (k (s.heap.get? (a:aJ).toNat)) Q E s->aw (ay Wc.prog Wc.w) A (PySem.loadIfAlive (a:aJ).toNat>>=k) Q E s:=λk Q h=>λΓ p lw=>by have:=h Γ p lw;trivial
  refine hl _ _ ?_;split
  ·exact aD (hQ _ _ x1 he (xC _ _))
  ·refine au (jU he ac (x:=x1) ac ?_);dsimp only;split
   ·exact au (gI he (by exact lB ac) λjP nq lz=>aD (hQ _ _ (.bool aj) nq lz))
   ·exact aD (hQ _ _ x1 he (xC _ _))
theorem Fs{i:ag}{e:bQ}{Q:aS ak->aq->Prop}(hit:wT s.heap it d i es.size ep)(OC:s.heap.get? d=ae (cV es ep))(hx:es[i]?=ae e)(hQ:∀h',wT h' it d (i+1) es.size ep->h'.get? s.heap.objs.size=ae {cls:=.type "tuple",data:=.seq #[e.key,e.val]}->(∀b o,b≠it->s.heap.get? b=ae o->h'.get? b=ae o)->Q (ae (.ref s.heap.objs.size)) {s with heap:=h'}):aw (ay Wc.prog Wc.w) A (eE (.ref it)) Q E s:=by
 rcases s with⟨hp,g,dr,tk,os⟩;refine bn (id hit) λx0 x1 ok ov h0 Fu=>?_;have hT:SX ⟨hp,g,dr,tk,os⟩ (.ref it) "dict_itemiterator":=⟨_,Fu,ac⟩;unfold eE;refine au (uo (lM (name:=aB "__next__") hT xE
  (gx xE hT SY ?_ (S0 _))))
 refine au (aD<|wpAny_bind<|wpAny_bind ?_);first|refine au (Dd hT (aD ?_))|refine wpAny_bind (wpAny_typeNameOf_itemiter hT (wpAny_pure ?_))
 refine au (uE Fu ac ?_);have u9:xB "dict_itemiterator"=aj:=by decide
 refine az u9<|az (aF ac) (?_:aw _ _ (if(oU d==fR)=aj then _ else _) _ _ _);rw[aG (show¬((oU d==fR)=aj) from cE)];refine au (aD<|wpAny_bind (iB OC ac<|az (aG (by simp))<|wpAny_bind (aD<|wpAny_bind (lH OC ac<|az (aG (by simp))<|wpAny_pure ?_))));dsimp only;refine az (aG (by lia)) ?_;rewrite[vq];refine az hx<|wpAny_bind ?_;first|refine au (Dd hT (aD ?_))|refine wpAny_bind (wpAny_typeNameOf_itemiter hT (wpAny_pure ?_))
 refine au (J1 hT ((au (gI Fu (by exact lB ac) λjP nq lz=>?_)):aw _ _ (rF (.ref it) 3 (ew ((i:aJ)+1))>>=_) _ _ ⟨hp,g,dr,tk,os⟩));replace lz:dH it hp jP:=lz;replace nq:jP.get? it=ae (kP d (i+1) es.size ep x0 x1 ok ov):=nq;have OD:SX ⟨jP,g,dr,tk,os⟩ (.ref it) "dict_itemiterator":=⟨_,nq,ac⟩;refine au (cy<|wpAny_bind (J1 OD<|wpAny_bind (J1 OD ?_)));unfold xz;refine au (Cr ?_);have Fv:(jP.push {cls:=.type "tuple",data:=.seq #[e.key,e.val]}).get? it=ae (kP d (i+1) es.size ep x0 x1 ok ov):=bW _ nq;generalize OE:jP.push {cls:=.type "tuple",data:=.seq #[e.key,e.val]}=vd at Fv;have OF:jP.objs.size=hp.objs.size:=lz.1;have hil:it<hp.objs.size:=cB Fu;have ZA:vd.get? hp.objs.size=ae {cls:=.type "tuple",data:=.seq #[e.key,e.val]}:=by(refine dm OE ?_;refine dm OF ?_);exact cT _ ac
 have ZC:∀b o,b≠it->hp.get? b=ae o->vd.get? b=ae o:=λb o hb e=>by rw[<-OE];exact bW _ (lz.extBut b o hb e)
 refine(?_:aw _ _ (J0 (.ref it)>>=_) _ _ ⟨vd,g,dr,tk,os⟩);rw[OF];clear OE nq lz OD OF jP;refine au (WW (s:=⟨vd,g,dr,tk,os⟩) h0 Fv λb He y J2 Vj=>?_);have Vk:=Vj.extBut _ _ (bZ hil) ZA;have Vl:∀b o,b≠it->hp.get? b=ae o->He.get? b=ae o:=λb o hb e=>Vj.extBut b o hb (ZC b o hb e);induction b with
 |false=>exact aD (aD ⟨_,ac,aD (hQ He ⟨x0,y,ok,ov,h0,J2⟩ Vk Vl)⟩)
 |true=>dsimp only[m7];refine au (jU J2 ac (x:=ok) ac<|wpAny_bind (jU J2 ac (x:=ov) ac<|wpAny_bind (gI J2 (by exact lB ac) λWX OG OH=>?_)));replace OH:dH it He WX:=OH;replace OG:WX.get? it=ae (kP d (i+1) es.size ep x0 y e.key ov):=OG;refine au (gI OG (aP _) λNU OI OJ=>?_);replace OJ:dH it WX NU:=OJ;replace OI:NU.get? it=ae (kP d (i+1) es.size ep x0 y e.key e.val):=OI;refine au (gI OI (by exact lB ac) λWY OK OL=>?_);replace OL:dH it NU WY:=OL;replace OK:WY.get? it=ae (kP d (i+1) es.size ep (ew hp.objs.size) y e.key e.val):=OK;refine au (gI OK (by exact lB ac) λS2 OM ON=>?_);replace ON:dH it WY S2:=ON;replace OM:S2.get? it=ae (kP d (i+1) es.size ep (ew hp.objs.size) (.bool aQ) e.key e.val):=OM;have kk:∀b o,b≠it->He.get? b=ae o->S2.get? b=ae o:=λb o hb e=>ON.extBut b o hb (OL.extBut b o hb (OJ.extBut b o hb (OH.extBut b o hb e)));exact au (xi (aD (aD ⟨_,ac,aD (hQ S2 ⟨_,_,_,_,.inr ⟨_,ac⟩,OM⟩ (kk _ _ (bZ hil) Vk) λb o hb e=>kk b o hb (Vl b o hb e))⟩)))
end
theorem LW:CH (.type "dict_items") "__len__"=bB (ae (.builtin "dict_items.__len__")):=by(rewrite[CI];refine az CJ ?_);kernel_rfl
section
variable{A:aW}{E:ak->aq->Prop}{s:aq}{d it:ao}{es:bj bQ}{ep:ag}
theorem yS{r:ao}{Q:aY->aq->Prop}(hT:s.TypeIs (.ref r) "dict_items")(h:Q aQ s):aw (ay Wc.prog Wc.w) A (uD (.ref r)) Q E s:=by
 unfold uD;refine au (qU hT LW ?_);generalize ZD:("dict_items.__len__":aA)=id0
 wp_delta
 refine az (by subst ZD;decide+kernel:splitId id0=some ("dict_items","__len__")) ?_;subst ZD;exact au (o7 (T:="dict_items") (b:=aj) hT (by rw[J4];kernel_rfl)<|wpAny_ite_split (λzC=>aV zC (by decide)) (λ_=>C8 (λ_=>au (pJ hT<|wpAny_pure h)) (λzC=>aV (by decide+kernel) zC)))
theorem uF{v:ao}{Q:ak->aq->Prop}(hv:s.heap.IsItemsView v d)(ho:s.heap.get? d=ae (cV es ep))(hQ:Q (.ref s.heap.objs.size) {s with heap:=s.heap.push (kP d 0 es.size ep .none (.bool aQ) .none .none)}):aw (ay Wc.prog Wc.w) A (i4 (.ref v)) Q E s:=by
 refine jj (id hv) λov hov hcv hdv=>JZ hv.typeIs S4 (gx S4 hv.typeIs PySem.F.entry_dict_items_iter ?_ (PySem.F.args_dict_items_iter_1 _));unfold Builtin.«dict_items.__iter__»;refine au (aD<|wpAny_bind ?_);unfold xL;refine au (jU hov hdv (x:=.ref d) ac (aD<|wpAny_bind ?_));unfold zn;refine au (iB ho ac<|wpAny_bind (lH ho ac ?_));have u9:xB "dict_itemiterator"=aj:=by decide
 simp only[u9,m7];refine nf (aD ⟨_,ac,"dict_itemiterator",_,⟨_,cT _ ac,ac⟩,xE.lookup,?_⟩)
  (lB ac)
 trivial
theorem wk{i:ag}{Q:aS ak->aq->Prop}(hh:A.handled=aC)(hit:wT s.heap it d i es.size ep)(OC:s.heap.get? d=ae (cV es ep))(hx:es.size<=i)(hQ:∀h',ub it s.heap h'->Q aC {s with heap:=h'}):aw (ay Wc.prog Wc.w) A (eE (.ref it)) Q E s:=by
 refine bn (id hit) λx0 x1 ok ov h0 Fu=>?_;have hT:s.TypeIs (.ref it) "dict_itemiterator":=⟨_,Fu,ac⟩;unfold eE;refine au (uo (lM (name:=aB "__next__") hT xE
  (gx xE hT SY ?_ (S0 _))))
 refine au (aD<|wpAny_bind<|wpAny_bind ?_);first|refine au (Dd hT (aD ?_))|refine wpAny_bind (wpAny_typeNameOf_itemiter hT (wpAny_pure ?_))
 refine au (uE Fu ac ?_);have u9:xB "dict_itemiterator"=aj:=by decide
 refine az u9<|az (aF ac) ((az (aG (cE))<|wpAny_bind (aD<|wpAny_bind (iB OC ac<|az (aG (by simp))<|wpAny_bind (aD<|wpAny_bind (lH OC ac<|az (aG (by simp))<|wpAny_pure ?_))))):aw _ _ (if(oU d==fR)=aj then _ else _) _ _ s);dsimp only;refine az (aG (by lia)) ?_;rewrite[vq];refine az (EW hx) ?_;refine au ?_;first|refine au (Dd hT (aD ?_))|refine wpAny_bind (wpAny_typeNameOf_itemiter hT (wpAny_pure ?_))
 refine(?_:aw _ _ (rF (.ref it) 2 .none>>=_) _ _ s);refine au (xh Fu ac (by exact lB ac) ?_);refine au ?_;simp only[rt,Cj];refine au (nf (au (m:=Ck _ _) (rn (a:=fR) (by first|rfl|(simp only[firstArgMember];rfl))<|wpAny_newObj_type ?_ (by size_fits))) (by size_fits));dsimp only[ru];refine au (Cn ?_);refine az (hh) ?_;refine au (aD (Co ?_));refine au (o7 (T:="StopIteration") (b:=aj) ⟨_,cT _ ac,ac⟩ Cq ?_);exact aD (hQ _ (((dF ..).extBut.push _).push _))
end
section
variable{A:aW}{s:aq}{ρ:af ao}{st st':af O}
theorem yT{H:aO}{d I:ao}{es:bj bQ}{ep:ag}{ps:af (V×V)}(LX:∀b∈ρ,b<H.objs.size)(hd:H.get? d=ae (cV es ep))(he:kz H ρ es.toList ps)(hI:H.objs.size<=I):
  Fo H ρ I (cO ps) (λi h=>wT h I d i es.size ep/\H.objs.size<=h.objs.size) where
 frame:=λS _ _ i h h' hS _ ⟨⟨a,b,c,e,h0,ho⟩,sz⟩ k kp=>⟨⟨a,b,c,e,h0,k _ _ hS.symm ho⟩,by
  have j1:=cB (k _ _ hS.symm ho)
  exact bz (rL hI j1)⟩
 fld:=λi h ⟨⟨a,b,c,e,_,ho⟩,_⟩=>⟨_,_,ho,ac⟩
 item:=λA i s v hh ⟨hit,sz⟩ kp hv=>by
  unfold cO at hv
  replace hv:=(gw)▸hv
  refine bH (lE.mp hv) λp hp z1=>?_
  subst z1
  refine bH (he.get' hp) λe hx q=>?_
  rw[dS] at hx
  refine Fs hit (kp _ _ hd) hx λh' LU ht ext=>⟨_,h',s.toks,ac,ac,⟨LU,?_⟩,ext,?_⟩
  ·exact lT sz (bz (cB ht))
  ·refine bn hit λa b c f _ ho=>?_
   have tk:dc H ρ h' ρ:=λb items t=>(ox ext ho ac) _ _ ((eR kp) _ _ t)
   exact .tup (items:=#[e.key,e.val]) ⟨λhm=>aV (LX _ hm) (nh.mpr sz),0,ht⟩ (.cons (q.key.mono tk Pre.refl) (.cons (q.val.mono tk Pre.refl) .nil))
 done:=λA s hh ⟨hit,sz⟩ kp=>by
  refine wk hh hit (kp _ _ hd) (by unfold cO;rw[be];exact(show es.toList.length=es.size from ac)▸bJ he.length) λh' ext=>⟨h',s.toks,ac,ac,λb o hb e=>ext b o hb e⟩
theorem zT{d v:ao}{es:bj bQ}{ep:ag}{ps:af (V×V)}{Q:af ak->aq->Prop}{E:ak->aq->Prop}(hh:A.handled=aC)(hz:ps.length<=16777216)(LX:∀b∈ρ,b<s.heap.objs.size)(hv:s.heap.IsItemsView v d)(hd:s.heap.get? d=ae (cV es ep))(he:kz s.heap ρ es.toList ps)(h:∀xy h' tk,(∀b o,s.heap.get? b=ae o->h'.get? b=ae o)->eB h' ρ xy (cO ps)->Q xy {s with heap:=h',toks:=tk}):aw (ay Wc.prog Wc.w) A (uC (.ref v)) Q E s:=by
 refine jj (id hv) λo ho hc hf=>pK (T:="dict_items") (P:=λvs d=>vs=cO ps/\d=s.drawn) hh (λvs d q=>by refine az q.1 ?_;unfold cO;rw[be];exact hz) (by decide) (by decide) (cB ho) (λh' kp=>⟨_,kp _ _ ho,hc⟩) (λA E s1 Q kp q=>yS ⟨_,kp _ _ ho,hc⟩ q)
  (λA E s1 Q kp sz wS hq=>uF ((λkp=>⟨o,kp _ _ ho,hc,hf⟩) kp) (kp _ _ hd) (hq _ _ s1.drawn _ _ ⟨ac,wS⟩ (aP _) (yT LX hd he sz) ⟨⟨_,_,_,_,.inl ac,cT _ ac⟩,lT sz (by rw[eW];exact pG _)⟩ λb o e=>bW _ e)) λxy h' tk d1 vs q kp rr=>by refine fB q λz2 z3=>?_;subst z2;subst z3;exact h xy h' tk kp rr
end
section
variable{n:ag}{A:aW}{s:aq}{ρ:af ao}{st st':af O}{env:bD}{sc:aX}{m:Env}{r:V}
theorem Fw(IH:b7 n){a b c d:aK}{p q k u:PE}{pos:bu}(ta:TE sc a p)(tb:TE sc b q)(tc:TE sc c k)(td:TE sc d u)(rm:dO n A)(R:Rel s.heap ρ st)(N:cD s.heap ρ env sc m)(e:sL (λe=>(run Wc.G n).ev e m) p q k u st=ae (r,st')):aw (ay Wc.prog Wc.w) A (bw (.Dict [ae a,ae c] [b,d] pos) env) (gz s ρ r st') dC s:=by
 have hu:=rm.hu;refine ba e λx st0 e0 f0=>?_;revert f0;refine tZ e0 λf0=>ba f0 λx1 d4 e1 f1=>ba f1 λy1 nT e2 f2=>ba f2 λx2 MS e3 f3=>ba f3 λy2 Lg e4 f4=>?_;rw[arm_eval_Dict];have WZ:(evalEachOpt [ae a,ae c] env).zip ((evalEach [b,d] env).map λv=>do let x<-v;mZ pos;bB x)=[(bw a env,do let x<-bw b env;mZ pos;bB x),(bw c env,do let x<-bw d env;mZ pos;bB x)].map λp=>(ae p.1,p.2):=ac;refine az WZ<|az (dictDisplay_pairs _ (by exact yj _ _) (by exact lB ac))<|wpAny_bind (jr (au ?_));unfold subDict;refine au (JG<|wpAny_bind (cy<|az (aF (by exact lB ac)) ?_));have g0:Good mA s ρ (st++[.dict []]) {s with heap:=s.heap.push {cls:=.type "dict",data:=.dict #[]}} (ρ++[s.heap.objs.size]):=
  mC R (λb o e=>bW _ e) (by rw[eW];exact pG _) s.toks (aP _) (cT _ ac) (.dict (n:=0) .nil fh)
 refine au (evalPairs_cons (IH.go ta rm g0.rel (N.go R g0) e1 λxv s1 d0 g1 z1=>au (IH.go tb rm g1.rel ((N.go R g0).go g0.rel g1) e2 λyv s2 lu g2 z2=>au (jr (aD<|evalPairs_cons (IH.go tc rm g2.rel (((N.go R g0).go g0.rel g1).go g1.rel g2) e3 λxw s3 MT g3 z3=>au (IH.go td rm g3.rel ((((N.go R g0).go g0.rel g1).go g1.rel g2).go g2.rel g3) e4 λyw s4 Qp g4 z4=>au (jr (aD (evalPairs_nil ?_))))))))));have xD:=(((VR.ref (gN R _):VR _ _ (oU s.heap.objs.size) (.ref st.length)).go g0.rel g1).go g1.rel g2).go g2.rel g3|>.go g3.rel g4;have w1:=((z1.go g1.rel g2).go g2.rel g3).go g3.rel g4;have w2:=(z2.go g2.rel g3).go g3.rel g4;have w3:=z3.go g3.rel g4;refine yt f4 λi ps hi l g=>?_;replace hi:=Internal.V.ref.inj hi;subst hi;refine bH xD.BX λD hD pD=>?_;injection hD with hD;subst hD;refine bC g λpk gg=>?_;induction ps with
 |cons _ _=>exact ff pk
 |nil=>
 refine ba gg λ_ RA g5 g6=>fB (gA g5) λhl z1=>?_;subst z1;refine bo g6<|kS (g4.rel.dict pD l) λes n0 hd he hn=>?_;replace pk:(V.pure x1&&V.pure x2)=aj:=pk;rw[cY] at pk;refine cy ?_;rw[o4];refine au (au (au (qW (rL (eD (lB ac) _) hu) pk.1 w1 w2 hd he hn (by simp) λh1 tk1 MV n1 zB Jo he1=>aD ?_)));have t1:=mD (ρ:=Qp) zB hd (.inl ⟨_,_,ac⟩);dsimp only;rw[o4];refine au (au (qW (s:={s4 with heap:=h1,toks:=tk1}) (rL (bL (lB ac)) hu) pk.2 (w3.mono t1 Pre.refl) (z4.mono t1 Pre.refl) Jo (he1.mono t1 Pre.refl) (cJ.du (ps:=[]) fh) (by have j1:=vT x1 y1 [];simp at j1⊢;exact lB ac) λh2 Ve Yh n2 wA hd2 WN=>aD ?_));have t2:=mD (ρ:=Qp) wA Jo (.inl ⟨_,_,ac⟩);dsimp only;exact az RW<|wpAny_pure (aD (aD<|wpAny_pure ⟨Qp,g0.trans (g1.trans (g2.trans (g3.trans (g4.trans (ii g4.rel Ve pD hl.2 (zB.trans wA) hd2 (o:=.dict (dictOf [(x1,y1),(x2,y2)])) (.dict (WN.mono t2 Pre.refl) (qB _))))))),.ref pD⟩))
end
section
variable{A A':aW}{s:aq}{ρ:af ao}{st st':af O}
theorem Fx{H:aO}{T:aA}{r S:ao}{c0:ag}{res:ak}{vs:af V}{Rz:jq->aq->Prop}{E:ak->aq->Prop}(hh:A.handled=aC)(hz:vs.length<=16777216)(nl:(kM T==kM "list")=aQ)(nt:(kM T==kM "tuple")=aQ)
  (hSr:S≠r)(hS:H.objs.size<=S)(kp:∀b o,H.get? b=ae o->s.heap.get? b=ae o)(Vg:H.objs.size<=s.heap.objs.size)(ho:s.heap.get? S=ae (eM #[] c0))(ty:s.TypeIs (.ref r) T)
  (hint:∀(A:aW) (E:ak->aq->Prop) (s1:aq) (Q:aY->aq->Prop),(∀b o,H.get? b=ae o->s1.heap.get? b=ae o)->Q aQ s1->aw (ay Wc.prog Wc.w) A (uD (.ref r)) Q E s1)
  (iter:∀(A:aW) (E:ak->aq->Prop) (s1:aq) (Q:ak->aq->Prop),(∀b o,H.get? b=ae o->s1.heap.get? b=ae o)->H.objs.size<=s1.heap.objs.size->
   (∀oI:cM,(∃St,Fo H ρ s1.heap.objs.size vs St/\St 0 (s1.heap.push oI))->Q (.ref s1.heap.objs.size) {s1 with heap:=s1.heap.push oI})->aw (ay Wc.prog Wc.w) A (i4 (.ref r)) Q E s1)
  (fin:∀h' tk vu c',(∀b o,H.get? b=ae o->h'.get? b=ae o)->h'.get? S=ae (eM vu c')->eB h' ρ vu.toList vs->Rz (.ok (.ret res)) {s with heap:=h',toks:=tk}):
  aw (ay Wc.prog Wc.w) A' (C4 (.ref S) (.ref r) res) (λfin s'=>match fin with|.done f=>Rz (.ok f) s'|.again c'=>c'.quiet=aj/\fO (ay Wc.prog Wc.w) A c' Rz s') E s:=by
 have key:∀(I:ao)(h1:aO)(c:ag)(St:ag->aO->Prop),Fo H ρ I vs St->H.objs.size<=I->I≠S->St 0 h1->(∀b o,H.get? b=ae o->h1.get? b=ae o)->h1.get? S=ae (eM #[] c)->
   fO (ay Wc.prog Wc.w) A (.builtin "list.extend.loop" ⟨[.ref S,.ref I,res],[]⟩) Rz {s with heap:=h1}:=λI h1 c St F hI tX oM kp hs=>
  vW hh F hI hS tX hz vs.length 0 {s with heap:=h1} #[] c (ac) (bR _) oM kp hs (by simp;exact .nil) fin
 unfold C4
 refine au (pJ ty ?_)
 have h1:C5 (.ref S) (.ref r)=aQ:=by simp[C5,hSr]
 simp -iota only[h1,nl,nt,Ot,jN,iA]
 refine au (iter _ _ _ _ kp Vg λoI hq=>bH hq λSt F oM=>?_)
 have Gz:∀b o,H.get? b=ae o->(s.heap.push oI).get? b=ae o:=λb o e=>bW _ (kp b o e)
 have SS:(s.heap.push oI).get? S=ae (eM #[] c0):=bW _ ho
 have OB:S≠s.heap.objs.size:=b8 (cB ho)
 refine au (cy (hint _ _ _ _ Gz<|wpAny_ite_split (λ_=>au (fN<|wpAny_bind<|wpAny_bind (pE SS ac ?_))) (λ_=>aD ⟨ni rE _,key _ _ _ _ F Vg OB.symm oM Gz SS⟩)))
 have Zz:=gG (cK (·.push fR)) SS ac
 refine pE (hz:=by seq_fits) Zz ac ?_
 have zB:=dF (s.heap.push oI) S (cK (·.push fR))
 have wA:=dF ((s.heap.push oI).update S (cK (·.push fR))) S (cK (·.pop))
 have Vi:∀b o,H.get? b=ae o->(((s.heap.push oI).update S (cK (·.push fR))).update S (cK (·.pop))).get? b=ae o:=λb o e=>
  have tX:b≠S:=λq=>aV (cB e) (nh.mpr (q▸hS))
  (wA.2 b tX).trans ((zB.2 b tX).trans (Gz b o e))
 exact aD ⟨ni rE _,key _ _ _ _ F Vg OB.symm (F.frame S _ _ _ _ _ OB SS oM (λb o q e=>(wA.2 b q).trans ((zB.2 b q).trans e)) Vi) Vi (gG (cK (·.pop)) Zz ac)⟩
end
section
variable{A:aW}{s:aq}{ρ:af ao}{st st':af O}
theorem Hu{d v:ao}{es:bj bQ}{ep:ag}{ps:af (V×V)}(hh:A.handled=aC)(hz:ps.length<=16777216)(R:Rel s.heap ρ st)(hv:s.heap.IsItemsView v d)(hd:s.heap.get? d=ae (cV es ep))(he:kz s.heap ρ es.toList ps):aw (ay Wc.prog Wc.w) A (cf (.type "list") [.ref v]) (gz s ρ (.ref st.length) (st++[.list (cO ps)])) dC s:=by
 refine jj (id hv) λo ho hc hf=>?_;have view:∀{h:aO},(∀b o,s.heap.get? b=ae o->h.get? b=ae o)->h.IsItemsView v d:=λkp=>⟨o,kp _ _ ho,hc,hf⟩;have hS:(s.heap.push {cls:=.type "list",data:=.seq #[]}).get? s.heap.objs.size=ae (eM #[] 0):=cT _ ac;refine bG s.heap.objs.size (aP _) (ry S5 (PySem.F.typeCall_list_1 _) PySem.F.entry_list_init (λCF q=>code_list_new _ q) ⟨_,hS,ac⟩ (λq=>S5.init.check _ _ _ _ _ _ _ _ ⟨_,hS,ac⟩ (PySem.F.args_list_init_2 _ _) q)<|wpAny_bind ?_);unfold Builtin.List.listItems;refine au (jM hS ac (aD<|wpAny_bind (pE hS ac ?_)));have sb:=dF (s.heap.push {cls:=.type "list",data:=.seq #[]}) s.heap.objs.size (cK (λ_=>(#[]:bj ak)));have kp:∀b o,s.heap.get? b=ae o->((s.heap.push {cls:=.type "list",data:=.seq #[]}).update s.heap.objs.size (cK (λ_=>(#[]:bj ak)))).get? b=ae o:=λb o e=>
  (sb.2 b λq=>bS _ (q▸cB e)).trans (bW _ e)
 refine au (xi ?_);refine Fx (H:=s.heap) (T:="dict_items") (vs:=cO ps) (by trivial) (by unfold cO;rw[be];exact hz) (by decide) (by decide) (λq=>bS _ (q▸cB ho)) (aP _) kp (by refine az sb.1 ?_;simp) (gG (cK (λ_=>(#[]:bj ak))) hS ac) ⟨_,kp _ _ ho,hc⟩
  (λA E s1 Q kp q=>yS ⟨_,kp _ _ ho,hc⟩ q)
  (λA E s1 Q kp sz hq=>uF (view kp) (kp _ _ hd) (hq _ ⟨_,yT (λb m=>R.lt m) hd he sz,⟨⟨_,_,_,_,.inl ac,cT _ ac⟩,lT sz (by rw[eW];exact pG _)⟩⟩)) λh' tk vu c' WR ha rr=>?_
 refine⟨ac,λsz=>⟨_,mC R WR sz tk (aP _) ha (.list (rr.mono (λb items t=>?_) (Pre.append _))),.ref (gN R _)⟩⟩;obtain⟨nb,m,e⟩:=t;refine⟨λhm=>?_,m,e⟩;rcases cR.mp hm with hm|hm
 ·exact nb hm
 ·rw[bX] at hm;subst hm;exact aV (bf (jW C0) (ha▸e)) (by simp)
end
section
variable{A:aW}{s:aq}{d:ao}{es:bj bQ}{ep:ag}
theorem Hv{Q:ak->aq->Prop}{E:ak->aq->Prop}(hm:(d==gk)=aQ)(hd:s.heap.get? d=ae (cV es ep))(h:Q (.ref s.heap.objs.size) {s with heap:=s.heap.push {cls:=.type "dict_items",data:=.fields #[.ref d]}}):aw (ay Wc.prog Wc.w) A (cf (.builtin "dict.items") [.ref d]) Q E s:=by have hT:s.TypeIs (.ref d) "dict":=⟨_,hd,ac⟩;refine gx S6 hT PySem.F.entry_dict_items ?_ (PySem.F.args_dict_items_1 _);unfold Builtin.«dict.items»;refine au ?_;unfold Builtin.Dict.noArgs;refine au (qY hT<|wpAny_pure ?_);unfold CO;refine az (aG (by refine az hm ?_;exact cE)) ?_;exact au (aD<|wpAny_bind (nf (aD ⟨_,ac,h⟩)))
end
section
variable{n:ag}{A:aW}{s:aq}{ρ:af ao}{st st':af O}{env:bD}{sc:aX}{m:Env}
theorem yU(ok:Wc.Ok)(IH:b7 n){f:aA}{F:ak}{e:aK}{p:PE}{fp ap pos uw:bu}{Q:ak->aq->Prop}(hb:(f,F)∈kI)(pl:kK F)(g1:sr sc f)(te:TE sc e p)(pb:eQ e (aB "items"))(hp:(ap.endLine==uw.line)=aj)(rm:dO n A)(R:Rel s.heap ρ st)(N:cD s.heap ρ env sc m){i:ag}{d4:af O}{ps:af (V×V)}(e1:(run Wc.G n).ev p m st=ae (.ref i,d4))(l:d4[i]?=ae (.dict ps))(h:∀v s2 d0 es ep d,Good mA s ρ d4 s2 d0->s2.heap.IsItemsView v d->s2.heap.get? d=ae (cV es ep)->kz s2.heap d0 es.toList ps->aw (ay Wc.prog Wc.w) A (cf F [.ref v]) Q dC s2):aw (ay Wc.prog Wc.w) A (bw (.Call (.Name (aB f) fp) [.Call (.Attribute e (aB "items") ap) [] [] uw] [] pos) env) Q dC s:=by refine q9 (jA ok R N g1 (EX ok hb) (eo (T:=λ_ _=>iZ) pl (.cons (p:=p) bp ac .nil)<|wpAny_items_cons (Jw (IH.go te rm R N e1 λo' s1 d0 q1 x1=>bH x1.BX λd z1 pd=>?_) (qx pb hp (by simp) (Ak.nil (T:=TE sc)))) (by rfl)));subst z1;refine kS (q1.rel.dict pd l) λes k hd he hn=>Cy ⟨_,hd,ac⟩ Si S6 PySem.F.type_dict_items (λb e=>by(replace e:=Cz e;subst e);exact⟨_,hd,ac⟩)<|eo dX (Ak.nil (T:=TE sc)) (xc ⟨q1.rel.base,Hv (q1.rel.qX ok.mods pd) hd (xc ⟨λb o e=>bW _ (q1.rel.base b o e),?_⟩)⟩);exact h _ _ d0 es k d (q1.trans (ig q1.rel {cls:=.type "dict_items",data:=.fields #[.ref d]} s1.toks)) ⟨_,cT _ ac,ac,ac⟩ (bW _ hd) (he.mono (eR λb o e=>bW _ e) Pre.refl)
end
section
variable{n:ag}{A:aW}{s:aq}{ρ:af ao}{st st':af O}{env:bD}{sc:aX}{m:Env}
theorem wo(ok:Wc.Ok)(IH:b7 n)(hh:A.handled=aC){e:aK}{p:PE}{fp ap pos uw:bu}(g1:sr sc "list")(te:TE sc e p)(pb:eQ e (aB "items"))(hp:(ap.endLine==uw.line)=aj)(rm:dO n A)(R:Rel s.heap ρ st)(N:cD s.heap ρ env sc m){v r:V}{d4:af O}(e1:(run Wc.G n).ev p m st=ae (v,d4))(e2:iV "listItems" v d4=ae (r,st')):aw (ay Wc.prog Wc.w) A (bw (.Call (.Name (aB "list") fp) [.Call (.Attribute e (aB "items") ap) [] [] uw] [] pos) env) (gz s ρ r st') dC s:=by refine yt (e2) λi ps hv l g=>bC g λq g=>iM g λ_=>?_;subst hv;exact yU ok IH (F:=.type "list") (by decide) fP g1 te pb hp rm R N e1 l λv s2 d0 es ep d g2 hv hd he=>jS g2 (Hu hh (cA (cb.mp q).2) g2.rel hv hd he)
theorem uG(ok:Wc.Ok)(IH:b7 n)(hh:A.handled=aC)(hu:A.units+20<b6){e:aK}{p:PE}{fp ap pos uw:bu}(g1:sr sc "sorted")(te:TE sc e p)(pb:eQ e (aB "items"))(hp:(ap.endLine==uw.line)=aj)(rm:dO n A)(R:Rel s.heap ρ st)(N:cD s.heap ρ env sc m){v r:V}{d4:af O}(e1:(run Wc.G n).ev p m st=ae (v,d4))(e2:iV "sortedItems" v d4=ae (r,st')):aw (ay Wc.prog Wc.w) A (bw (.Call (.Name (aB "sorted") fp) [.Call (.Attribute e (aB "items") ap) [] [] uw] [] pos) env) (gz s ρ r st') dC s:=by
 refine yt (e2) λi ps hv l g=>bC g λ_ g=>bC (show(if cZ (cO ps) then newList (dh (cO ps)) else fail) d4=ae (r,st') from g) λOO g=>iM g λ_=>?_;subst hv;have h65:ps.length<64:=by simpa[cO] using qV OO
 refine yU ok IH (F:=.builtin "sorted") (by decide) dX g1 te pb hp rm R N e1 l λv s2 d0 es ep d g2 hv hd he=>jS g2 (rD hu g2.rel (bG s2.heap.objs.size (aP _) (zT (by trivial) (bz (lR h65 (lB ac))) (λb m=>g2.rel.lt m) hv hd he λxy h' tk kp rr sz=>⟨jD g2.rel kp sz tk,_,OO,ac,rr⟩)))
end
noncomputable abbrev wq(xs:bj ag):Prop:=xs.toList.Pairwise (·<·)
theorem oy{xs:bj ag}(hr:wq xs){i k d:ag}(h:i<k)(hk:k<xs.size):xs.getD i d<xs.getD k d:=by have h1:i<xs.size:=hF h hk;have:=SM.mp hr i k (‹_›) (by trivial) h;simpa[JT,h1,hk] using this
structure Below(xs:bj ag)(j q:ag):Prop where
 le:q<=xs.size
 lo:∀i,i<q->xs.getD i j<j
 hi:∀i,q<=i->i<xs.size->j<=xs.getD i j
theorem OP{xs:bj ag}(hr:wq xs)(j gc:ag):∀lo hi,lo<=hi->hi<=xs.size->hi-lo<=gc->(∀i,i<lo->xs.getD i j<j)->(∀i,hi<=i->i<xs.size->j<=xs.getD i j)->Below xs j (SetTable.below.go xs j gc lo hi):=by
 induction gc with
 |zero=>exactλlo hi h1 h2 h3 h4 h5=>⟨lT h1 h2,h4,λi q=>h5 i (lT (wB (kO.mp h3)) q)⟩
 |succ gc ih=>
  intro lo hi h1 h2 h3 h4 h5;show Below xs j (if lo<hi then _ else _);by_cases hl:lo<hi
  ·refine az (aF hl) ?_;have m:=mid hl;have w:=Oh m.1 m.2 h3;have ms:=lR m.2 h2;by_cases hc:xs.getD ((lo+hi)/2) j<j
   ·refine az (aF hc)<|ih _ hi m.2 h2 w.2 (λi q=>?_) h5;rcases xt (b9 q) with q|q
    ·exact hF (oy hr q ms) hc
    ·exact q▸hc
   ·refine az (aG hc) ?_;have hc:=nh.mp hc;refine ih lo _ m.1 (bz ms) w.1 h4 λi q hs=>?_;rcases xt q with q|q
    ·exact bz (rL hc (oy hr q hs))
    ·exact q▸hc
  ·exact az (aG hl) (⟨lT h1 h2,h4,λi q=>h5 i (lT (xr hl) q)⟩)
theorem pL{xs:bj ag}(hr:wq xs)(j:ag):Below xs j (fy xs j):=
 OP hr j xs.size 0 xs.size (bR _) (aP _) (aP _) (λi h=>aV h (fM _)) (λi h1 h2=>aV h2 (nh.mpr h1))
theorem rG{xs:bj ag}{i a d:ag}(h:xs[i]?=ae a):xs.getD i d=a:=by refine eh (tV.mp h) λhi he=>?_;simp[JT,hi,he]
theorem below_at{xs:bj ag}(hr:wq xs){i j:ag}(h:xs[i]?=ae j):fy xs j=i:=by
 have b:=pL hr j;have hi:=(tV.mp h).1;have hd:xs.getD i j=j:=rG h;rcases rB (fy xs j) i with q|q|q
 ·exact aV (rL (b.hi _ (aP _) (hF q hi)) (oy hr (d:=j) q hi)) (hd.symm▸bS j)
 ·exact q
 ·exact aV (b.lo i q) (hd.symm▸bS j)
theorem Hw{xs:bj ag}(hr:wq xs){i j:ag}(h:xs[i]?=ae j):fy xs (j+1)=i+1:=by
 have b:=pL hr (j+1);have hd:xs.getD i (j+1)=j:=rG h;rcases rB (fy xs (j+1)) (i+1) with q|q|q
 ·have:=b.hi i (b9 q) ((tV.mp h).1);replace this:=hd▸this;exact aV this (bS j)
 ·exact q
 ·have:=oy hr (d:=j+1) (de i) (lR q b.le);replace this:=hd▸this;exact aV (lR this (b9 (b.lo (i+1) q))) (bS j)
theorem Hx{xs:bj ag}(hr:wq xs):fy xs 0=0:=by
 rcases S7 (fy xs 0) with q|q
 ·exact q
 ·exact aV ((pL hr 0).lo 0 q) (fM _)
structure Tab(t:cx)(n:ag):Prop where
 size:t.place.size=n
 W0:t.dummies=#[]
 ZE:n<=t.mask
 rise:wq t.place
theorem Tab.fits{t:cx}{n:ag}(x:Tab t n):t.fits n=aj:=by simp[J5,De,x.size,x.W0,x.ZE]
theorem AE{t:cx}{n i j:ag}(x:Tab t n)(h:t.place[i]?=ae j):t.slot j=.live i:=by unfold S8;dsimp only;refine az (below_at x.rise h)<|az h ?_;simp
theorem Hy{t:cx}{n j:ag}(x:Tab t n)(h:j∉t.place.toList):t.slot j=.empty:=by
 unfold S8;dsimp only;have h1:(t.place[fy t.place j]?==ae j)=aQ:=by rw[jG];intro q;exact h (sT.mpr (yo q))
 refine az h1<|az x.W0 ?_;trivial
theorem yV{t:cx}{n:ag}(x:Tab t n)(j:ag):(∃i,t.place[i]?=ae j/\t.slot j=.live i)\/(j∉t.place.toList/\t.slot j=.empty):=by
 by_cases h:j∈t.place.toList
 ·refine eh (eX.mp h) λi hi=>?_;replace hi:=(dS)▸hi;exact .inl ⟨i,hi,AE x hi⟩
 ·exact .inr ⟨h,Hy x h⟩
theorem Fy{xs:bj ag}(hr:wq xs){j:ag}(h:j∉xs.toList):wq (uH xs (fy xs j) j):=by
 have b:=pL hr j;show Df _ _;rw[J7,List.pairwise_append];have hr':Df (·<·) xs.toList:=hr;have up:∀c∈xs.toList.drop (fy xs j),j<c:=λc hc=>by refine eh (eX.mp hc) λi hi=>?_;replace hi:=(List.getElem?_drop)▸hi;replace hi:=(dS)▸hi;have:=b.hi _ (bc _ i) (tV.mp hi).1;exact nj ((rG hi)▸this) λq=>h (q▸sT.mpr (yo hi))
 refine⟨hr'.sublist (Sy _ _),rC.mpr ⟨up,hr'.sublist (List.drop_sublist _ _)⟩,λa ha c hc=>eh (eX.mp ha) λi hi=>?_⟩;have hl:=lR (bq.mp hi).1 (Sz _ _);replace hi:=(Sv hl)▸hi;replace hi:=(dS)▸hi;have zD:=b.lo i hl;replace zD:=(rG hi)▸zD;rcases ci.mp hc with q|q
 ·exact q▸zD
 ·exact hF zD (up c q)
theorem kQ{α:Type}(xs:bj α)(p:ag)(x:α):(uH xs p x).size=xs.size+1:=by simpa using((SetTable.insertAt_perm xs p x).length_eq)
theorem J8{t:cx}{n j:ag}(x:Tab t n)(h:j∉t.place.toList)(hf:n+1<=t.mask):Tab (t.put j).1 (n+1) where
 size:=by
  show(uH t.place _ j).size=_
  rewrite[kQ]
  exact az x.size ac
 W0:=by
  show(if SetTable.has t.dummies j then _ else t.dummies)=_
  refine az x.W0 ?_
  trivial
 ZE:=hf
 rise:=Fy x.rise h
theorem Hz(n:ag):wq (Array.range n):=by show Df _ _;exact az Array.toList_range (J9)
theorem nr(t:cx)(n:ag):Tab (t.standIn n) n:=⟨by simp[S9],ac,by simp only[S9];lia,Hz n⟩
theorem AF{mask finger moves:ag}{led plain:aY}{hs:bj aJ}{t:cx}{order:bj ag}(e:Dg mask finger moves led plain hs=ae (t,order)):wq t.place/\t.dummies=#[]/\t.led=led/\t.mask=mask/\t.place.size=order.size/\t.plain=plain:=by
 unfold Dg at e;cases ho:Ka mask hs with
 |none=>replace e:=ho▸e;exact eP e
 |some owner=>
  replace e:=ho▸e;injection e with e;injection e with e1 e2;subst e1;subst e2;refine⟨?_,ac,ac,ac,by simp,ac⟩;simp only[Ta]
  have:∀l:af ag,l.Pairwise (·<·)->(l.filterMap λx=>jW (λx=>x.1) (jW (λk=>(x,k)) (owner.getD x aC))).Pairwise (·<·):=by
   intro l;induction l with
   |nil=>intro _;exact .nil
   |cons a l ih=>
    intro h;refine fB (rC.mp h) λh1 h2=>az qS ?_;cases owner.getD a aC with
    |none=>exact ih h2
    |some k=>
     refine rC.mpr ⟨λb hb=>bH (Rf.mp hb) λc hc e=>?_,ih h2⟩;cases q:owner.getD c aC with
     |none=>replace e:=q▸e;exact eP e
     |some k=>replace e:=q▸e;exact aU e▸h1 c hc
  exact this _ J9
structure SE(h:aO)(ρ:af ao)(e:aJ×ak)(u:V):Prop where
 pure:u.pure=aj
 key:VR h ρ e.2 u
 hash:e.1=cG u
inductive sY(h:aO)(ρ:af ao):af (aJ×ak)->af V->Prop
 |nil:sY h ρ [] []
 |cons{e:aJ×ak}{u:V}{es:af (aJ×ak)}{us:af V}:SE h ρ e u->sY h ρ es us->sY h ρ (e::es) (u::us)
section
variable{h h':aO}{ρ dP:af ao}
theorem sY.mono{es:af (aJ×ak)}{us:af V}(k:dc h ρ h' dP)(q:Pre ρ dP)(x:sY h ρ es us):sY h' dP es us:=by
 induction x with
 |nil=>exact .nil
 |cons a _ ih=>exact .cons ⟨a.pure,a.key.mono k q,a.hash⟩ ih
theorem sY.length{es:af (aJ×ak)}{us:af V}(x:sY h ρ es us):es.length=us.length:=by
 induction x with
 |nil=>rfl
 |cons _ _ ih=>simp[ih]
theorem sY.snoc{es:af (aJ×ak)}{us:af V}{e:aJ×ak}{u:V}(x:sY h ρ es us)(y:SE h ρ e u):sY h ρ (es++[e]) (us++[u]):=by
 induction x with
 |nil=>exact .cons y .nil
 |cons a _ ih=>exact .cons a ih
@[elab_as_elim]theorem sY.lel{e:aJ×ak}{es:af (aJ×ak)}{us:af V}{p:af V->Prop}(x:sY h ρ (e::es) us)(k:∀u us,SE h ρ e u->sY h ρ es us->p (u::us)):p us:=
 sY.casesOn (motive:=λl us _=>l=e::es->p us) x (λe=>(yj _ _ e.symm).elim) (λa b e=>k _ _ ((fk e).1▸a) ((fk e).2▸b)) ac
theorem sY.perm{es jc:af (aJ×ak)}{us:af V}(p:jc.Perm es)(x:sY h ρ es us):∃sv,sv.Perm us/\sY h ρ jc sv:=by
 induction p generalizing us with
 |nil=>exact⟨us,.refl _,x⟩
 |cons a _ ih=>exact x.lel λu us y z=>bH (ih z) λsv q r=>⟨_,q.cons _,.cons y r⟩
 |swap a b l=>exact x.lel λ_ _ y z=>z.lel λ_ _ z1 z2=>⟨_,OQ ..,.cons z1 (.cons y z2)⟩
 |trans _ _ ih1 ih2=>refine bH (ih2 x) λW4 q1 r1=>?_;refine bH (ih1 r1) λW5 q2 r2=>?_;exact⟨W5,q2.trans q1,r2⟩
theorem sY.get{es:af (aJ×ak)}{us:af V}(x:sY h ρ es us):∀{i:ag}{e:aJ×ak},es[i]?=ae e->∃u,us[i]?=ae u/\SE h ρ e u:=by
 induction x with
 |nil=>exactλq=>eP (tS.symm.trans q)
 |cons a _ ih=>
  intro i e q;induction i with
  |zero=>exact⟨_,ac,aU q▸a⟩
  |succ i=>exact ih q
theorem sY.get'{es:af (aJ×ak)}{us:af V}(x:sY h ρ es us):∀{i:ag}{u:V},us[i]?=ae u->∃e,es[i]?=ae e/\SE h ρ e u:=by
 induction x with
 |nil=>exactλq=>eP (tS.symm.trans q)
 |cons a _ ih=>
  intro i e q;induction i with
  |zero=>exact⟨_,ac,aU q▸a⟩
  |succ i=>exact ih q
theorem sY.mem{es:af (aJ×ak)}{us:af V}(x:sY h ρ es us){e:aJ×ak}(m:e∈es):∃u∈us,SE h ρ e u:=by exact eh (eX.mp m) λi hi=>bH (x.get hi) λu hu y=>⟨u,cw hu,y⟩
end
noncomputable abbrev mE(es:bj (aJ×ak))(ep:ag)(t:cx):cM:={cls:=.type "set",data:=.set es ep t}
structure mN(h:aO)(ρ:af ao)(a:ao)(us:af V)(es:bj (aJ×ak))(t:cx):Prop where
 at_:∃ep,h.get? a=ae (mE es ep t)
 LY:sY h ρ es.toList us
 once:us.Nodup
 tab:Tab t es.size
 led:t.led=!Wc.w.params.followText "set-order"
theorem mN.size{h:aO}{ρ:af ao}{a:ao}{us:af V}{es:bj (aJ×ak)}{t:cx}(I:mN h ρ a us es t):es.size=us.length:=by have:=I.LY.length;trivial
theorem Fz{t:cx}{n:ag}(x:Tab t n){hashAt:ag->aJ}{h:aJ}:∀(gc:ag)(p:Kb){j:ag}{d:aS ag},p.dummy=aC->xF t hashAt h gc p=ae (.empty j d)->j∉t.place.toList/\d=aC:=by
 intro l0;induction l0 with
 |zero=>exactλp j d _ e=>eP e
 |succ gc ih=>
  intro p j d hp e;have aah:(t.advance p).dummy=aC:=by
   unfold Tc;split
   ·exact hp
   ·exact hp
  unfold xF at e;rcases yV x p.j with⟨i,h1,h2⟩|⟨h1,h2⟩
  ·replace e:=h2▸e;dsimp only at e;split at e
   ·replace e:=aU e;cases e
   ·exact ih _ aah e
  ·replace e:=h2▸e;replace e:=aU e;cases e;exact⟨h1,hp⟩
theorem LZ{t:cx}{n:ag}(x:Tab t n){h:aJ}{r:ag×aY}(e:t.freeSlot h=ae r):r.1∉t.place.toList/\r.2=aQ:=by
 unfold SetTable.freeSlot at e;split at e
 ·rename_i j d q;refine fB (Fz x _ _ ac q) λh1 z1=>?_;subst z1;replace e:=aU e;subst e;exact⟨h1,ac⟩
 ·exact eP e
theorem Td{t:cx}{es:bj (aJ×ak)}(x:Tab t es.size)(h:aJ)(v:ak):Tab (xG t es h v).2.1 (xG t es h v).1.size/\(xG t es h v).2.1.led=t.led:=by
 unfold xG;cases e:t.freeSlot h with
 |some r=>
  rcases r with⟨slot,wd⟩;refine fB (LZ x e) λh1 _=>?_;dsimp only;unfold SetTable.orStandIn;split
  ·rename_i q;rw[(kQ _ _ _)] at q⊢;refine⟨J8 x h1 ?_,ac⟩;simp -iota only[J5,cY,di,De] at q;have h4:(t.put slot).1.place.size=es.size+1:=by show(uH t.place _ slot).size=_;rewrite[kQ];exact az x.size ac
   exact h4▸lT (bc _ _) (cA q.2)
  ·exact⟨nr _ _,ac⟩
 |none=>refine⟨?_,ac⟩;rw[Hf];exact nr _ _
theorem L0{t:cx}{es:bj (aJ×ak)}(wanted:ag):Tab (uI t es wanted).2.1 (uI t es wanted).1.size/\(uI t es wanted).2.1.led=t.led:=by
 unfold uI;split
 ·rename_i t' order e;refine X5 (AF e) λr1 r2 r3 _=>?_;dsimp only;split
  ·rename_i q;simp -iota only[cY,J5,di,jp,De] at q;exact qg q λ_ q1 q2=>⟨⟨q1,r2,by show _<=t'.mask;refine dm q1 ?_;exact lT (bc _ _) (cA q2),r1⟩,r3⟩
  ·exact⟨nr _ _,ac⟩
 ·exact⟨nr _ _,ac⟩
theorem Tab.plain{t:cx}{n:ag}(x:Tab t n):Tab {t with plain:=aQ} n:=⟨x.size,x.W0,x.ZE,x.rise⟩
section
variable{A:aW}{s:aq}{ρ:af ao}{E:ak->aq->Prop}
theorem rH{a:ao}{us sv:af V}{es jc:bj (aJ×ak)}{t t':cx}{Q:cH->aq->Prop}(I:mN s.heap ρ a us es t)(hs:sY s.heap ρ jc.toList sv)(hn:sv.Nodup)(hT:Tab t' jc.size)(hl:t'.led=t.led)(hz:sv.length<4096)(h:∀h',dH a s.heap h'->mN h' ρ a sv jc t'->Q () {s with heap:=h'}):aw (ay Wc.prog Wc.w) A (Dh a jc t') Q E s:=by
 refine eh I.at_ λep ho=>?_;have sz:jc.size=sv.length:=by have:=hs.length;trivial
 refine wpAny_storeSet_of ho ac (h _ (dF _ a _) ?_) (by refine az fg ?_;exact sz▸bz (lR hz (lB ac)));exact⟨⟨ep+1,gG _ ho ac⟩,hs.mono (λb items ⟨nb,n,e⟩=>⟨nb,n,((dF s.heap a (Obj.putSet jc t')).2 b λq=>by cases q;replace e:=ho▸e;cases bf (jW BI) e).trans e⟩) Pre.refl,hn,hT,by refine az hl ?_;exact I.led⟩
end
section
variable{A:aW}{s:aq}{ρ:af ao}{E:ak->aq->Prop}
noncomputable abbrev Di(s:aq)(ρ:af ao)(a:ao)(us:af V)(u:V)(Q:aq->Prop)(P:af V->bj (aJ×ak)->cx->Prop):Prop:=
 ∀h' sv jc t',dH a s.heap h'->mN h' ρ a sv jc t'->(∀v,v∈sv↔v∈us\/v=u)->P sv jc t'->Q {s with heap:=h'}
theorem Kc(b:aY){cW:aq}{Q':cH->aq->Prop}(hq:Q' () cW):aw (ay Wc.prog Wc.w) A (match b with|true=>rule "set.scan.the-table-gave-way"|false=>bB ()) Q' E cW:=by
 induction b<;>first|exact aD hq|exact fN hq
theorem lV{us W4:af V}{u:V}(p:W4.Perm (us++[u]))(v:V):v∈W4↔v∈us\/v=u:=by refine p.mem_iff.trans ?_;simp
theorem OS{K:Type} [DecidableEq K] (knd:KeyKind Wc.prog Wc.w K) (enc:K->V) (hk:∀k v',VR s.heap ρ v' (enc k)->knd.is k v'=aj/\v'.scannable=aj) (hh:∀k,knd.hash k=cG (enc k)) (pe:∀k,(enc k).pure=aj) {a:ao} {us:af V} {es:bj (aJ×ak)} {t:cx} {k:K} {x:ak} {Q:aY->aq->Prop} (I:mN s.heap ρ a us es t) (nw:∀u∈us,∃k,u=enc k) (hx:VR s.heap ρ x (enc k)) (hz:us.length+1<4096) (h:∀b,Di s ρ a us (enc k) (Q b) λ_ _ _=>iZ):aw (ay Wc.prog Wc.w) A (xH a x (cG (enc k))) Q E s:=by
 refine eh I.at_ λep ho=>?_;have hel:ElemsOf knd es.toList:=λe he=>by refine bH (I.LY.mem he) λu hu y=>eh (nw u hu) λk' z1=>?_;subst z1;rcases hk k' _ y.key with⟨q1,q2⟩;exact⟨⟨k',q1,by(refine az y.hash ?_;rewrite[hh];rfl)⟩,q2⟩
 rcases hk k x hx with⟨x1,x2⟩;have hb:es.size<scanBound:=by refine az I.size ?_;unfold scanBound;exact bz ‹_›
 have hf:=I.tab.fits;rw[<-hh];unfold xH Ke;refine cy (au (kR ho ac hf ?_));dsimp only;refine az (byScan_of x2 hb hel) ?_;simp -iota only[↓reduceIte];unfold setAddByScan;refine au (au (fN (au (wpAny_setScan_of x1 ho ac hf hel ?_))));cases hr:List.findIdx? (λe=>knd.is k e.2) es.toList with
 |some j=>refine bH (List.findIdx?_eq_some_iff_getElem.mp hr) λhj hpj _=>?_;refine aD (aD (h aQ s.heap us es t (xC a s.heap) I (λv=>⟨.inl,λq=>q.elim id λq=>?_⟩) bp));subst q;refine bH (I.LY.mem (dR hj)) λu hu y=>?_;rcases nw u hu with⟨k',rfl⟩;have j1:=knd.inj _ _ _ (hk k' _ y.key).1 hpj;exact j1▸hu
 |none=>
  have W7:enc k∉us:=λhm=>by rcases eX.mp hm with⟨i,hi⟩;refine bH (I.LY.get' hi) λe he y=>?_;have j2:=List.findIdx?_eq_none_iff.mp hr e (cw he);exact ff (((hk k _ y.key).1)▸j2).symm
  have Kf:=layNew_perm t es (knd.hash k) x;refine fB (Td I.tab (knd.hash k) x) λOT L1=>?_;generalize xG t es (knd.hash k) x=L at Kf OT L1⊢;rcases L with⟨MV,t1,OU,W8⟩;dsimp only at Kf OT L1⊢;rw[o5] at Kf;refine bH ((I.LY.snoc ⟨pe k,hx,hh k⟩).perm Kf) λW4 p1 W9=>?_;have n1:W4.Nodup:=p1.nodup_iff.mpr (lK.mpr ⟨I.once,by exact jQ _ _,λb hb c hc q=>by simp at hc;subst hc;subst q;exact W7 hb⟩);have JL:W4.length=us.length+1:=by refine p1.length_eq.trans ?_;exact ct
  refine au (Kc W8 ?_);have tail:∀t2:cx,Tab t2 MV.size->t2.led=t.led->aw (ay Wc.prog Wc.w) A (do
    Dh a MV t2
    if(!OU&&t2.tooFull)=aj then do
      match uI t2 MV (uJ MV.size) with
      |(es,t,W8)=>do
       (match W8 with|true=>rule "set.scan.the-table-gave-way"|false=>bB ())
       Dh a es t
       bB (ae aj)
     else bB (ae aj)) (λr s'=>aw (ay Wc.prog Wc.w) A (match r with|some added=>bB added|none=>Ke a x (knd.hash k) 99999) Q E s') E s:=λt2 hT2 Gy=>by
   refine au (rH I W9 n1 hT2 Gy (JL▸hz) λh1 zB I1=>?_)
   split
   ·have R7:=relayAll_perm t2 MV (uJ MV.size);rcases L0 (t:=t2) (es:=MV) (uJ MV.size) with⟨hT3,hl3⟩;generalize uI t2 MV (uJ MV.size)=L at R7 hT3 hl3⊢;rcases L with⟨Yh,t3,ZF⟩;dsimp only at R7 hT3 hl3⊢;refine bH (I1.LY.perm R7) λW5 p2 aai=>au (Kc ZF<|wpAny_bind (rH (s:={s with heap:=h1}) I1 aai (p2.nodup_iff.mpr n1) hT3 hl3 (by refine az p2.length_eq ?_;exact tL (JL▸b9 hz) ac) λh2 wA I2=>?_));exact aD (aD (h aj h2 W5 Yh t3 (zB.trans wA) I2 (lV (p2.trans p1)) bp))
   ·exact aD (aD (h aj h1 W4 MV t2 zB I1 (lV p1) bp))
  split
  ·refine au<|az (xI 8 x2)<|wpAny_pure (tail _ ?_ ?_)
   ·split
    ·exact OT
    ·exact OT.plain
   ·split
    ·exact L1
    ·exact L1
  ·refine au (aD ?_);simp -iota only[↓reduceIte];exact tail _ OT L1
end
section
variable{E:ak->aq->Prop}{ρ:af ao}{s:aq}
theorem L2{A:aW}{f:ak->cX aY}{items:bj ak}{Q:aY->aq->Prop}
  (he:∀y∈items.toList,∀(Q:aY->aq->Prop),Q aQ s->aw (ay Wc.prog Wc.w) A (f y) Q E s)(h:Q aQ s):
  aw (ay Wc.prog Wc.w) A (do
    for y in items do
     if(<-f y) then return aj
    return aQ) Q E s:=by
 refine au<|dm Jc<|wpAny_forIn_list _ (λrest r s'=>r.1=aC/\s'=s/\∀v∈rest,v∈items.toList) _ ?_ ?_ _ _ ⟨ac,ac,λ_ hv=>hv⟩
 ·rintro v rest r s' ⟨hr,rfl,o6⟩
  refine au (he v (o6 v (.head _)) _ ?_)
  simp only[jN,iA]
  exact aD ⟨ac,ac,λu Gx=>o6 u (.tail _ Gx)⟩
 ·rintro⟨r1,r2⟩ s' ⟨hr,rfl,_⟩
  simp only at hr
  subst hr
  exact aD h
theorem AG(v:V)(n:ag)(v':ak)(A:aW)(Q:aY->aq->Prop)(pv:v.fq n=aj)(x:VR s.heap ρ v' v)(h:Q aQ s):aw (ay Wc.prog Wc.w) A (ofAClassStatement n v') Q E s:=by
 induction n generalizing v v' Q E with
 |zero=>exact dG pv x (λi t=>aD h) (λz t=>aD h) λm a items vs e=>nomatch e
 |succ n ih=>refine dG pv x (λi t=>aD h) (λz t=>aD h) λm a items vs e pv t r=>?_;cases e;obtain⟨o,ho,hc,m,hd⟩:=t.is;unfold ofAClassStatement;refine au (pJ ⟨o,ho,hc⟩<|wpAny_bind (aD ?_));dsimp only;exact az (aG cE)<|wpAny_bind (jM ho hd<|L2 (λy hy Q h=>let⟨v,m,x⟩:=r.back hy;ih v y Q (d5 pv v m) x h) h)
theorem OV{A:aW}{u:V}{x:ak}{stored:af ak}{Q:aY->aq->Prop}(pu:u.pure=aj)(hx:VR s.heap ρ x u)(hs:∀y∈stored,∃k:V,k.pure=aj/\VR s.heap ρ y k)(h:Q aQ s):aw (ay Wc.prog Wc.w) A (searchCouldBeSeen x stored) Q E s:=by
 unfold searchCouldBeSeen;refine au<|wpAny_forIn_list _ (λrest r s'=>s'=s/\r=(aC,())/\∀v∈rest,∃k':V,k'.pure=aj/\VR s.heap ρ v k') _ ?_ ?_ _ _ ⟨ac,ac,hs⟩
 ·rintro y rest r s' ⟨rfl,rfl,hr⟩;refine bH (hr y lD) λk' p' x'=>C8 (λ_=>?_) (λ_=>?_)
  ·exact aD ⟨ac,ac,λv hv=>hr v (iY _ hv)⟩
  ·refine au (wQ u 8 x A _ pu hx ?_);simp only[vc,jN,iA];refine au (wQ k' 8 y A _ p' x' ?_);simp only[vc,jN,iA];refine au (AG u 8 x A _ pu hx ?_);simp only[jN,iA];refine au (AG k' 8 y A _ p' x' ?_);simp only[jN,iA];exact aD ⟨ac,ac,λv hv=>hr v (iY _ hv)⟩
 ·rintro r s' ⟨rfl,rfl,_⟩;exact aD h
theorem Te{A:aW}{f:ak->cX aY}{items:bj ak}{Q:aY->aq->Prop}
  (he:∀y∈items.toList,∀(Q:aY->aq->Prop),(∀b,Q b s)->aw (ay Wc.prog Wc.w) A (f y) Q E s)(h:∀b,Q b s):
  aw (ay Wc.prog Wc.w) A (do
    for y in items do
     if !(<-f y) then return aQ
    return aj) Q E s:=by
 refine au<|dm Jc<|wpAny_forIn_list _ (λrest r s'=>r.1=aC/\s'=s/\∀v∈rest,v∈items.toList) _ ?_ ?_ _ _ ⟨ac,ac,λ_ hv=>hv⟩
 ·rintro v rest r s' ⟨hr,rfl,o6⟩
  refine au (he v (o6 v (.head _)) _ λb=>?_)
  induction b with
  |false=>exact aD (aD (h aQ))
  |true=>exact aD ⟨ac,ac,λu Gx=>o6 u (.tail _ Gx)⟩
 ·rintro⟨r1,r2⟩ s' ⟨hr,rfl,_⟩
  simp only at hr
  subst hr
  exact aD (h _)
theorem OW(v:V)(n:ag)(v':ak)(A:aW)(Q:aY->aq->Prop)(pv:v.fq n=aj)(x:VR s.heap ρ v' v)(h:∀b,Q b s):aw (ay Wc.prog Wc.w) A (hashByValue n v') Q E s:=by
 induction n generalizing v v' Q E with
 |zero=>exact dG pv x (λi t=>by refine az (xI _ ac) ?_;exact aD (h _)) (λz t=>by refine az (xI _ ac) ?_;exact aD (h _)) λm a items vs e=>nomatch e
 |succ n ih=>refine dG pv x (λi t=>by refine az (xI _ ac) ?_;exact aD (h _)) (λz t=>by refine az (xI _ ac) ?_;exact aD (h _)) λm a items vs e pv t r=>?_;cases e;obtain⟨o,ho,hc,m,hd⟩:=t.is;unfold hashByValue;exact au (qU ⟨o,ho,hc⟩ Q8.lookup<|wpAny_bind (jM ho hd<|Te (λy hy Q h=>let⟨v,m,x⟩:=r.back hy;ih v y Q (d5 pv v m) x h) h))
end
noncomputable def jX(m b:ag):ag->ag×ag
 |0=>(b%(m+1),b)
 |k+1=>(((jX m b k).1*5+1+(jX m b k).2/32)%(m+1),(jX m b k).2/32)
noncomputable abbrev q8(b k:ag):ag:=(jX 7 b k).1
noncomputable def posAt(b k:ag):Kb:={j:=q8 b k,more:=0,i:=q8 b k,perturb:=(jX 7 b k).2,dummy:=aC}
theorem OX{t:cx}(hm:t.mask=7)(h:aJ):t.probeStart h=posAt (ck h) 0:=by
 unfold SetTable.probeStart posAt jX;dsimp only;refine az hm ?_;have:xJ 7 (ck h%(7+1))=ck h%(7+1):=by unfold xJ;(exact(aG (by lia)))
 refine az this ?_;rewrite[Nat.sub_self];rfl
theorem OY{t:cx}(hm:t.mask=7)(b k:ag):t.advance (posAt b k)=posAt b (k+1):=by unfold Tc;refine az (aG (bS 0)) ?_;unfold SetTable.leap;dsimp only;refine az hm ?_;rw[(λi=>by unfold xJ;(refine az (aG (by lia)) ?_;rfl):∀i,xJ 7 i=i),Nat.sub_self];rfl
theorem zU(m b:ag):∀k,(jX m b k).2=b/32^k:=by
 intro l0;induction l0 with
 |zero=>exact by simp[jX]
 |succ k ih=>exact by(rewrite[jX];refine az ih ?_;rewrite[Nat.div_div_eq_div_mul,rI];rfl)
theorem HB{m b:ag}(hb:b<2^64):∀k,13<=k->(jX m b (k+1)).1=((jX m b k).1*5+1)%(m+1):=λk hk=>by
 have:(jX m b k).2=0:=by
  rw[zU];refine Nat.div_eq_of_lt (lR hb ?_)
  calc 2^64<=32^13:=by decide
   _<=32^k:=jy (by decide) hk
 rewrite[jX];exact az this ac
theorem FA(m b:ag):∀k,(jX m b k).1<m+1:=by
 intro l0;induction l0 with
 |zero=>exact Dj _ (oQ _)
 |succ k ih=>exact Dj _ (oQ _)
theorem Kg(h:aJ):ck h<2^64:=by unfold ck;exact(NM (Xa h (by decide))).mpr (Xb h (by decide))
noncomputable def Kh(m:ag):ag->ag->ag
 |0,i=>i
 |k+1,i=>(Kh m k i*5+1)%(m+1)
theorem yW{m b:ag}(hb:b<2^64):∀k,(jX m b (13+k)).1=Kh m k (jX m b 13).1:=by
 intro l0;induction l0 with
 |zero=>exact ac
 |succ k ih=>exact by(refine az (ac:13+(k+1)=13+k+1) ?_;refine az (HB hb _ (bc _ _)) ?_;refine az ih ?_);rfl
theorem Xc:∀i,i<8->∀j,j<8->∃k,k<8/\Kh 7 k i=j:=by decide
theorem Tf:∀i,i<32->∀j,j<32->∃k,k<32/\Kh 31 k i=j:=by decide+kernel
theorem Xd{b j:ag}(hb:b<2^64)(hj:j<8):∃k,k<=20/\q8 b k=j:=by exact bH (Xc _ (FA 7 b 13) j hj) λk h1 h2=>⟨13+k,bL (b9 h1),(yW hb k).trans h2⟩
theorem L3{xs:bj ag}(hr:wq xs)(n:ag)(h:∀j,j<n->j∈xs.toList):n<=xs.size:=by
 have key:∀k,k<n->∃i,k<=i/\xs[i]?=ae k:=by
  intro k;induction k with
  |zero=>intro q;exact eh (eX.mp (h 0 q)) λi hi=>⟨i,bR _,by refine dm (dS) ?_;exact hi⟩
  |succ k ih=>
   intro hk;refine bH (ih (Nat.lt_of_succ_lt hk)) λi h1 h2=>eh (eX.mp (h (k+1) hk)) λi' wa=>?_;replace wa:=(dS)▸wa;refine⟨i',?_,wa⟩;rcases rB i i' with q|q|q
   ·exact rL h1 q
   ·replace wa:=(km q)▸wa;exact aV (aU (h2▸wa)) (b8 (de k))
   ·have:=oy hr (d:=0) q (tV.mp h2).1;replace this:=(rG h2)▸this;replace this:=(rG wa)▸this;exact aV this (Nat.not_lt_of_lt (de k))
 induction n with
 |zero=>exact bR _
 |succ n=>exact bH (key n (de n)) λi h1 h2=>rL h1 (tV.mp h2).1
theorem ZG{t:cx}{n:ag}(x:Tab t n)(hm:t.mask=7){b:ag}(hb:b<2^64):∃k,k<=20/\q8 b k∉t.place.toList:=by
 have:∃j,j<8/\j∉t.place.toList:=by refine GK λhn=>?_;have:=L3 x.rise 8 λj hj=>GK λq=>hn ⟨j,hj,q⟩;have h1:=x.size;have h2:=x.ZE;exact bZ (rL h2 (hm▸bT this ac)) h1
 exact bH this λj h1 h2=>bH (Xd hb h1) λk h3 h4=>⟨k,h3,h4▸h2⟩
@[elab_as_elim]theorem OZ{t:cx}{n:ag}(x:Tab t n)(hm:t.mask=7){hashAt:ag->aJ}{h:aJ}{b k0:ag}(he:q8 b k0∉t.place.toList)(gc:ag):∀(k:ag),k<=k0->k0-k<gc->∀{C:aS SetTable.Met->Prop},(∀k',k<=k'->q8 b k'∉t.place.toList->(∀m,k<=m->m<k'->∃i,t.place[i]?=ae (q8 b m)/\hashAt i≠h)->C (ae (.empty (q8 b k') aC)))->(∀k' i,k<=k'->k'<k0->t.place[i]?=ae (q8 b k')->hashAt i=h->(∀m,k<=m->m<k'->∃i,t.place[i]?=ae (q8 b m)/\hashAt i≠h)->C (ae (.candidate (q8 b k') i (posAt b (k'+1)))))->C (xF t hashAt h gc (posAt b k)):=by
 induction gc with
 |zero=>exactλk _ h2=>aV h2 (fM _)
 |succ gc ih=>
  intro k h1 h2 C hE hC;unfold xF;rcases yV x (posAt b k).j with⟨i,s1,s2⟩|⟨s1,s2⟩
  ·refine az s2 ?_;dsimp only;have hk:k<k0:=nj h1 λq=>he (q▸sT.mpr (yo s1));by_cases hc:(hashAt i==h)=aj
   ·refine az (aF hc) ?_;rewrite[OY hm];exact hC k i (aP _) hk s1 (jp.mp hc) λm a c=>aV c (cU a)
   ·refine az (aG hc) ?_;rewrite[OY hm];have step:∀k',(∀m,k+1<=m->m<k'->∃i,t.place[i]?=ae (q8 b m)/\hashAt i≠h)->∀m,k<=m->m<k'->∃i,t.place[i]?=ae (q8 b m)/\hashAt i≠h:=λk' r m a c=>by
     rcases xt a with q|q
     ·exact r m q c
     ·exact q▸⟨i,s1,λe=>hc (jp.mpr e)⟩
    exact ih (k+1) hk (lR (uf hk (de k)) (b9 h2)) (λk' a n r=>hE k' (rp a) n (step k' r)) λk' i' a a2 p q r=>hC k' i' (rp a) a2 p q (step k' r)
  ·exact az s2 (hE k (aP _) s1 λm a c=>aV c (cU a))
structure HC(us:af V)(t:cx):Prop where
 mask:t.mask=7
 lJ:∀u∈us,sG u=aj
 reach:∀q∈us.zip t.place.toList,∃m,q8 (ck (cG q.1)) m=q.2/\∀k,k<m->q8 (ck (cG q.1)) k∈t.place.toList
section
variable{A:aW}{s:aq}{ρ:af ao}{E:ak->aq->Prop}
theorem VR.O0{h:aO}{v:ak}{u:V}(hu:sG u=aj)(x:VR h ρ v u):∃b,v=.ref b:=by cases x<;>first|exact⟨_,ac⟩|exact ff hu
theorem Xf{h:aO}{a:ao}{us:af V}{es:bj (aJ×ak)}{t:cx}{u:V}{k':ag}(I:mN h ρ a us es t)(S:HC us t)(a4:q8 (ck (cG u)) k'∉t.place.toList)(all:∀m:ag,m<k'->∃i:ag,t.place[i]?=ae (q8 (ck (cG u)) m)/\us[i]?≠ae u):u∉us:=λhm=>by
 refine eh (eX.mp hm) λi hi=>?_;have hp:i<t.place.size:=by(refine az I.tab.size ?_;refine az I.size ?_);exact(bq.mp hi).1
 have K8:t.place[i]?=ae t.place[i]:=jK hp;refine bH (S.reach (u,t.place[i]) (eX.mpr ⟨i,JM.mpr ⟨hi,by refine(dS).trans ?_;exact K8⟩⟩)) λm h1 h2=>?_;replace K8:=(km (show q8 (ck (cG u)) m=t.place[i] from h1))▸K8;rcases rB m k' with q|q|q
 ·exact bH (all m q) λi' h3 h4=>((km ((below_at I.tab.rise K8).symm.trans (below_at I.tab.rise h3)))▸h4) hi
 ·exact a4 (q▸sT.mpr (yo K8))
 ·exact a4 (h2 k' q)
theorem FC{a:ao}{us:af V}{es:bj (aJ×ak)}{t:cx}{x:ak}{u:V}{Q:SetFound->aq->Prop}(I:mN s.heap ρ a us es t)(S:HC us t)(pu:u.pure=aj)(hx:VR s.heap ρ x u)(hu:A.units+20<b6){k0:ag}(he:q8 (ck (cG u)) k0∉t.place.toList)(hk0:k0<=20)(Qm:u∈us->Q (.there aC) s)(aaj:u∉us->∀m,q8 (ck (cG u)) m∉t.place.toList->(∀k,k<m->q8 (ck (cG u)) k∈t.place.toList)->Q (.free (q8 (ck (cG u)) m) aQ) s):∀(d gc k:ag)(O1:aS Kb),O1.getD (t.probeStart (cG u))=posAt (ck (cG u)) k->k0-k=d->k<=k0->d<gc->(∀m:ag,m<k->∃i:ag,t.place[i]?=ae (q8 (ck (cG u)) m)/\us[i]?≠ae u)->aw (ay Wc.prog Wc.w) A (Ki a x (cG u) aj gc O1) Q E s:=by
 refine eh I.at_ λep ho=>?_;have hf:=I.tab.fits;intro d;induction d using Tg with
 |_ d ih=>
 intro gc k O1 oM hd hk hfu ZH;induction gc with
 |zero=>exact aV hfu (fM _)
 |succ gc=>
 refine au (kR ho ac hf ?_);dsimp only;have hg:t.gaveWay=aQ:=by unfold SetTable.gaveWay;refine az S.mask ?_;rfl
 refine az hg<|az oM<|az (aG cE) ?_;have W7:∀{i m:ag},t.place[i]?=ae m->(λi=>((es[i]?).map (·.1)).getD 0) i≠cG u->us[i]?≠ae u:=λ{i m} h1 h2 h3=>by refine bH (I.LY.get' h3) λe he y=>?_;rw[dS] at he;exact h2 (by dsimp only;refine az he ?_;exact y.hash)
 have merge:∀k':ag,(∀m:ag,k<=m->m<k'->∃i:ag,t.place[i]?=ae (q8 (ck (cG u)) m)/\(λi=>((es[i]?).map (·.1)).getD 0) i≠cG u)->∀m:ag,m<k'->∃i:ag,t.place[i]?=ae (q8 (ck (cG u)) m)/\us[i]?≠ae u:=λk' r m hm=>by
  rcases gZ m k with q|q
  ·exact ZH m q
  ·exact bH (r m q hm) λi h1 h2=>⟨i,h1,W7 h1 h2⟩
 have e:t.probe (λi=>((es[i]?).map (·.1)).getD 0) (cG u) (posAt (ck (cG u)) k)=xF t (λi=>((es[i]?).map (·.1)).getD 0) (cG u) 220 (posAt (ck (cG u)) k):=by unfold SetTable.probe;exact az S.mask ac
 erw[e];refine OZ I.tab S.mask he 220 k hk (rL (kL _ _) (rL hk0 (by decide))) (λk' a1 a4 a5=>?_) λk' i a1 a2 a4 a5 a6=>?_
 ·exact aD (aaj (Xf I S a4 (merge k' a5)) k' a4 λm hm=>(merge k' a5 m hm).elim λi h=>sT.mpr (yo h.1))
 ·have hi:i<es.size:=by rw[<-I.tab.size];exact(tV.mp a4).1
  have V9:es.toList[i]?=ae es[i]:=by rw[dS];exact jK hi
  refine bH (I.LY.get V9) λv hv y=>?_;rcases y.key.O0 (S.lJ _ (cw hv)) with⟨b,hb⟩;dsimp only
  have cont:aw (ay Wc.prog Wc.w) A (do
    let ae (_,y):=es[i]?|unsupported "internal:set-entry"
    let Vm<-lN [y] (eqBool y x)
    let(jc,_,t')<-setState a
    if aj&&Vm then return .there aC
    let ae same:=t'.sameMemory t.moves t.mask|unsupported "set.changed-during-lookup:is-the-new-block-at-the-old-address"
    let ZI<-match(if same then t'.slot (q8 (ck (cG u)) k') else .empty) with
     |.live i'=>match jc[i']? with
      |some (_,y')=>do bB (if<-isSame y' y then ae i' else aC)
      |none=>bB aC
     |_=>bB aC
    match ZI with
    |none=>rule "set.search.anew";Ki a x (cG u) aj gc aC
    |some i'=>if Vm then return .there (ae i') else Ki a x (cG u) aj gc (ae (posAt (ck (cG u)) (k'+1)))) Q E s:=by
   rw[jK hi]
   refine au (cy (om v u 8 8 A es[i].2 x y.pure pu y.key hx (rL (eD (lB ac) _) hu) _ _ _ _<|wpAny_bind (kR ho ac hf ?_)))
   dsimp only
   cases q:V.beq v u with
   |true=>simp -iota only[Bool.and_self,m7];have:=V.eq_of_beq _ _ q;replace this:=this.symm;subst this;exact aD (Qm (cw hv))
   |false=>
    simp -iota only[Wj,jN,iA];have hs:t.sameMemory t.moves t.mask=ae aj:=by unfold SetTable.sameMemory;rw[gE];rfl
    rw[hs];dsimp only;refine az (aF ac)<|az (AE I.tab a4) ?_;dsimp only;refine az (jK hi) ?_;dsimp only;refine az hb<|wpAny_bind (wpAny_isSame_ref_self<|az (aF ac)<|wpAny_bind (aD ?_));have lt:k0-(k'+1)<d:=hd▸uf (rL a1 a2) (CQ a1);refine ih _ lt gc (k'+1) _ ac ac a2 (lR lt (b9 hfu)) λm hm=>?_;rcases gZ m k' with q2|q2
    ·exact merge k' a6 m q2
    ·have:m=k':=gT (b9 hm) q2;replace this:=this.symm;subst this;refine⟨i,a4,λh=>?_⟩;replace h:=hv▸h;cases h;rw[V.beq_refl] at q;exact ff q.symm
  cases L1:t.led with
  |true=>simp -iota only[vc,jN,iA];exact cont
  |false=>
   simp -iota only[WV,m7];refine au (OV pu hx (λy hy=>?_) ?_)
   ·refine bH (bt.mp hy) λe he z1=>?_;subst z1;exact bH (I.LY.mem (sT.mpr ((Array.mem_filter.mp (sT.mp he)).1))) λk _ y=>⟨k,y.pure,y.key⟩
   ·rw[aG cE];exact cont
end
theorem zV{l:af (aS ag)}{k:ag}:∀{j:ag},l[j]?=ae aC->((l.set j (ae k)).filterMap id).Perm (k::l.filterMap id):=by
 induction l with
 |nil=>intro j h;simp at h
 |cons a l ih=>
  intro j h;cases j with
  |zero=>simp only[Th,JF] at h;subst h;exact .refl _
  |succ j=>
   simp only[Ti] at h;refine az List.set_cons_succ ?_;induction a with
   |none=>exact ih h
   |some b=>exact((ih h).cons b).trans (OQ ..)
theorem wu{l:af (aS ag)}(h:∀j,j<l.length->l[j]?≠ae aC):(l.filterMap id).length=l.length:=by
 induction l with
 |nil=>rfl
 |cons a l ih=>
  induction a with
  |none=>exact aV ac (h 0 (by simp))
  |some b=>show((l.filterMap id).length+1)=_;exact az (ih λj hj=>by have:=h (j+1) (by simpa using hj);trivial) ac
structure Yi(owner:bj (aS ag))(k:ag):Prop where
 size:owner.size=32
 perm:(owner.toList.filterMap id).Perm (c5 k)
theorem HD{owner:bj (aS ag)}{b:ag}:∀(f k:ag),(∃k0,k<=k0/\k0<k+f/\owner.getD (jX 31 b k0).1 (ae 0)=aC)->∃j,Dk 31 owner f (jX 31 b k).1 (jX 31 b k).2=ae j/\owner.getD j (ae 0)=aC:=by
 intro f;induction f with
 |zero=>exactλk h=>jj h λk0 h1 h2 _=>aV h2 (nh.mpr h1)
 |succ f ih=>
  intro k h;refine jj h λk0 h1 h2 h3=>?_;unfold Dk;split
  ·rename_i c hc;exact⟨_,ac,by simpa using List.find?_some hc⟩
  ·rename_i hc;refine ih (k+1) ⟨k0,nj h1 λq=>?_,uy k f▸h2,h3⟩;subst q;have:=List.find?_eq_none.mp hc 0 (jO.mpr (by unfold xJ;split<;>lia));simp[h3] at this
theorem Yi.free{owner:bj (aS ag)}{k b:ag}(o:Yi owner k)(hk:k<32)(hb:b<2^64):∃j,Dk 31 owner (Tj 31) (b%(31+1)) b=ae j/\owner.toList[j]?=ae aC:=by
 have hex:∃j,j<32/\owner.toList[j]?=ae aC:=by refine GK λhn=>?_;have:=wu (l:=owner.toList) λj hj q=>hn ⟨j,by simpa[o.size] using hj,q⟩;rw[o.perm.length_eq,lP,jL,o.size] at this;exact cU (bJ this.symm) hk
 refine bH hex λj h1 h2=>bH (Tf _ (FA 31 b 13) j h1) λm h3 h4=>?_;obtain⟨j',h6,h7⟩:=HD (owner:=owner) (b:=b) 46 0 ⟨13+m,lB ac,lR (tL (bL (b9 h3)) ac) (gU _ _),by
  refine az ((yW hb m).trans h4) ?_;have:owner[j]?=ae aC:=by refine dm (dS) ?_;exact h2
  simp[Vn,this]⟩
 refine⟨j',h6,az (dS) ?_⟩;cases q:owner[j']? with
 |none=>simp[Vn,q] at h7
 |some v=>simp[Vn,q] at h7;(refine az h7 ?_;rfl)
noncomputable def Dl(acc:aS (bj (aS ag)×ag))(h:aJ):aS (bj (aS ag)×ag):=do
 let(owner,k)<-acc
 let j<-Dk 31 owner (Tj 31) (ck h%(31+1)) (ck h)
 bB (owner.setIfInBounds j (ae k),k+1)
theorem O2:∀(hs:af aJ)(owner:bj (aS ag))(k:ag),Yi owner k->k+hs.length<=32->∃Dm,hs.foldl Dl (ae (owner,k))=ae (Dm,k+hs.length)/\Yi Dm (k+hs.length):=by
 intro l0;induction l0 with
 |nil=>exactλowner k o _=>⟨owner,ac,o⟩
 |cons h hs ih=>
  intro owner k o hl;simp -iota only[iD] at hl;refine bH (o.free (by lia) (Kg h)) λj h1 h2=>?_;have o':Yi (owner.setIfInBounds j (ae k)) (k+1):=by refine⟨by refine az Array.size_setIfInBounds ?_;exact o.size,?_⟩;exact az Wh<|az List.range_succ<|(zV h2).trans ((o.perm.cons k).trans<|(Tn k (c5 k)).symm)
  refine bH (ih _ (k+1) o' (by lia)) λDm h3 h4=>⟨Dm,?_,by refine az (by simp only[iD];lia:k+(h::hs).length=k+1+hs.length) ?_;exact h4⟩;refine az Sj ?_;have:Dl (ae (owner,k)) h=ae (owner.setIfInBounds j (ae k),k+1):=by unfold Dl;simp only[Option.bind_eq_bind,wW,h1];rfl
  refine az this<|az h3 ?_;congr 2;exact Dp ..
theorem Xg{finger moves:ag}{led plain:aY}{hs:bj aJ}(hl:hs.size<=31):∃t order,Dg 31 finger moves led plain hs=ae (t,order)/\order.toList.Perm (c5 hs.size):=by
 refine bH (O2 hs.toList _ 0 (⟨ac,by rfl⟩:Yi (Array.replicate (31+1) aC) 0) (az (rq _) (az jL (tB hl ac)))) λowner h1 o=>?_;have hc:Ka 31 hs=ae owner:=by unfold Ka;rw[<-Array.foldl_toList];refine az h1 ?_;rfl
 unfold Dg;refine az hc ⟨_,_,ac,?_⟩;simp -iota only[rq,jL] at o;refine Xh (Xi ?_) o.perm;simp -iota only[Ta,iz]
 have:∀(l:af (aS ag))(n:ag),(∀i,l[i]?=if n+i<32 then ae (owner.getD (n+i) aC) else aC)->((xp n (32-n)).filterMap λx=>jW (λx=>x.2) (jW (λk=>(x,k)) (owner.getD x aC)))=l.filterMap id:=by
  intro l;induction l with
  |nil=>intro n h;exact az (Nat.sub_eq_zero_of_le (xr λq=>eP ((h 0).trans (aF q)))) ac
  |cons a l ih=>
   intro n h;have h0:=h 0;dsimp only[Th,Nat.add_zero] at h0;by_cases hn:n<32
   ·rw[aF hn] at h0;replace h0:=aU h0;subst h0;refine az (show 32-n=(32-(n+1))+1 from(IM (Nat.sub_pos_of_lt hn)).symm)<|az xq<|az qS<|az (ih (n+1) λi=>by have:=h (i+1);simp -iota only[Ti] at this;(refine az this ?_;refine az (uy n i).symm ?_;rfl)) ?_;cases q:owner.getD n aC with
    |none=>trivial
    |some v=>trivial
   ·replace h0:=(aG hn)▸h0;exact eP h0.symm
 have key:=this owner.toList 0 λi=>by
  refine(dS).trans ?_;rewrite[rq];by_cases hi:i<32
  ·refine az (aF hi)<|(jK (by rw[o.size];exact hi)).trans ?_;simp[JT,o.size,hi]
  ·exact az (aG hi) (EW (az o.size (xr hi)))
 exact Eq.trans ac key
section
variable{h:aO}{ρ:af ao}
theorem sY.insert{es:af (aJ×ak)}{us:af V}{e:aJ×ak}{u:V}(x:sY h ρ es us)(y:SE h ρ e u):∀p:ag,sY h ρ (es.take p++e::es.drop p) (us.take p++u::us.drop p):=by
 induction x with
 |nil=>intro p;simp;exact .cons y .nil
 |@cons e' u' es us a x ih=>
  intro p;induction p with
  |zero=>exact .cons y (.cons a x)
  |succ p=>exact .cons a (ih p)
theorem HE{α β:Type}{a:α}{b:β}:∀{l:af α}{l':af β},l.length=l'.length->∀p:ag,(l.take p++a::l.drop p).zip (l'.take p++b::l'.drop p)=(l.zip l').take p++(a,b)::(l.zip l').drop p:=λh p=>
 (List.zip_append (by rw[rx,rx,h])).trans (congr (bf HAppend.hAppend List.take_zipWith.symm) (bf ((a,b)::·) List.drop_zipWith.symm))
theorem nu{α:Type}(l:af α)(p:ag)(a:α):(l.take p++a::l.drop p).Perm (l++[a]):=by refine To.trans (Xh (List.Perm.cons a (Xi (List.take_append_drop p l))) (Tn a l).symm)
end
theorem O3{us:af V}{t:cx}{u:V}{m:ag}(S:HC us t)(T:Tab t us.length)(ut:sG u=aj)(hf:q8 (ck (cG u)) m∉t.place.toList)(hm:∀k,k<m->q8 (ck (cG u)) k∈t.place.toList)(pl:aY):
  HC (us.take (fy t.place (q8 (ck (cG u)) m))++u::us.drop (fy t.place (q8 (ck (cG u)) m))) {(t.put (q8 (ck (cG u)) m)).1 with plain:=pl} where
 mask:=S.mask
 lJ:=λv hv=>by
  rcases cR.mp ((nu _ _ _).mem_iff.mp hv) with hv|hv
  ·exact S.lJ v hv
  ·simp at hv;induction hv;exact ut
 reach:=λq hq=>by
  have hp:({(t.put (q8 (ck (cG u)) m)).1 with plain:=pl}:cx).place.toList=t.place.toList.take (fy t.place (q8 (ck (cG u)) m))++q8 (ck (cG u)) m::t.place.toList.drop (fy t.place (q8 (ck (cG u)) m)):=
   J7 _ _ _
  have up:∀j,j∈t.place.toList->j∈({(t.put (q8 (ck (cG u)) m)).1 with plain:=pl}:cx).place.toList:=λj hj=>by
   refine az hp ?_;exact(nu _ _ _).mem_iff.mpr (i5 _ hj)
  rw[hp,HE (by have:=T.size;exact km ‹_›)] at hq
  rcases cR.mp ((nu _ _ _).mem_iff.mp hq) with hq|hq
  ·exact bH (S.reach q hq) λm' h1 h2=>⟨m',h1,λk hk=>up _ (h2 k hk)⟩
  ·simp at hq;replace hq:=hq.symm;subst hq
   exact⟨m,ac,λk hk=>up _ (hm k hk)⟩
section
variable{A:aW}{s:aq}{ρ:af ao}{E:ak->aq->Prop}
theorem O4{a:ao}{us:af V}{es:bj (aJ×ak)}{t:cx}{Q:cH->aq->Prop}(I:mN s.heap ρ a us es t)(hz:us.length<=31)(h:∀h' sv jc t',dH a s.heap h'->mN h' ρ a sv jc t'->sv.Perm us->Q () {s with heap:=h'}):aw (ay Wc.prog Wc.w) A (setRelay a 20) Q E s:=by
 refine eh I.at_ λep ho=>?_;have mM:=I.size;unfold setRelay;refine au (kR ho ac I.tab.fits ?_);dsimp only;refine az (aG (by refine az fg ?_;decide)) ?_;refine lC (Xg (finger:=t.finger) (moves:=t.movedTo 31) (led:=t.led) (plain:=t.plain) (hs:=es.map (·.1)) (by refine az O5 ?_;exact mM▸hz)) λt' order h1 h2=>?_;have hr:t.relaid (es.map (·.1)) 20=ae (t',order):=h1;refine az hr<|E06 (AF h1) λr1 r2 r3 r4 r5 _=>?_;have hp:(order.filterMap (es[·]?)).toList.Perm es.toList:=by exact az Array.toList_filterMap<|((O5▸h2).filterMap _).trans (by rw[Tq])
 have MW:(order.filterMap (es[·]?)).size=es.size:=by(refine dm jL ?_;refine az hp.length_eq ?_;exact jL)
 have aak:((order.filterMap (es[·]?)).size !=es.size)=aQ:=by refine az MW ?_;simp
 refine bH (I.LY.perm hp) λsv p' aal=>?_;have hos:order.size=es.size:=by(refine dm jL ?_;refine az h2.length_eq ?_;refine az lP ?_;exact O5)
 refine au ?_;show aw _ A (if((order.filterMap (es[·]?)).size !=es.size)=aj then _ else bB (order.filterMap (es[·]?),t')) _ _ s;exact az aak<|az (aG cE)<|wpAny_pure<|rH I aal (p'.nodup_iff.mpr I.once) ⟨by(refine az MW ?_;refine az r5 ?_;exact hos),r2,by(refine az MW ?_;refine az r4 ?_);exact mM▸hz,r1⟩ r3 (by refine az p'.length_eq ?_;exact tL hz ac) λh' sb I'=>h h' sv _ t' sb I' p'
theorem Ts{a:ao}{us:af V}{es:bj (aJ×ak)}{t:cx}{x:ak}{u:V}{Q:aY->aq->Prop}(I:mN s.heap ρ a us es t)(S:HC us t)(pu:u.pure=aj)(ut:sG u=aj)(hx:VR s.heap ρ x u)(hu:A.units+20<b6)(hz:us.length<=4)(h:∀b,Di s ρ a us u (Q b) λsv _ t'=>sv.length<=4->HC sv t'):aw (ay Wc.prog Wc.w) A (xH a x (cG u)) Q E s:=by
 refine eh I.at_ λep ho=>?_;rcases hx.O0 ut with⟨b,hb⟩;have mM:=I.size;have hsc:byScan x es=aQ:=by subst hb;rfl
 unfold xH Ke;refine cy (au (kR ho ac I.tab.fits ?_));dsimp only;refine az hsc<|bH (ZG I.tab S.mask (Kg (cG u))) λk0 h1 h2=>au (FC I S pu hx hu h2 h1 (λhm=>?_) (λhm m hf hl=>?_) k0 100000 0 aC (OX S.mask _) ac (bR _) (tL h1 ac) λm hm=>aV hm (fM _))
 ·exact aD (h aQ s.heap us es t (xC a s.heap) I (λv=>⟨.inl,λq=>q.elim id λq=>q▸hm⟩) λ_=>S)
 ·dsimp only;refine au (kR ho ac I.tab.fits ?_);dsimp only;have T':Tab t us.length:=mM▸I.tab;have W9:sY s.heap ρ (uH es (t.put (q8 (ck (cG u)) m)).2 (cG u,x)).toList (us.take (fy t.place (q8 (ck (cG u)) m))++u::us.drop (fy t.place (q8 (ck (cG u)) m))):=by rw[J7];exact I.LY.insert ⟨pu,hx,ac⟩ _
  have p1:=nu us (fy t.place (q8 (ck (cG u)) m)) u;have n1:=p1.nodup_iff.mpr (lK.mpr ⟨I.once,by exact jQ _ _,λb hb c hc q=>by simp at hc;replace hc:=hc.symm;subst hc;replace q:=q.symm;subst q;exact hm hb⟩);have JL:(us.take (fy t.place (q8 (ck (cG u)) m))++u::us.drop (fy t.place (q8 (ck (cG u)) m))).length=us.length+1:=by refine p1.length_eq.trans ?_;exact ct
  have aam:es.size+1<=t.mask:=by rw[S.mask];exact tB (aR (mM▸hz)) ac
  have tail:∀pl:aY,aw (ay Wc.prog Wc.w) A (do
    Dh a (uH es (t.put (q8 (ck (cG u)) m)).2 (cG u,x)) {(t.put (q8 (ck (cG u)) m)).1 with plain:=pl}
    if(!aQ&&({(t.put (q8 (ck (cG u)) m)).1 with plain:=pl}:cx).tooFull)=aj then do
     setRelay a (uJ (es.size+1))
     bB aj
    else bB aj) Q E s:=λpl=>by
   have T1:Tab {(t.put (q8 (ck (cG u)) m)).1 with plain:=pl} (es.size+1):=let z:=J8 I.tab hf aam;⟨z.size,z.W0,z.ZE,z.rise⟩
   refine au (rH I W9 n1 (by rw[(kQ _ _ _)];exact T1) ac (by refine az JL ?_;exact tL (aR hz) ac) λh1 zB I1=>?_)
   have S1:=O3 S T' ut hf hl pl
   have Vo:({(t.put (q8 (ck (cG u)) m)).1 with plain:=pl}:cx).fill=es.size+1:=by unfold De;refine az T1.size<|az T1.W0 ?_;rfl
   by_cases hc:us.length=4
   ·have hg:uJ (es.size+1)=20:=by(refine az mM ?_;refine az hc ?_);rfl
    refine az (aF (by unfold Tt;(refine az Vo ?_;refine az S1.mask ?_;refine az mM ?_;refine az hc ?_);rfl)) ?_;exact az hg<|wpAny_bind (O4 (s:={s with heap:=h1}) I1 (by rw[JL];exact tB (aR hz) ac) λh2 W5 Yh t2 wA I2 p2=>aD (h aj h2 W5 Yh t2 (zB.trans wA) I2 (lV (p2.trans p1)) λq=>aV q (by(refine az p2.length_eq ?_;refine az JL ?_);exact rJ (hc▸de _))))
   ·exact az (aG (by unfold Tt;(refine az Vo ?_;refine az S1.mask ?_;refine az mM ?_);simp;lia)) (aD (h aj h1 _ _ _ zB I1 (lV p1) λ_=>S1))
  split
  ·refine au (OW u 8 x A _ pu hx λb=>?_);induction b with
   |true=>exact tail (t.put (q8 (ck (cG u)) m)).1.plain
   |false=>exact tail aQ
  ·exact au (aD<|tail (t.put (q8 (ck (cG u)) m)).1.plain)
end
section
variable{ρ:af ao}
noncomputable abbrev vv(ρ:af ao)(S:ao)(A:aW)(vs:af V)(Stg:ag->af V->cx->Prop):Prop:=
 ∀(i:ag)(u:V)(s:aq)(x:ak)(us:af V)(es:bj (aJ×ak))(t:cx)(Q:aY->aq->Prop)(E:ak->aq->Prop),vs[i]?=ae u->mN s.heap ρ S us es t->Stg i us t->(∀v,v∈us↔v∈vs.take i)->
  VR s.heap ρ x u->(∀b,Di s ρ S us u (Q b) λsv _ t'=>Stg (i+1) sv t')->aw (ay Wc.prog Wc.w) A (xH S x (cG u)) Q E s
theorem mN.keep{h h':aO}{S:ao}{us:af V}{es:bj (aJ×ak)}{t:cx}(I:mN h ρ S us es t)(tk:dc h ρ h' ρ)(k:∀o,h.get? S=ae o->h'.get? S=ae o):mN h' ρ S us es t:=
 eh (I.at_) λep ho=>⟨⟨ep,k _ ho⟩,I.LY.mono tk Pre.refl,I.once,I.tab,I.led⟩
theorem take_snoc{α:Type}{l:af α}{i:ag}{a:α}(h:l[i]?=ae a):l.take (i+1)=l.take i++[a]:=by refine az uq<|az h ?_;rfl
theorem O6{A:aW}{H:aO}{R:jq->aq->Prop}{I ax S:ao}{items:bj ak}{vs:af V}{Stg:ag->af V->cx->Prop}(hh:A.handled=aC)(tX:ax≠I)(OB:S≠I)(hSx:S≠ax)(hIH:H.objs.size<=I)(hSH:H.objs.size<=S)(pv:V.eI vs=aj)(hu:A.units+40<b6)(hv:eB H ρ items.toList vs)(step:vv ρ S A.in1 vs Stg):∀(k i:ag)(s:aq)(us:af V)(es:bj (aJ×ak))(t:cx),vs.length-i=k->i<=vs.length->s.heap.IsListIter I ax i->s.heap.IsList ax items->(∀b o,H.get? b=ae o->s.heap.get? b=ae o)->mN s.heap ρ S us es t->Stg i us t->(∀v,v∈us↔v∈vs.take i)->(∀h' tk sv jc t',(∀b o,H.get? b=ae o->h'.get? b=ae o)->mN h' ρ S sv jc t'->(∀v,v∈sv↔v∈vs)->R (.ok (.ret .none)) {s with heap:=h',toks:=tk})->fO (ay Wc.prog Wc.w) A (.builtin "set.update.loop" ⟨[.ref S,.ref I],[]⟩) R s:=by
 have mM:items.size=vs.length:=by refine dm hv.length ?_;simp
 have wl:=Walks.list (prog:=Wc.prog) (w:=Wc.w) (A:=A.in1) (by trivial) I ax tX items;intro k;induction k with
 |zero=>intro i s us es t hk hi hit Xj kp SI AT mem hR;have Qm:i=vs.length:=Internal.KK hk hi;subst Qm;refine lU Tu<|az (rv Kj _)<|wpAny_bind (wl.done s _ _ (by refine az mM ?_;exact⟨hit,Xj⟩) λh' tk ext=>?_);refine jj hit λoI Zj _ hdI=>aD (hR h' tk us es t (λb o e=>ext b o (λq=>qq e hIH (bX.mp ‹_›)) (kp b o e)) (SI.keep (ox (λb o q e=>ext b o (by simpa using q) e) Zj hdI) λo e=>ext S o (by simpa using OB) e) (λv=>by(rewrite[mem v];refine az CD ?_;rfl)))
 |succ k ih=>
  intro i s us es t hk hi hit Xj kp SI AT mem hR;have jE:i<vs.length:=Internal.zB hk;refine lU Tu<|az (rv Kj _)<|wpAny_bind (wl.item i s _ _ (by refine az mM ?_;exact jE) ⟨hit,Xj⟩ λx h' tk hx st' ext=>?_);refine jj hit λoI Zj _ hdI=>?_;have LI:∀b o,H.get? b=ae o->h'.get? b=ae o:=λb o e=>ext b o (λq=>qq e hIH (bX.mp ‹_›)) (kp b o e);have SI1:=SI.keep (ox (λb o q e=>ext b o (by simpa using q) e) Zj hdI) λo e=>ext S o (by simpa using OB) e;refine bH (hv.get' (i:=i) (v':=x) (by refine(dS).trans ?_;exact hx)) λu hu1 xu=>?_;have xu1:VR h' ρ x u:=xu.mono (eR LI) Pre.refl;refine au (cy ?_);unfold setAdd;refine cy (au (qr u 8 x _ {s with heap:=h',toks:=tk} _ (d5 pv u (cw hu1)) xu1 (M8 hu ac) λVe=>step i u {s with heap:=h',toks:=Ve} x us es t _ _ hu1 SI1 AT mem xu1 λb h2 W5 Yh t2 sb SI2 RR aan=>?_));have f2:∀b o,b≠S->h'.get? b=ae o->h2.get? b=ae o:=λb o q e=>by refine(sb.2 b q).trans ?_;exact e
  refine aD ⟨ni Kj _,ih (i+1) {s with heap:=h2,toks:=Ve} W5 Yh t2 (Internal.wA hk) jE (st'.1.at λo e=>f2 I o OB.symm e) (st'.2.at λo e=>f2 ax o hSx.symm e) (λb o e=>f2 b o (λq=>?_) (LI b o e)) SI2 aan (λv=>?_) hR⟩
  ·replace q:=q.symm;subst q;exact bS _ (lR (cB e) hSH)
  ·rw[RR v,mem v,take_snoc hu1];simp
end
section
variable{ρ:af ao}{A:aW}{E:ak->aq->Prop}{s:aq}
theorem Tv(a:ak){CF:ak->aq->Prop}(h:CF (.ref s.heap.objs.size) {s with heap:=s.heap.push (mE #[] 0 (.fresh 0 0 (!Wc.w.params.followText "set-order")))}):fO (ay Wc.prog Wc.w) A (.call (.builtin "set.__new__") ⟨[.type "set",a],[]⟩) (wants CF E) s:=by refine JC<|wpAny_bind (rn (F.newCall_set_1 a) (aD ⟨ni F.plain_set_new _,lU F.entry_set_new<|az (rv F.plain_set_new _) ?_⟩));unfold Builtin.«set.__new__» Ch;have Ze:=sub_set_self;obtain⟨hp,g,d,tk,os⟩:=s;wp_walk;refine pq (aD ?_);dsimp only;simp only[newObj];exact au (JG (aD<|wpAny_pure h))
theorem O7{l S:ao}{h0:aO}{items:bj ak}{vs:af V}{Stg:ag->af V->cx->Prop}{R:jq->aq->Prop}{b:aY}(hh:A.handled=aC)(hu:A.units+55<b6)(hl:s.heap.IsList l items)(hlS:l<S)(hv:eB s.heap ρ items.toList vs)(pv:V.eI vs=aj)
  (step:∀A:aW,A.units+20<b6->vv ρ S A vs Stg)(O8:Stg 0 [] (.fresh 0 0 b))(mM:s.heap.objs.size<=S)(T0:mN h0 ρ S [] #[] (.fresh 0 0 b))(kp0:∀b o,s.heap.get? b=ae o->h0.get? b=ae o)
  (h:∀h' tk us es t,(∀b o,s.heap.get? b=ae o->h'.get? b=ae o)->mN h' ρ S us es t->(∀v,v∈us↔v∈vs)->R (.ok (.ret .none)) {s with heap:=h',toks:=tk}):
  aw (ay Wc.prog Wc.w) A.in1 (Tw ⟨[.ref S,.ref l],[]⟩) (λfin s'=>match fin with|.done f=>R (.ok f) s'|.again c'=>c'.quiet=aj/\fO (ay Wc.prog Wc.w) A c' R s') (λe s'=>R (.error e) s') {s with heap:=h0}:=by
 obtain⟨⟨ep,hS⟩,a2,a3,a4,a5⟩:=T0
 have sz:=cB hS
 obtain⟨ol,hol,Bm,nl,on⟩:=id hl
 obtain⟨aaV,aaP,aaQ,aao⟩:=ol
 simp only at Bm on
 subst Bm;subst on
 have aap:=kp0 _ _ hol
 have aaW:=F.sub_list_set
 have aaX:=F.sub_list_frozenset
 have tX:(kM "list"==kM "dict")=aQ:=by decide
 have JL:h0.IsList l items:=⟨_,aap,ac,nl,ac⟩
 unfold Tw noKeywords Da
 generalize hPI:i4=PI
 wp_walk
 subst hPI
 refine JA JL<|wpAny_bind (wpAny_runValue ?_)
 refine O6 (H:=s.heap) (Stg:=Stg) (vs:=vs) (by trivial) (b8 (hF hlS sz)) (b8 sz) (bZ hlS) (lT mM (bz sz)) mM pv (by simp only[oZ];lia) hv (step _ (by simp only[oZ];lia)) (vs.length-0) 0 _ [] #[] _ ac (bR _)
  ⟨_,cT _ ac,ac,ac⟩ (JL.push _) (λc o e=>bW _ (kp0 _ _ e)) ⟨⟨ep,bW _ hS⟩,.nil,fh,a4,a5⟩ O8 (λv=>by trivial) λh' tk us es t kp SI mem=>?_
 exact aD<|wpAny_pure (h h' tk us es t kp SI mem)
theorem HF{l:ao}{items:bj ak}{vs:af V}{Stg:ag->af V->cx->Prop}{Q:ak->aq->Prop}(hh:A.handled=aC)(hu:A.units+60<b6)(hl:s.heap.IsList l items)(hv:eB s.heap ρ items.toList vs)(pv:V.eI vs=aj)(step:∀A:aW,A.units+20<b6->vv ρ s.heap.objs.size A vs Stg)(O8:Stg 0 [] (.fresh 0 0 (!Wc.w.params.followText "set-order")))(h:∀h' tk us es t,(∀b o,s.heap.get? b=ae o->h'.get? b=ae o)->mN h' ρ s.heap.objs.size us es t->(∀v,v∈us↔v∈vs)->Q (.ref s.heap.objs.size) {s with heap:=h',toks:=tk}):aw (ay Wc.prog Wc.w) A (cf (.type "set") [.ref l]) Q E s:=by have hS:(s.heap.push (mE #[] 0 (.fresh 0 0 (!Wc.w.params.followText "set-order")))).get? s.heap.objs.size=ae (mE #[] 0 (.fresh 0 0 (!Wc.w.params.followText "set-order"))):=cT _ ac;exact ry F.called_set (F.typeCall_set_1 _) F.entry_set_init (λCF q=>Tv (.ref l) q) ⟨_,hS,ac⟩ (λq=>check_set_init_1 ⟨_,hS,ac⟩ q)<|O7 (by trivial) (by simp only[oZ];lia) hl (cB hl.choose_spec.1) hv pv step O8 (aP _) ⟨⟨0,hS⟩,.nil,fh,⟨ac,ac,bR _,Wu⟩,ac⟩ (λb o e=>bW _ e) λh' tk us es t kp SI mem=>⟨ac,h h' tk us es t kp SI mem⟩
end
theorem Tx:CH (.type "set") "__len__"=bB (ae (.builtin "set.__len__")):=by(rewrite[CI];refine az CJ ?_);kernel_rfl
theorem yX:xn table "set.__iter__"=ae Tz:=
 entryFor_alias (id':="frozenset.__iter__") (by kernel_rfl) ac (by decide+kernel) (by kernel_rfl)
theorem jY:Slot "set_iterator" "__next__" "set_iterator.__next__":=
 .of (owner:="set_iterator") (n:="__next__") (by(rewrite[CI];refine az CJ ?_);kernel_rfl) (by decide+kernel) (by decide+kernel) (by decide+kernel)
  (by first|exact .inl (by decide+kernel)|exact .inr (by decide+kernel)) (by rw[J4];kernel_rfl)
theorem sZ:xn table "set_iterator.__next__"=ae Dq:=entryFor_of_tree (by kernel_rfl)
theorem zW:Manifest.owners.lookup (QF ['r','o','t','a','r','e','t','i','_','t','e','s'].reverse)=ae Manifest.sig_set_iterator:=by kernel_rfl
theorem uK(a:ak):argsOk "set_iterator.__next__" ⟨[a],[]⟩:=by unfold argsOk;refine az (signature?_of (id:="set_iterator.__next__") (n:=['_','_','t','x','e','n','_','_']) (o:=['r','o','t','a','r','e','t','i','_','t','e','s']) (by kernel_rfl) zW) ?_;kernel_rfl
theorem tf{α:Type}:∀{l:af α}{i:ag}(hi:i<l.length),(l[i]::l.eraseIdx i).Perm l
 |[],i,hi=>aV hi (fM _)
 |a::l,0,_=>Xk _
 |a::l,i+1,hi=>(OQ a _ _).trans ((tf (l:=l) (o8 hi)).cons a)
theorem Ds{α:Type}(f:ag->ag):∀(gc k:ag)(left:af α)(out:bj α),left.length<=gc->(TA f gc k left out).toList.Perm (out.toList++left):=by
 intro l0;induction l0 with
 |zero=>intro k left out h;have:left=[]:=dM.mp (gT h (bR _));subst this;refine(?_:out.toList.Perm _);simp
 |succ gc ih=>
  intro k left out h
  show(match left[f k%left.length]? with
   |some x=>TA f gc (k+1) (left.eraseIdx (f k%left.length)) (out.push x)
   |none=>out).toList.Perm _
  cases e:left[f k%left.length]? with
  |some x=>refine eh (bq.mp e) λhi z1=>?_;subst z1;refine(ih (k+1) _ _ (az (TB hi) (TC h))).trans<|az o5 ?_;rewrite[mx];exact List.Perm.append_left _ (tf hi)
  |none=>
   induction left with
   |nil=>simp
   |cons a l=>exact aV (Cg.mp e) (Nat.not_le.mpr (Dj _ (by simp)))
theorem HG{α:Type}(f:ag->ag)(xs:bj α):(xK f xs).toList.Perm xs.toList:=by have:=Ds f xs.size 0 xs.toList #[] (aP _);trivial
section
variable{A:aW}{E:ak->aq->Prop}{s:aq}
theorem L4{src:Source}{n:ag}{Q:ag->aq->Prop}(hn:n≠0)(h:∀i d,i<n->Q i {s with drawn:=d}):aw (ay Wc.prog Wc.w) A (choose src n) Q E s:=λΓ p lw=>by unfold choose;rw[Sem.wp_choose];exact⟨hn,h _ _ (Dj _ (TF hn))⟩
theorem Du{α:Type}:∀(n:ag)(xs:af α)(s:aq){Q:af α->aq->Prop},xs.length<=n->(∀ys d,ys.Perm xs->Q ys {s with drawn:=d})->aw (ay Wc.prog Wc.w) A (drawOrder n xs) Q E s:=by
 intro n;induction n with
 |zero=>intro xs s Q h hq;have e:=dM.mp (gT h (bR _));exact e▸aD (hq [] s.drawn (e▸.nil))
 |succ n ih=>
  intro xs s Q h hq;cases xs with
  |nil=>exact aD (hq [] s.drawn .nil)
  |cons x xs=>
  refine au (L4 (by simp) λi d hi=>az (dq hi) ?_);refine au (ih _ _ (by refine az (TB hi) ?_;exact xM h) λys d2 p=>?_);exact aD (hq _ d2 ((p.cons _).trans (tf hi)))
theorem O9{a:ao}{Q:aY->aq->Prop}(hT:s.TypeIs (.ref a) "set")(h:Q aQ s):aw (ay Wc.prog Wc.w) A (uD (.ref a)) Q E s:=by
 unfold uD;refine au (qU hT Tx ?_);generalize ZD:("set.__len__":aA)=id0
 wp_delta
 refine az (by induction ZD;decide+kernel:splitId id0=some ("set","__len__")) ?_;subst ZD;exact au (o7 (T:="set") (b:=aj) hT (by rw[J4];kernel_rfl)<|wpAny_ite_split (λzC=>aV zC (by decide)) (λ_=>C8 (λ_=>au (pJ hT<|wpAny_pure h)) (λzC=>aV (by decide+kernel) zC)))
end
noncomputable abbrev hJ(a:ao)(first:ak)(i n ep:ag):cM:={cls:=.type "set_iterator",data:=.fields #[first,.int i 0,.ref a,.int n 0,.int ep 0]}
noncomputable def nv(a ep:ag)(es:bj (aJ×ak))(t:cx)(L:af (aJ×ak))(h:aO)(first:ak)(i:ag):Prop:=
 (Wc.w.params.followText "set-order"=aj/\(∃n:ag,first=.int n 0)/\L=(xK (Wc.w.params.setOrder a ep) es).toList)\/
 (Wc.w.params.followText "set-order"=aQ/\(!t.plain&&bh (es.size>1))=aQ/\(∃n:ag,first=.int n 0/\fy t.place n=i)/\L=es.toList)\/
 (Wc.w.params.followText "set-order"=aQ/\∃(b:ao)(ord:af ag),first=.ref b/\h.get? b=ae {cls:=.type "tuple",data:=.seq (ord.map λ(i:ag)=>ew i).toArray}/\ord.length=L.length/\∀i j:ag,ord[i]?=ae j->es[j]?=L[i]?)
section
variable{A:aW}{E:ak->aq->Prop}{s:aq}{a:ao}{ep:ag}{es:bj (aJ×ak)}{t:cx}
theorem filterMap_get{α:Type}{es:bj α}:∀{ord:af ag},(∀j∈ord,j<es.size)->(ord.filterMap (es[·]?)).length=ord.length/\∀i j:ag,ord[i]?=ae j->es[j]?=(ord.filterMap (es[·]?))[i]?:=by
 intro l0;induction l0 with
 |nil=>exactλ_=>⟨ac,λi j h=>eP h⟩
 |cons k ord ih=>
  intro h;refine fB (ih λj hj=>h j (.tail _ hj)) λh1 h2=>az qS<|az (jK (h k (.head _))) ?_;refine⟨by simp[h1],λi j hi=>?_⟩;induction i with
  |zero=>simp at hi;subst hi;simp
  |succ i=>simpa using h2 i j (‹_›)
theorem Pa{first:ak}{R:lF->aq->Prop}(ho:s.heap.get? a=ae (mE es ep t))(T:Tab t es.size)(h:R (.done (.ret (.ref s.heap.objs.size))) {s with heap:=s.heap.push (hJ a first 0 es.size ep)}):
  aw (ay Wc.prog Wc.w) A (do ui (<-newFields "set_iterator" [first,ew 0,.ref a,ew es.size,ew (<-setEpoch a)])) R E s:=by
 exact au (wpAny_setEpoch_of ho ac T.fits<|wpAny_bind (nf (aD h) (by size_fits)))
theorem HH{Q:ak->aq->Prop}(ho:s.heap.get? a=ae (mE es ep t))(T:Tab t es.size)(hz:es.size<4096)(hQ:∀I h1 d1 L first,s.heap.objs.size<=I->(∀b o,s.heap.get? b=ae o->h1.get? b=ae o)->L.Perm es.toList->h1.get? I=ae (hJ a first 0 es.size ep)->nv a ep es t L h1 first 0->Q (.ref I) {s with heap:=h1,drawn:=d1}):aw (ay Wc.prog Wc.w) A (i4 (.ref a)) Q E s:=by
 have hT:s.TypeIs (.ref a) "set":=⟨_,ho,ac⟩;refine JZ hT TH (gx TH hT yX ?_ (PySem.F.args_set_iter_1 _));unfold Tz Db;refine au (au (aD (aD<|wpAny_bind (au (Kk ho ac T.fits (aD<|wpAny_bind ?_))))));unfold setDrawn;refine au (kR ho ac T.fits<|wpAny_bind (au (pq (aD<|wpAny_pure ?_))));have fin:∀(first:ak)(s1:aq)(L:af (aJ×ak)),(∀b o,s.heap.get? b=ae o->s1.heap.get? b=ae o)->s.heap.objs.size<=s1.heap.objs.size->(∃h1 d1,s1={s with heap:=h1,drawn:=d1})->L.Perm es.toList->nv a ep es t L (s1.heap.push (hJ a first 0 es.size ep)) first 0->
   Q (.ref s1.heap.objs.size) {s1 with heap:=s1.heap.push (hJ a first 0 es.size ep)}:=λfirst s1 L kp sz e p F=>by
  refine sE e λh1 d1 z2=>?_
  subst z2
  exact hQ _ _ d1 L first sz (λb o q=>bW _ (kp b o q)) p (cT _ ac) F
 have made:∀{first:ak}{s1:aq}{L:af (aJ×ak)},(∀b o,s.heap.get? b=ae o->s1.heap.get? b=ae o)->s.heap.objs.size<=s1.heap.objs.size->(∃h1 d1,s1={s with heap:=h1,drawn:=d1})->L.Perm es.toList->nv a ep es t L (s1.heap.push (hJ a first 0 es.size ep)) first 0->
   aw (ay Wc.prog Wc.w) A.in1 (do ui (<-newFields "set_iterator" [first,ew 0,.ref a,ew es.size,ew (<-setEpoch a)])) (λfin s'=>∃v,fin=.done (.ret v)/\∃T id,s'.TypeIs v T/\CH (.type T) "__next__"=bB (ae id)/\Q v s') E s1:=λkp sz e p F=>
  Pa (kp _ _ ho) T ⟨_,ac,"set_iterator",_,⟨_,cT _ ac,ac⟩,jY.lookup,fin _ _ _ kp sz e p F⟩
 by_cases hc:(!Wc.w.params.followText "set-order"&&(!t.plain&&bh (es.size>1)))=aj
 ·refine az (aF hc) ?_;rw[cY,oT] at hc;refine au (Du _ _ _ (by simp) λord d p=>fB (filterMap_get (es:=es) (λj hj=>by simpa using p.mem_iff.mp hj)) λf1 f2=>au (Cr ?_ (by have:=p.length_eq;simp at this;simp;refine az fg ?_;exact this▸bz (lR hz (lB ac)))));refine made (L:=ord.filterMap (es[·]?)) (λb o q=>bW _ q) (by rw[eW];exact pG _) ⟨_,d,ac⟩ ?_ (.inr (.inr ⟨hc.1,s.heap.objs.size,ord,ac,bW _ (cT _ ac),f1.symm,f2⟩));exact(p.filterMap _).trans (by rw[Tq])
 ·refine az (aG hc)<|wpAny_bind (aD ?_);cases hb:Wc.w.params.followText "set-order" with
  |true=>exact made (λb o q=>q) (aP _) ⟨_,_,ac⟩ (HG (Wc.w.params.setOrder a ep) es) (.inl ⟨hb,⟨0,ac⟩,ac⟩)
  |false=>refine made (λb o q=>q) (aP _) ⟨_,_,ac⟩ (Xk es.toList) (.inr (.inl ⟨hb,?_,⟨0,ac,Hx T.rise⟩,ac⟩));rw[hb] at hc;simpa using hc
end
section
variable{A:aW}{E:ak->aq->Prop}{s:aq}{a:ao}{ep:ag}{es:bj (aJ×ak)}{t:cx}{L:af (aJ×ak)}
theorem AH{given slot:ag}{Q:aS (ak×ag)->aq->Prop}(hb:Wc.w.params.followText "set-order"=aj)(ho:s.heap.get? a=ae (mE es ep t))(T:Tab t es.size)(h:Q (((xK (Wc.w.params.setOrder a ep) es)[given]?).map λe=>(e.2,slot)) s):aw (ay Wc.prog Wc.w) A (Dx a slot given ep) Q E s:=by unfold Dx;refine au (kR ho ac T.fits<|wpAny_bind (au (pq (aD<|az (hb)<|az (aF ac)<|az (aG (by simp)) ?_))));unfold setWalk;exact au (au (kR ho ac T.fits<|wpAny_bind (au (pq (aD<|az (hb)<|az (aF ac)<|wpAny_bind (pq (aD<|wpAny_pure h)))))))
theorem yY{given slot i:ag}{Q:aS (ak×ag)->aq->Prop}(hb:Wc.w.params.followText "set-order"=aQ)(hd:(!t.plain&&bh (es.size>1))=aQ)(hl:t.led=aj)(hs:fy t.place slot=i)(ho:s.heap.get? a=ae (mE es ep t))(T:Tab t es.size)
  (h:Q (match es[i]?,t.place[i]? with|some (_,x),ae j=>ae (x,j+1)|_,_=>aC) s):aw (ay Wc.prog Wc.w) A (Dx a slot given ep) Q E s:=by
 unfold Dx
 refine au (kR ho ac T.fits<|wpAny_bind (au (pq (aD<|az (hb)<|az (aG cE) ?_))))
 show aw _ _ (if(!t.plain&&bh (es.size>1))=aj then _ else _) _ _ s
 refine az hd<|az (aG cE)<|wpAny_bind ?_
 show aw _ _ (if(!t.led&&!es.isEmpty)=aj then _ else bB ()) _ _ s
 refine az hl<|az vc ?_
 rewrite[Wz]
 refine az (aG cE)<|wpAny_pure ?_
 replace hs:=hs.symm;subst hs
 exact aD h
theorem uL{it:ao}{o:cM}(hc:o.cls=.type "set_iterator")(ho:s.heap.get? it=ae o){Q:aS ak->aq->Prop}
  (h:aw (ay Wc.prog Wc.w) A.in1 (Dq ⟨[.ref it],[]⟩) (λfin s'=>∃v,fin=.done (.ret v)/\Q (ae v) s') (λe s'=>aw (ay Wc.prog Wc.w) A (do if<-ul e (.type "StopIteration") then bB aC else um e) Q E s') s):
  aw (ay Wc.prog Wc.w) A (eE (.ref it)) Q E s:=by
 have hT:s.TypeIs (.ref it) "set_iterator":=⟨_,ho,hc⟩
 unfold eE
 refine au (uo (lM (name:=aB "__next__") hT jY
  (gx jY hT sZ (ec h (λfin s' q=>?_) λe s' q=>?_) (uK _))))
 ·rcases q with⟨v,rfl,q⟩
  exact⟨v,ac,aD q⟩
 ·exact q
theorem Dy{it:ao}{first:ak}{i:ag}{e:aJ×ak}{Q:aS ak->aq->Prop}(hl:t.led=!Wc.w.params.followText "set-order")(ho:s.heap.get? a=ae (mE es ep t))(T:Tab t es.size)(hi:s.heap.get? it=ae (hJ a first i es.size ep))(F:nv a ep es t L s.heap first i)(he:L[i]?=ae e)(h:∀h' Dz,h'.get? it=ae (hJ a Dz (i+1) es.size ep)->nv a ep es t L h' Dz (i+1)->dH it s.heap h'->Q (ae e.2) {s with heap:=h'}):aw (ay Wc.prog Wc.w) A (eE (.ref it)) Q E s:=by
 refine uL ac hi ?_;unfold Dq;refine au (aD<|wpAny_bind (uE hi ac ?_));dsimp only;refine au (Kk ho ac T.fits<|az (aG (by simp)) ?_);have Kl:∀(x:ag)(next:ag),first=.int x 0->(∀h',nv a ep es t L h' (.int next 0) (i+1))->
   aw (ay Wc.prog Wc.w) A.in1 (do
    rF (.ref it) 0 (ew next)
    rF (.ref it) 1 (ew ((i:aJ)+1))
    ui e.2) (λfin s'=>∃v,fin=.done (.ret v)/\Q (ae v) s') (λe s'=>aw (ay Wc.prog Wc.w) A (do if<-ul e (.type "StopIteration") then bB aC else um e) Q E s') s:=λx next hx F'=>by
  refine au (gI hi (by exact lB ac) λjP nq lz=>au (gI (s:={s with heap:=jP}) nq (by exact lB ac) λvd Fv Pb=>aD ⟨_,ac,h vd (.int next 0) Fv (F' _) (lz.trans Pb)⟩))
 rcases F with⟨hb,⟨n,rfl⟩,hL⟩|⟨hb,hd,⟨n,rfl,hn⟩,hL⟩|⟨hb,b,ord,rfl,Vp,hlen,hat⟩
 ·dsimp only;refine au (AH hb ho T ?_);have j1:(xK (Wc.w.params.setOrder a ((ep:aJ)).toNat) es)[((i:aJ)).toNat]?=ae e:=by refine dm (dS) ?_;refine dm hL ?_;exact he
  exact az j1 (Kl n n ac λh'=>.inl ⟨hb,⟨n,ac⟩,hL⟩)
 ·dsimp only;refine au (yY hb hd (by(refine az hl ?_;refine az hb ?_);rfl) hn ho T ?_);have h1:es[i]?=ae e:=by(refine dm (dS) ?_;refine dm hL ?_);exact he
  have h2:i<t.place.size:=by refine az T.size ?_;exact(tV.mp h1).1
  exact az h1<|az (jK h2) (Kl n (t.place[i]+1) ac λh'=>.inr (.inl ⟨hb,hd,⟨_,ac,Hw T.rise (jK h2)⟩,hL⟩))
 ·dsimp only;refine au (jM Vp ac ?_);have jE:i<ord.length:=by refine az hlen ?_;exact(bq.mp he).1
  dsimp only;refine az (show((ord.map λ(i:ag)=>ew i).toArray)[((i:aJ)).toNat]?=ae (ew ord[i]) from by simp[jE])<|wpAny_bind ?_;unfold setNextDrawn;refine au (kR ho ac T.fits ?_);dsimp only;refine az (aG (by simp))<|az (show es[((ord[i]:aJ)).toNat]?=ae e from((hat i _ (dq jE)).trans he)) ?_;refine aD<|wpAny_bind (gI hi (by exact lB ac) λjP nq lz=>aD ⟨_,ac,h jP (.ref b) nq (.inr (.inr ⟨hb,b,ord,ac,(lz.2 b λq=>?_).trans Vp,hlen,hat⟩)) lz⟩);replace q:=q.symm;subst q;exact aV (bf (jW C0) (hi▸Vp)) (by simp)
end
section
variable{A:aW}{E:ak->aq->Prop}{s:aq}{a:ao}{ep:ag}{es:bj (aJ×ak)}{t:cx}{L:af (aJ×ak)}
theorem TJ{Q:aS ak->aq->Prop}{R:lF->aq->Prop}(hh:A.handled=aC)(h:∀h',(∀b o,s.heap.get? b=ae o->h'.get? b=ae o)->Q aC {s with heap:=h'}):
  aw (ay Wc.prog Wc.w) A.in1 (do ru (<-rt (.type "StopIteration") [])) R (λe s'=>aw (ay Wc.prog Wc.w) A (do if<-ul e (.type "StopIteration") then bB aC else um e) Q E s') s:=by
 refine au ?_
 simp only[rt,Cj]
 refine au (nf (au (m:=Ck _ _) (rn (a:=fR) (by first|rfl|(simp only[firstArgMember];rfl))<|wpAny_newObj_type ?_ (by size_fits))) (by size_fits))
 dsimp only[ru]
 refine au (Cn ?_)
 refine az (hh) ?_
 refine au (aD (Co ?_))
 refine au (o7 (T:="StopIteration") (b:=aj) ⟨_,cT _ ac,ac⟩ Cq ?_)
 exact aD (h _ λb o q=>bW _ (bW _ q))
theorem FD{it:ao}{first:ak}{i:ag}{Q:aS ak->aq->Prop}(hh:A.handled=aC)(hl:t.led=!Wc.w.params.followText "set-order")(ho:s.heap.get? a=ae (mE es ep t))(T:Tab t es.size)(hi:s.heap.get? it=ae (hJ a first i es.size ep))(F:nv a ep es t L s.heap first i)(he:L.length=i)(h:∀h',(∀b o,b≠it->s.heap.get? b=ae o->h'.get? b=ae o)->Q aC {s with heap:=h'}):aw (ay Wc.prog Wc.w) A (eE (.ref it)) Q E s:=by
 refine uL ac hi ?_;unfold Dq;refine au (aD<|wpAny_bind (uE hi ac ?_));dsimp only;refine au (Kk ho ac T.fits<|az (aG (by simp)) ?_);have out:∀(s1:aq)(R:lF->aq->Prop),(∃h1,s1={s with heap:=h1}/\∀b o,b≠it->s.heap.get? b=ae o->h1.get? b=ae o)->aw (ay Wc.prog Wc.w) A.in1 (do ru (<-rt (.type "StopIteration") [])) R (λe s'=>aw (ay Wc.prog Wc.w) A (do if<-ul e (.type "StopIteration") then bB aC else um e) Q E s') s1:=λs1 R h₀=>bH h₀ λh1 e1 k1=>by exact e1▸TJ hh λh' k=>h h' λb o q e=>k b o (k1 b o q e)
 have Vq:∀R:lF->aq->Prop,aw (ay Wc.prog Wc.w) A.in1 (do
    rF (.ref it) 2 .none
    ru (<-rt (.type "StopIteration") [])) R (λe s'=>aw (ay Wc.prog Wc.w) A (do if<-ul e (.type "StopIteration") then bB aC else um e) Q E s') s:=λR=>by
  exact au (gI hi (by exact lB ac) λjP nq lz=>out _ R ⟨jP,ac,λb o q e=>(lz.2 b q).trans e⟩)
 have e1:L[i]?=aC:=Ce (bJ he);rcases F with⟨hb,⟨n,rfl⟩,hL⟩|⟨hb,hd,⟨n,rfl,hn⟩,hL⟩|⟨hb,b,ord,rfl,Vp,hlen,hat⟩
 ·dsimp only;refine au (AH hb ho T ?_);have j1:(xK (Wc.w.params.setOrder a ((ep:aJ)).toNat) es)[((i:aJ)).toNat]?=aC:=by refine dm (dS) ?_;refine dm hL ?_;exact e1
  exact az j1 (Vq _)
 ·dsimp only;refine au (yY hb hd (by(refine az hl ?_;refine az hb ?_);rfl) hn ho T ?_);have h1:es[i]?=aC:=by(refine dm (dS) ?_;refine dm hL ?_);exact e1
  exact az h1 (Vq _)
 ·dsimp only;refine au (jM Vp ac ?_);dsimp only;exact az (by simp[hlen,he]:((ord.map λ(i:Nat)=>rawInt i).toArray)[((i:Int)).toNat]?=none)<|wpAny_bind (gI hi (by exact lB ac) λjP nq lz=>au (gI (s:={s with heap:=jP}) nq (by exact lB ac) λvd Fv Pb=>out _ _ ⟨vd,ac,λb o q e=>(Pb.2 b q).trans ((lz.2 b q).trans e)⟩))
theorem Pc{H:aO}{I:ao}{ρ:af ao}{vs:af V}(hl:t.led=!Wc.w.params.followText "set-order")(T:Tab t es.size)(ho:H.get? a=ae (mE es ep t))(hI:H.objs.size<=I)(X:sY H ρ L vs)(mM:L.length=es.size):
  Fo H ρ I vs (λi h=>∃first,h.get? I=ae (hJ a first i es.size ep)/\nv a ep es t L h first i) where
 frame:=λS acc c i h h' hS hob ⟨first,hi,F⟩ k kp=>⟨first,k _ _ hS.symm hi,by
  rcases F with F|F|⟨hb,b,ord,rfl,Vp,r⟩
  ·exact .inl F
  ·exact .inr (.inl F)
  ·refine .inr (.inr ⟨hb,b,ord,ac,k _ _ (λq=>?_) Vp,r⟩)
   replace q:=q.symm;subst q
   exact aV (bf (jW C0) (hob▸Vp)) (by simp)⟩
 fld:=λi h h₀=>bH h₀ λfirst hi _=>⟨_,_,hi,ac⟩
 item:=λA i s v hh ⟨first,hi,F⟩ kp hv=>by
  exact bH (X.get' hv) λe he y=>Dy hl (kp _ _ ho) T hi F he λh' Dz wa F' sb=>⟨e.2,h',s.toks,ac,ac,⟨Dz,wa,F'⟩,λb o q e=>(sb.2 b q).trans e,y.key.mono (λb items t=>(ox (λb o q e=>(sb.2 b q).trans e) hi ac) _ _ ((eR kp) _ _ t)) Pre.refl⟩
 done:=λA s hh ⟨first,hi,F⟩ kp=>FD hh hl (kp _ _ ho) T hi F X.length λh' k=>⟨h',s.toks,ac,ac,k⟩
theorem FE{ρ:af ao}{us:af V}{Q:af ak->aq->Prop}(hh:A.handled=aC)(SI:mN s.heap ρ a us es t)(hz:us.length<4096)(h:∀xy h' tk d1 vs,vs.Perm us->(∀b o,s.heap.get? b=ae o->h'.get? b=ae o)->eB h' ρ xy vs->Q xy {s with heap:=h',toks:=tk,drawn:=d1}):aw (ay Wc.prog Wc.w) A (uC (.ref a)) Q E s:=by
 rcases SI.at_ with⟨ep,ho⟩;refine pK (T:="set") (P:=λvs _=>vs.Perm us) hh (λvs d q=>by refine az q.length_eq ?_;exact bz (lR hz (lB ac))) (by decide) (by decide) (cB ho) (λh' kp=>⟨_,kp _ _ ho,ac⟩) (λA E s1 Q kp q=>O9 ⟨_,kp _ _ ho,ac⟩ q)
  (λA E s1 Q kp sz wS hq=>HH (kp _ _ ho) SI.tab (SI.size▸hz) λI h1 d1 L first hI k1 p hi F=>?_) h
 exact bH (SI.LY.perm p) λvs p' X=>hq I h1 d1 vs _ p' hI (Pc SI.led SI.tab ho (lT sz hI) X (by refine az p.length_eq ?_;simp)) ⟨first,hi,F⟩ k1
end
theorem bU{v:V}:∀{vs:af V},v∈cF vs↔v∈vs:=by
 intro l0;induction l0 with
 |nil=>exact yH
 |cons x xs ih=>
  unfold cF;rw[ci,ci,BN,ih];constructor
  ·rintro(h|h)
   ·exact .inl h
   ·exact .inr h.1
  ·rintro(h|h)
   ·exact .inl h
   ·by_cases q:V.beq x v=aj
    ·exact .inl (V.eq_of_beq _ _ q).symm
    ·exact .inr ⟨h,by simp[q]⟩
theorem cq:∀{vs:af V},(cF vs).Nodup:=by
 intro l0;induction l0 with
 |nil=>exact fh
 |cons x xs ih=>unfold cF;refine eV.mpr ⟨λm=>?_,ih.filter _⟩;have:=(BN.mp m).2;rw[V.beq_refl] at this;exact ff this
theorem gi{α:Type}:∀{us l:af α},us.Nodup->(∀v∈us,v∈l)->us.length<=l.length:=by
 intro us;induction us with
 |nil=>exactλ_ _=>bR _
 |cons u us ih=>intro l n h;refine sE (Xl (h u (.head _))) λl1 l2 z1=>?_;subst z1;rw[eV] at n;have j:=ih (l:=l1++l2) n.2 λv hv=>(cR.mp (h v (.tail _ hv))).elim (i5 _) λq=>(ci.mp q).elim (λe=>aV (e▸hv) n.1) (i6 _);rewrite[ct] at j⊢;exact jF j
theorem rK{α:Type}:∀{a b:af α},a.Nodup->b.Nodup->(∀v,v∈a↔v∈b)->a.Perm b:=by
 intro l0;induction l0 with
 |nil=>
  intro b _ _ h;induction b with
  |nil=>exact .nil
  |cons x b=>exact aV ((h x).mpr (.head _)) (gu)
 |cons x a ih=>
  intro b na nb h;refine sE (Xl ((h x).mp (.head _))) λl1 l2 z2=>?_;subst z2;have pm:(l1++x::l2).Perm (x::(l1++l2)):=To;have nb':=pm.nodup_iff.mp nb;rw[eV] at na nb';refine((ih na.2 nb'.2 λv=>?_).cons x).trans pm.symm;have:=h v;rw[pm.mem_iff,ci,ci] at this;constructor
  ·intro hv;rcases this.mp (.inr hv) with rfl|q
   ·exact aV hv na.1
   ·exact q
  ·intro hv;rcases this.mpr (.inr hv) with rfl|q
   ·exact aV hv nb'.1
   ·exact q
theorem DA{vs:af V}(h:vs.Nodup):once vs=aj:=by
 induction vs with
 |nil=>rfl
 |cons x xs ih=>
  rw[eV] at h;unfold once;refine az (ih h.2) ?_;rewrite[Bool.and_true,oT];cases q:has x xs with
  |false=>rfl
  |true=>refine bH (GX.mp q) λy hy e=>?_;have:=V.eq_of_beq _ _ e;subst this;exact aV hy h.1
theorem kE{vs:af V}:V.eI vs=aj↔∀v∈vs,v.pure=aj:=by
 induction vs with
 |nil=>decide
 |cons x xs ih=>have:V.eI (x::xs)=(x.pure&&V.eI xs):=ac;refine az this ?_;rewrite[cY,ih];simp
theorem vY{vs us:af V}(ok:cZ vs=aj)(n:vs.Nodup)(p:us.Perm vs):cZ us=aj/\dh us=dh vs:=by
 have hn:=p.nodup_iff.mpr n;unfold cZ at ok⊢;simp -iota only[cY,qC,di,eH] at ok⊢;rcases ok with⟨⟨⟨⟨h1,h2⟩,h3⟩,h4⟩,h5⟩;refine az p.length_eq ⟨⟨⟨⟨⟨kE.mpr λv hv=>kE.mp h1 v (p.subset hv),h2⟩,λa ha b hb=>h3 a (p.subset ha) b (p.subset hb)⟩,.inl (DA hn)⟩,?_⟩,?_⟩
 ·rcases h5 with q|q
  ·exact .inl q
  ·exact .inr λv hv=>q v (p.subset hv)
 ·exact ij ((cz us).trans (p.trans (cz vs).symm)) (fi us (λa ha b hb=>h3 a (p.subset ha) b (p.subset hb)) hn) (fi vs h3 n)
section
variable{ρ:af ao}{vs:af V}{S:ao}
theorem HI{us:af V}{i:ag}(n:us.Nodup)(mem:∀v,v∈us↔v∈vs.take i):us.length<=(cF vs).length:=
 gi n λv hv=>bU.mpr (TK _ _ ((mem v).mp hv))
theorem AI{K:Type} [DecidableEq K] (knd:KeyKind Wc.prog Wc.w K) (enc:K->V) (hk:∀(h:aO) k v',VR h ρ v' (enc k)->knd.is k v'=aj/\v'.scannable=aj) (hh:∀k,knd.hash k=cG (enc k)) (pe:∀k,(enc k).pure=aj) (all:∀v∈vs,∃k,v=enc k) (hz:(cF vs).length<=64) (A:aW):vv ρ S A vs (λ_ _ _=>iZ):=λi u s x us es t Q E hu SI _ mem xu h=>by rcases all u (cw hu) with⟨k,rfl⟩;exact OS knd enc (hk s.heap) hh pe SI (λu hu=>all u (TK _ _ ((mem u).mp hu))) xu (by have j1:=HI SI.once mem;exact tL (aR (lT j1 hz)) ac) h
theorem Pd(pv:V.eI vs=aj)(all:∀v∈vs,sG v=aj)(hz:(cF vs.dropLast).length<=4)(A:aW)(hA:A.units+20<b6):vv ρ S A vs (λi us t=>i<vs.length->HC us t):=λi u s x us es t Q E hu SI AT mem xu h=>by
 have hi:i<vs.length:=(bq.mp hu).1;have hm:=cw hu;have small:∀(j:ag)(us:af V),j<vs.length->us.Nodup->(∀v∈us,v∈vs.take j)->us.length<=4:=λj us hj n m=>by refine lT (gi n λv hv=>bU.mpr ?_) hz;exact az Oc ((List.take_subset_take_left _ (ux hj)) (m v hv))
 refine Ts SI (AT hi) (kE.mp pv u hm) (all u hm) xu hA (small i us hi SI.once λv hv=>(mem v).mp hv) λb h' sv jc t' sb I' m P=>h b h' sv jc t' sb I' m λjE=>P (small (i+1) sv jE I'.once λv hv=>?_);refine az (take_snoc hu) ?_;rewrite[cR];rcases(m v).mp hv with q|q
 ·exact .inl ((mem v).mp q)
 ·exact .inr (by rw[q];exact .head _)
theorem L5{led:aY}(so:setOk vs=aj)(hz:(cF vs).length<=64):∃Stg:ag->af V->cx->Prop,(∀A:aW,A.units+20<b6->vv ρ S A vs Stg)/\Stg 0 [] (.fresh 0 0 led):=by
 unfold setOk at so;simp -iota only[cY,qC,di,eH] at so;rcases so with⟨pv,(q|q)|⟨q,hd⟩⟩
 ·refine⟨_,λA _=>AI (intKind Wc.prog Wc.w) V.int (λh k v' x=>?_) (λk=>ac) (λk=>ac) (λv hv=>?_) hz A,bp⟩
  ·cases x;exact⟨by exact aF ac,ac⟩
  ·have j1:=q v hv;cases v<;>first|exact⟨_,ac⟩|exact ff j1
 ·refine⟨_,λA _=>AI (PySem.strKind Wc.prog Wc.w) V.str (λh k v' x=>?_) (λk=>ac) (λk=>ac) (λv hv=>?_) hz A,bp⟩
  ·cases x;exact⟨by exact aF ac,ac⟩
  ·have j2:=q v hv;cases v<;>first|exact⟨_,ac⟩|exact ff j2
 ·exact⟨_,λA hA=>Pd pv q hd A hA,λ_=>⟨ac,λu hu=>by simp at hu,λq hq=>by simp at hq⟩⟩
end
section
theorem FF{A:aW}{s:aq}{ρ:af ao}{st:af O}{a:ao}{items:bj ak}{n:ag}{vs:af V}{Q:ak->aq->Prop}(hh:A.handled=aC)(hu:A.units+60<b6)(R:Rel s.heap ρ st)(hd:s.heap.get? a=ae (eM items n))(rr:eB s.heap ρ items.toList vs)(so:setOk vs=aj)(hz:(cF vs).length<=64)(h:∀h' tk us es t,(∀b o,s.heap.get? b=ae o->h'.get? b=ae o)->Good mA s ρ st {s with heap:=h',toks:=tk} ρ->mN h' ρ s.heap.objs.size us es t->us.Perm (cF vs)->Q (.ref s.heap.objs.size) {s with heap:=h',toks:=tk}):aw (ay Wc.prog Wc.w) A (cf (.type "set") [.ref a]) Q dC s:=by
 refine bH (L5 (ρ:=ρ) (S:=s.heap.objs.size) (led:=!Wc.w.params.followText "set-order") so hz) λStg step O8=>?_;have pv:V.eI vs=aj:=by unfold setOk at so;simp only[cY] at so;exact so.1
 exact HF hh hu (cQ hd) rr pv step O8 λh' tk us es t kp SI mem=>h h' tk us es t kp (jD R kp (bz (eh SI.at_ λep ho=>cB ho)) tk) SI (rK SI.once cq λv=>(mem v).trans bU.symm)
theorem HJ{A:aW}{s:aq}{ρ:af ao}{st st':af O}{v r:V}{v':ak}(hh:A.handled=aC)(hu:A.units+70<b6)(R:Rel s.heap ρ st)(x:VR s.heap ρ v' v)(e:iV "sortedSet" v st=ae (r,st')):aw (ay Wc.prog Wc.w) A (cf (.type "set") [v']) (λu s2=>(∀b o,s.heap.get? b=ae o->s2.heap.get? b=ae o)/\aw (ay Wc.prog Wc.w) A (cf (.builtin "sorted") [u]) (gz s ρ r st') dC s2) dC s:=by refine fw R x (e) λi a items n vs p l hd rr e=>bC e λso e=>bC (show(if cZ (cF vs) then newList (dh (cF vs)) else fail) st=ae (r,st') from e) λc e=>iM e λ_=>?_;have hz:=qV c;refine FF hh (rL (eD (lB ac) _) hu) R hd rr so (bz ‹_›) λh' tk us es t kp G SI p=>⟨kp,jS G (rD (rL (eD (lB ac) _) hu) G.rel (bG h'.objs.size (aP _) (FE (by trivial) SI (by refine az p.length_eq ?_;exact lR hz (lB ac)) λxy h2 Ve d2 ZJ p2 Gz rr sz=>?_)))⟩;have g:=jD G.rel Gz sz Ve;rcases vY c cq (p2.trans p) with⟨s1,s2⟩;exact⟨⟨g.rel,g.qf,g.gens,g.os⟩,ZJ,s1,s2,rr⟩
theorem Pe{A:aW}{s:aq}{ρ:af ao}{st st':af O}{v r:V}{v':ak}(hh:A.handled=aC)(hu:A.units+70<b6)(R:Rel s.heap ρ st)(x:VR s.heap ρ v' v)(e:iV "lenSet" v st=ae (r,st')):aw (ay Wc.prog Wc.w) A (cf (.type "set") [v']) (λu s2=>(∀b o,s.heap.get? b=ae o->s2.heap.get? b=ae o)/\aw (ay Wc.prog Wc.w) A (cf (.builtin "len") [u]) (gz s ρ r st') dC s2) dC s:=by refine fw R x (e) λi a items n vs p l hd rr e=>bC e λc e=>bo e<|FF hh (rL (eD (lB ac) _) hu) R hd rr (cb.mp c).1 (cA (cb.mp c).2) λh' tk us es t kp G SI p=>⟨kp,?_⟩;have mM:=SI.size;rw[p.length_eq] at mM;exact eh SI.at_ λep ho=>call_len_set ho ⟨ac,ac,ac⟩ ac SI.tab.fits (by lia)<|az mM (⟨ρ,⟨G.rel,G.qf,G.gens,G.os⟩,.int _ _⟩)
end
section
variable{n:ag}{A:aW}{s:aq}{ρ:af ao}{st st':af O}{env:bD}{sc:aX}{m:Env}
@[elab_as_elim]theorem pM{α:Type}{g a:α}{l:af α}{C:α->Prop}(h:g∈a::l)(k:C a)(k':g∈l->C g):C g:=(ci.mp h).elim (λe=>e.symm▸k) k'
@[elab_as_elim]theorem DB{α β:Type}{f a:α}{g b:β}{l:af (α×β)}{C:α->β->Prop}(h:(f,g)∈(a,b)::l)(k:C a b)(k':(f,g)∈l->C f g):C f g:=(ci.mp h).elim (λe=>(wV e).1.symm▸(wV e).2.symm▸k) k'
@[elab_as_elim]theorem DC{α β γ:Type}{f a:α}{g b:β}{h c:γ}{l:af (α×β×γ)}{C:α->β->γ->Prop}(m:(f,g,h)∈(a,b,c)::l)(k:C a b c)(k':(f,g,h)∈l->C f g h):C f g h:=DB (C:=λf p=>C f p.1 p.2) m k k'
theorem FG(ok:Wc.Ok)(IH:b7 n){f:aA}{F:ak}{e:aK}{p:PE}{fp Zs pos uw:bu}(hb:(f,F)∈kI)(pl:kK F)(g1:sr sc f)(g2:sr sc "set")(te:TE sc e p)(ns:noStar e=aj)(rm:dO n A)(R:Rel s.heap ρ st)(N:cD s.heap ρ env sc m){v r:V}{d4:af O}(e1:(run Wc.G n).ev p m st=ae (v,d4))
  (h:∀{s:aq} {ρ:af ao} {v':ak},Rel s.heap ρ d4->VR s.heap ρ v' v->
   aw (ay Wc.prog Wc.w) A (cf (.type "set") [v']) (λu s2=>(∀b o,s.heap.get? b=ae o->s2.heap.get? b=ae o)/\aw (ay Wc.prog Wc.w) A (cf F [u]) (gz s ρ r st') dC s2) dC s):
  aw (ay Wc.prog Wc.w) A (bw (.Call (.Name (aB f) fp) [.Call (.Name (aB "set") Zs) [e] [] uw] [] pos) env) (gz s ρ r st') dC s:=
 AD ok IH hb pl (F2:=.type "set") (by decide) fP g1 g2 te ns rm R N e1 λv' s1 d0 q1 x1=>
  wm (h q1.rel x1) λu s2 hu=>⟨hu.1,ec hu.2 (λ_ _ h=>g9 q1 h) λ_ _ q=>q⟩
noncomputable abbrev TM(A:aW)(f:aA)(F:ak):Prop:=∀{s:aq}{ρ:af ao}{st st':af O}{v r:V}{v':ak},Rel s.heap ρ st->VR s.heap ρ v' v->iV f v st=ae (r,st')->aw (ay Wc.prog Wc.w) A (cf F [v']) (gz s ρ r st') dC s
theorem TN(ok:Wc.Ok)(IH:b7 n){f:aA}{F:ak}{e:aK}{p:PE}{fp pos:bu}(hb:(f,F)∈kI)(pl:kK F)(g:sr sc f)(te:TE sc e p)(ns:noStar e=aj)(rm:dO n A)(R:Rel s.heap ρ st)(N:cD s.heap ρ env sc m){r:V}(h:TM A f F)(e0:cI ((run Wc.G n).ev p m) (λv=>iV f v) st=ae (r,st')):aw (ay Wc.prog Wc.w) A (bw (.Call (.Name (aB f) fp) [e] [] pos) env) (gz s ρ r st') dC s:=by exact ba e0 λv d4 e1 e2=>q9 (jA ok R N g (EX ok hb) (eo pl (.cons te ns .nil) (EY IH te ns rm R N e1 λv' s1 d0 q1 x1=>⟨q1.rel.base,jS q1 (h q1.rel x1 e2)⟩)))
theorem Pf(ok:Wc.Ok)(hh:A.handled=aC)(hu:A.units+40<b6):TM A "sorted" (.builtin "sorted"):=λ{s ρ st st' v r v'} R x e=>by
 refine bb (e) λi hi e=>dQ e λo l g=>x.jg hi λa p=>?_;induction o with
 |list vs=>exact Fn (rL (eD (lB ac) _) hu) R p l g
 |dict ps=>exact Fq hh ok.mods (rL (bL (lB ac)) hu) R p l g
 |_=>exact(dy (st:=st) g).elim
theorem Xm(ok:Wc.Ok)(hh:A.handled=aC)(hu:A.units+40<b6):TM A "dict" (.type "dict"):=λ{s ρ st st' v r v'} R x e=>by
 refine bb (e) λi hi e=>dQ e λo l g=>x.jg hi λa p=>?_;induction o with
 |list vs=>exact bb g λps hp g=>bC g λq g=>wh hh (rL (eD (lB ac) _) hu) R p l hp q g
 |dict ps=>exact bC g λq g=>wi ok.mods (rL (bL (lB ac)) hu) R p l q g
 |_=>exact(dy (st:=st) g).elim
theorem L7(ok:Wc.Ok)(IH:b7 n){g:aA}{e:aK}{p:PE}{fp pos:bu}(hg:g∈ce)(gl:sr sc g)(te:TE sc e p)(ns:noStar e=aj)(rm:dO n A)(R:Rel s.heap ρ st)(N:cD s.heap ρ env sc m){r:V}(e0:gf (run Wc.G n) (.bi g p) m st=ae (r,st')):aw (ay Wc.prog Wc.w) A (bw (.Call (.Name (aB g) fp) [e] [] pos) env) (gz s ρ r st') dC s:=by
 have hu:=rm.hu;have hh:=rm.handled;have go:=λ{g:aA}{F:ak}(hb:(g,F)∈kI)(pl:kK F)(h:TM A g F)(gl:sr sc g)(e0:cI ((run Wc.G n).ev p m) (λv=>iV g v) st=ae (r,st'))=>TN (fp:=fp) (pos:=pos) ok IH hb pl gl te ns rm R N h e0;clear R N ns te;revert gl e0;refine pM hg ?_ λhg=>pM hg ?_ λhg=>pM hg ?_ λhg=>pM hg ?_ λhg=>pM hg ?_ λhg=>pM hg ?_ λhg=>pM hg ?_ λhg=>pM hg ?_ λhg=>pM hg ?_ λhg=>aV hg gu
 ·exact go (F:=.builtin "len") (by decide) dX λR x e=>Lz R x e
 ·exact go (F:=.builtin "abs") (by decide) dX λR x e=>LA R x e
 ·exact go (F:=.type "str") (by decide) fP λR x e=>LB R x e
 ·exact go (F:=.type "tuple") (by decide) fP λR x e=>EZ R x e
 ·exact go (F:=.type "list") (by decide) fP λR x e=>wc R x e
 ·exact go (F:=.builtin "sum") (by decide) dX λR x e=>LC hh R x e
 ·exact go (F:=.builtin "max") (by decide) dX λR x e=>LG hh R x e
 ·exact go (F:=.builtin "sorted") (by decide) dX (Pf ok hh (rL (eD (lB ac) _) hu))
 ·exact go (F:=.type "dict") (by decide) fP (Xm ok hh (rL (bL (lB ac)) hu))
theorem FH(ok:Wc.Ok)(IH:b7 n){f h g:aA}{a:aK}{p:PE}{fp p1 p2 pos:bu}(hm:(f,h,g)∈M7)(g1:sr sc f)(g2:sr sc h)(te:TE sc a p)(ns:noStar a=aj)(rm:dO n A)(R:Rel s.heap ρ st)(N:cD s.heap ρ env sc m){v:V}(e:gf (run Wc.G n) (.bi g p) m st=ae (v,st')):aw (ay Wc.prog Wc.w) A (bw (.Call (.Name (aB f) fp) [.Call (.Name (aB h) p1) [a] [] p2] [] pos) env) (gz s ρ v st') dC s:=by
 have hu:=rm.hu;have hh:=rm.handled;refine ba e λu d4 e1 e2=>?_;revert g1 g2 e2;refine DC hm ?_ λhm=>DC hm ?_ λhm=>DC hm ?_ λhm=>aV hm gu
 ·exactλg1 g2 e2=>FG ok IH (F:=.builtin "sorted") (by decide) dX g1 g2 te ns rm R N e1 λR x=>HJ hh (rL (eD (lB ac) _) hu) R x e2
 ·exactλg1 g2 e2=>FG ok IH (F:=.builtin "len") (by decide) dX g1 g2 te ns rm R N e1 λR x=>Pe hh (rL (bL (lB ac)) hu) R x e2
 ·exactλg1 g2 e2=>wj ok IH hh g1 g2 te ns rm R N e1 e2
theorem DD(ok:Wc.Ok)(IH:b7 n){f g:aA}{a:aK}{p:PE}{fp ap p2 pos:bu}(hm:(f,g)∈GI)(g1:sr sc f)(pb:eQ a (aB "items"))(hp:(ap.endLine==p2.line)=aj)(te:TE sc a p)(rm:dO n A)(R:Rel s.heap ρ st)(N:cD s.heap ρ env sc m){v:V}(e:gf (run Wc.G n) (.bi g p) m st=ae (v,st')):aw (ay Wc.prog Wc.w) A (bw (.Call (.Name (aB f) fp) [.Call (.Attribute a (aB "items") ap) [] [] p2] [] pos) env) (gz s ρ v st') dC s:=by
 refine ba e λu d4 e1 e2=>?_;revert g1 e2;refine DB hm ?_ λhm=>DB hm ?_ λhm=>aV hm gu
 ·exactλg1 e2=>uG ok IH rm.handled (rL (eD (lB ac) _) rm.hu) g1 te pb hp rm R N e1 e2
 ·exactλg1 e2=>wo ok IH rm.handled g1 te pb hp rm R N e1 e2
theorem FI(ok:Wc.Ok)(IH:b7 n)(IC:qw n){o:aK}{p:PE}{x:aA}{ap pos:bu}{es:af aK}{ps:af PE}(hb:eQ o (aB x))(hp:(ap.endLine==pos.line)=aj)(hl:es.length<29)(t1:TE sc o p)(t:Gw sc es ps)(rm:dO n A)(R:Rel s.heap ρ st)(N:cD s.heap ρ env sc m){v:V}(e:gf (run Wc.G n) (.cu p x ps) m st=ae (v,st')):aw (ay Wc.prog Wc.w) A (bw (.Call (.Attribute o (aB x) ap) es [] pos) env) (gz s ρ v st') dC s:=by
 refine ba e λov d4 e1 e2=>?_;clear e;cases ov with
 |ref i=>
  refine dQ e2 λob l1 e3=>?_;have B:(cI (p6 (λe=>(run Wc.G n).ev e m) ps) (λvs=>cI (load i) λMO=>if O.kind ob==O.kind MO then iJ (.ref i) x vs else fail) d4=ae (v,st'))->_:=λh=>
   ba h λvs nT e3 e4=>dQ e4 λMO l2 e5=>bC e5 λhk e5=>vS (v:=v) (st':=st') ok IH hb hp hl t1 t rm R N e1 e3 (λj hj=>by(replace hj:=Internal.V.ref.inj hj;subst hj);exact⟨ob,l1,λo ho=>by rw[l2] at ho;exact aU ho▸jp.mp hk⟩) e5
  induction ob with
  |inst c d=>
   refine dQ e3 λMO l2 e4=>?_;induction MO with
   |ns jc=>exact bC e4 λq1 e5=>EI ok IH IC hb hp hl t1 t rm R N e1 l1 l2 q1 e5
   |_=>exact(dy e4).elim
  |_=>exact B e3
 |_=>exact ba e2 λvs nT e3 e5=>vS (v:=v) (st':=st') ok IH hb hp hl t1 t rm R N e1 e3 (λj hj=>nomatch hj) e5
end
section
variable{n:ag}{A:aW}{s:aq}{ρ:af ao}{st':af O}{env:bD}
noncomputable def own:aK->aY
 |.UnaryOp .Not _ _=>aQ
 |.BoolOp _ _ _=>aQ
 |.IfExp _ _ _ _=>aQ
 |.Compare _ _ _ _=>aQ
 |_=>aj
theorem Pg{e:aK}(h:own e=aj):gH e env (bw e env)=(do let v<-bw e env;mZ e.pos;lN [v] (truthy v)):=by
 cases e
 case UnaryOp o _ _=>induction o<;>first|rfl|cases h
 case BoolOp=>exact ff h
 case IfExp=>exact ff h
 case Compare=>exact ff h
 all_goals rfl
noncomputable def TP(n:ag)(sc:aX)(e:aK)(pe:PE):Prop:=∀(A:aW)(s:aq)(ρ:af ao)(st:af O)(env:bD)(m:Env)(v:V)(st':af O),
 dO (n+1) A->Rel s.heap ρ st->cD s.heap ρ env sc m->gf (run Wc.G n) pe m st=ae (v,st')->
 aw (ay Wc.prog Wc.w) A (bw e env) (gz s ρ v st') dC s/\
 (∀b,v=.bool b->aw (ay Wc.prog Wc.w) A (gH e env (bw e env)) (sV s ρ b st') dC s)
variable{sc:aX}{e:aK}{pe:PE}
theorem plain1(h:own e=aj)(k:∀{A:aW} {s:aq} {ρ:af ao} {st:af O} {env:bD} {m:Env} {v:V} {st':af O},dO (n+1) A->Rel s.heap ρ st->cD s.heap ρ env sc m->gf (run Wc.G n) pe m st=ae (v,st')->aw (ay Wc.prog Wc.w) A (bw e env) (gz s ρ v st') dC s):TP n sc e pe:=
 λA s ρ st env m v st' rm R N ev=>⟨k rm R N ev,Ld v (k rm R N ev) (Pg h)⟩
theorem plain(h:own e=aj)(k:∀{A:aW} {s:aq} {ρ:af ao} {st:af O} {env:bD} {m:Env} {v:V} {st':af O},dO n A->Rel s.heap ρ st->cD s.heap ρ env sc m->gf (run Wc.G n) pe m st=ae (v,st')->aw (ay Wc.prog Wc.w) A (bw e env) (gz s ρ v st') dC s):TP n sc e pe:=
 plain1 h λrm=>k rm.down
theorem vx(k:∀{A:aW} {s:aq} {ρ:af ao} {st:af O} {env:bD} {m:Env} {v:V} {st':af O},dO n A->Rel s.heap ρ st->cD s.heap ρ env sc m->gf (run Wc.G n) pe m st=ae (v,st')->aw (ay Wc.prog Wc.w) A (bw e env) (gz s ρ v st') dC s/\
  (∀b,v=.bool b->aw (ay Wc.prog Wc.w) A (gH e env (bw e env)) (sV s ρ b st') dC s)):TP n sc e pe:=λ_ _ _ _ _ _ _ _ rm=>k rm.down
theorem step_sound(ok:Wc.Ok)(IH:b7 n)(IC:qw n)(SO:ly n){k:ag}(t:eJ (QE k) sc e pe):TP n sc e pe:=by
 induction t with
 |none=>exact plain ac λ_ R _ ev=>bo ev (wpAny_Constant_none (dv R .none))
 |bool=>exact plain ac λ_ R _ ev=>bo ev (wpAny_Constant_bool (dv R (.bool _)))
 |int=>exact plain ac λ_ R _ ev=>bo ev (RE (eC R (.int _ _) _))
 |str h=>exact h▸plain ac λ_ R _ ev=>bo ev (wpAny_Constant_str (eC R (.str _ _) _))
 |var h h1 h2=>exact h▸plain ac λ_ R N ev=>bb ev λu h6 h7=>bo h7 (wpAny_Name (G1 N h1 h6 λv' x=>dv R x) (h▸h2))
 |tup t h=>exact plain ac λrd R N ev=>Le IH t.up rd R N h ev
 |list t=>exact plain ac (G3 IH t.up)
 |kT=>exact plain ac λ_ R _ ev=>tZ ev (wpAny_Dict_empty ⟨_,qt R _ ac (.dict .nil fh),.ref (gN R _)⟩)
 |r8 a b c d=>exact plain ac (Fw IH ⟨k,a⟩ ⟨k,b⟩ ⟨k,c⟩ ⟨k,d⟩)
 |bin a b=>exact plain ac (Ll IH ⟨k,a⟩ ⟨k,b⟩)
 |not a=>exact vx (Li IH ⟨k,a⟩)
 |neg a=>exact plain ac (G7 IH ⟨k,a⟩)
 |cmp h a b=>exact vx (Lf ok IH ⟨k,a⟩ ⟨k,b⟩ h)
 |xX h a b c=>exact vx (G6 ok IH ⟨k,a⟩ ⟨k,b⟩ ⟨k,c⟩ h)
 |and a b=>exact vx (Lh IH ⟨k,a⟩ ⟨k,b⟩)
 |or a b=>exact vx (NP IH ⟨k,a⟩ ⟨k,b⟩)
 |ite a b c=>exact vx (Lj IH ⟨k,a⟩ ⟨k,b⟩ ⟨k,c⟩)
 |gB h a=>refine sE h λ_ _ h=>?_;exact h▸plain ac (B0 IH ⟨k,a⟩)
 |gV a b=>exact plain ac (EF IH ⟨k,a⟩ ⟨k,b⟩)
 |idx h a b=>exact plain ac (G8 IH ⟨k,a⟩ ⟨k,b⟩ h)
 |attr h h1 h2 a=>exact h▸plain ac (EG ok IH h1 ⟨k,a⟩ (h▸h2))
 |fn h g t=>refine eh h λ_ h=>?_;exact h▸plain ac λrd R N ev=>ba ev λvs d4 e1 e2=>EH ok IH IC g t.up rd R N ev (t8 e2)
 |new h h1 g t=>refine eh h λ_ h=>?_;exact h▸plain1 ac λrm R N ev=>Ha ok IH IC g t.up rm R N ev h1
 |bi h h1 g a ns=>refine eh h λ_ h=>?_;exact h▸plain ac λrd R N ev=>L7 ok IH h1 g ⟨k,a⟩ ns rd R N ev
 |nest hm h h1 g1 g2 a ns=>refine eh h λ_ h=>?_;refine sE h1 λ_ _ h1=>?_;exact h▸h1▸plain ac λrd R N ev=>FH ok IH hm g1 g2 ⟨k,a⟩ ns rd R N ev
 |items hm h h1 g1 pb hp a=>refine eh h λ_ h=>?_;exact h▸h1▸plain ac λrd R N ev=>DD ok IH hm g1 pb hp ⟨k,a⟩ rd R N ev
 |cu h hb hp hl a t=>exact h▸plain ac λrd R N ev=>FI ok IH IC hb hp hl ⟨k,a⟩ t.up rd R N ev
 |comp co tt ot ts ti tg te=>exact plain ac λrd R N ev=>EP IH SO co tt ot (ts.up k) ti.up tg.up ⟨k,te⟩ rd R N ev
theorem HK(ok:Wc.Ok)(IH:b7 n)(IC:qw n)(SO:ly n):b7 (n+1):=λsc e pe t=>t.elim λk ht=>by
 induction k with
 |zero=>exact ht.elim
 |succ k=>exact step_sound ok IH IC SO ht
end
theorem L8(ok:Wc.Ok):∀n,∀k,k<=n->b7 k/\qw k/\qy k:=by
 intro n;induction n with
 |zero=>intro k hk;have:k=0:=gT hk (bR _);replace this:=this.symm;subst this;refine⟨λsc e pe t A s ρ st env m v st' rm R N ev=>(dy (st:=st) ev).elim,λc f vs v st st' a A s ρ vals e=>(dy (st:=st) e).elim,?_⟩;intro sc ss ps t A s ρ st env m m' fl st' rm R N e;exact(dy (st:=st) e).elim
 |succ n ih=>
  intro k hk;rcases gZ k (n+1) with l|l
  ·exact ih k (b9 l)
  ·have:k=n+1:=gT hk l;subst this;exact qg (ih n (aP _)) λhE hC hX=>⟨HK ok hE hC (vr ok hE),Hb ok hX,ES ok hE hX (EJ n (λk l=>(ih k (bz ‹_›)).1) (λk l=>(ih k (by exact bz ‹_›)).2.2)) (vr ok hE) (ih (n-1) (kL _ _)).1 (vr ok (ih (n-1) (kL _ _)).1)⟩
theorem TQ(ok:Wc.Ok){n:ag}{f:aA}{vs:af V}{v:V}{st st':af O}{a:ao}{A:aW}{s:aq}{ρ:af ao}{vals:af ak}(e:(run Wc.G n).cl "" f vs st=ae (v,st'))(hf:Wc.fn "" f=ae a)(rm:dO n A)(R:Rel s.heap ρ st)(x:eB s.heap ρ vals vs):aw (ay Wc.prog Wc.w) A (cf (.ref a) vals) (gz s ρ v st') dC s:=by refine xd (rc ((L8 ok n n (aP _)).2.1 _ _ _ _ _ _ _ A s ρ vals e hf rm R x) λr s2 h=>?_);rcases r with e|(v|_|_|_)<;>first|exact h.elim|exact h
end
section
open PySem PySem.W PyProof.Rows PySem.Challenge
theorem HM{W:Wd}(ok:W.Ok){h:aO}(kp:∀b o,W.h₀.get? b=ae o->h.get? b=ae o)(sz:W.h₀.objs.size<=h.objs.size):({W with h₀:=h}:Wd).Ok where
 UY:=ok.UY.keeps kp
 Bo:=ok.Bo
 mods:=lR ok.mods sz
 IV:=ok.IV.keeps kp
 co:=ok.co
 make:=ok.make
 fo:=ok.fo
 glob:=kS (ok.glob) λmg mb a b c=>⟨mg,mb,a.keeps kp,b.keeps kp,c⟩
 im:=ok.im
 func:=ok.func
 cu:=ok.cu
 fns:=λc f pf a e1 e2=>by
  exact(ok.fns c f pf a e1 e2).rec λo fd body ho hd X9 a b c d e f g h i j k l m=>⟨o,fd,body,kp _ _ ho,hd,X9.keeps kp,a,b,c,d,e,f,g,h,i,j,k,l,m⟩
theorem FJ{h:aO}{ρ:af ao}:∀{vs:af ak}{ns:af aJ},Bp vs ns->eB h ρ vs (ns.map .int)
 |[],[],_=>.nil
 |[],_::_,x=>by cases x
 |_::_,[],x=>by cases x
 |v::vs,n::ns,x=>by
  cases x with|cons n t r=>exact .cons (.int _ _) (FJ r)
noncomputable def TR(w:d7)(h:aO):Prop:=∃h₀:aO,(tQ h₀.get? h₀.objs.size (qp h₀)&&BG h₀.get? h₀.objs.size)=aj/\By h₀.get? (qp h₀)=(yc.map λk=>ae k.2)/\(∀b o,h₀.get? b=ae o->h.get? b=ae o)
theorem Xn:KV Wc:=by
 intro ok n s a l vs ns st' v h0 hf hn hI hl Ph e;have R:Rel s.heap [l] [.list (ns.map V.int)]:={
  len:=ac
  once:=by simp
  new:=λi b hb hi=>by
   induction i with
   |zero=>exact aV ac hi
   |succ i=>simp at hb
  zero:=⟨Nat.zero_lt_one,λo e=>by(replace e:=aU e;subst e);rfl,λb e=>by(replace e:=aU e;subst e);exact Ph⟩
  base:=λ_ _ e=>h0▸e
  size:=h0▸aP _
  at_:=λi o e=>by
   induction i with
   |zero=>(replace e:=aU e;subst e);exact⟨l,_,ac,hl,.list (FJ hI)⟩
   |succ i=>simp at e}
 have rm:dO n callerA:=⟨ac,by show 301+2*n+10<=700;exact tB (aR (bL (mL hn))) ac,by show 4+10*n+1000<=9900;exact tB (aR (bL (mL hn))) ac⟩;refine wm (TQ ok e hf rm R (.cons (.ref ac) .nil)) λv' s' hp=>?_;rcases hp with⟨dP,g,x⟩;exact⟨λb o e=>g.rel.base b o (h0▸e),g.os,g.gens,λb hb=>by subst hb;exact x.bool_inv⟩
theorem Pj{p:mV}{w:d7}{h₀:aO}{cW:aq}{a l:ao}{mg:aM->aS ak}{vs:af ak}{ns:af aJ}{ds:af WData}{n:ag}{st':af O}{v:V}(hn:n<=190)(k1:tQ h₀.get? h₀.objs.size (qp h₀)=aj)(k2:BG h₀.get? h₀.objs.size=aj)(k3:By h₀.get? (qp h₀)=yc.map λk=>ae k.2)(kp:∀b o,h₀.get? b=ae o->cW.heap.get? b=ae o)(hg:cW.heap.Ns fZ mg)(hm:mg (aB "law")=ae (.ref a))(hI:Bp vs ns)(hL:cW.heap.IsList l vs.toArray)(hw:Well w.params cW.heap (.ref l) (.list ds))(e:(run prog n).cl "" "law" [.ref 0] [.list (ns.map V.int)]=ae (v,st')):aw (ay p w) callerA (cf (.ref a) [.ref l]) (λv' s'=>(∀b o,cW.heap.get? b=ae o->s'.heap.get? b=ae o)/\s'.os=cW.os/\s'.gens=cW.gens/\(∀b,v=.bool b->v'=.bool b)) dC cW:=by
 have Ls:=Nv (p:=p) (w:=w) k1 k3;obtain⟨ZJ,hl⟩:∃ZJ:af ak,cW.heap.get? l=ae {cls:=.type "list",data:=.seq ZJ.toArray}:=by cases hw with|list h _=>exact⟨_,h⟩
 obtain rfl:ZJ=vs:=by rcases hL with⟨o,ho,_,k,hd⟩;replace ho:=hl▸ho;(replace ho:=aU ho;subst ho);injection hd with hd _;exact bf Wi hd
 have live:∀b,b<h₀.objs.size->∃o,h₀.get? b=ae o/\o.cls≠.type "list":=λb hb=>by refine tP (eH.mp k2 b (jO.mpr hb)) λo h1 h2=>⟨o,h1,λq=>?_⟩;exact I9.mp h2 q
 have LJ:h₀.objs.size<=l:=by
  rcases gZ l h₀.objs.size with q|q
  ·refine bH (live l q) λo h1 h2=>?_;have:=kp _ _ h1;rw[hl] at this;(replace this:=aU this;subst this);exact aV ac h2
  ·exact q
 have mM:h₀.objs.size<=cW.heap.objs.size:=bz (rL LJ (cB hl));have ok:=HM Ls (h:=cW.heap) kp mM;have Ph:(l==gk)=aQ:=jG.mpr λq=>by subst q;exact bS _ (lR Ls.mods LJ)
 refine eh (t8 (G:=prog) e) λpf Wo=>?_;refine jj (Ls.func "law" pf Wo) λa' h1 h2 _=>?_;have ha:a'=a:=by have h3:=sP▸mw (show refOf (U0 h₀.get? fZ "law")=ae a' from h1);simp -iota only[tQ,cY] at k1;have:=(Heap.Ns.of_isNs (Bw▸k1.2.2.1)).keeps kp;rw[hg.eq_nsMap,<-this.eq_nsMap,h3] at hm;replace hm:=Cz (aU hm);subst hm;rfl
 subst ha;exact says Xn _ ok n cW _ l _ ns st' v ac h1 hn hI hl Ph e
theorem L9(n:ag)(hn:n<=190)(runs:∀ns:af aJ,ns.length<=63->∃st',(run prog n).cl "" "law" [.ref 0] [.list (ns.map V.int)]=ae (.bool aj,st')):gF.Holds:=by
 refine head (YP:=TR) (λw s e=>?_) (λw h h' Y kp=>?_) whole ?_
 ·refine fB (wV e) λe1 e2=>?_;exact⟨s.heap,e1,e2,λ_ _ e=>e⟩
 ·refine jj Y λh₀ a b c=>?_;exact⟨h₀,a,b,λb o e=>kp b o (c b o e)⟩
 ·intro w oj cW mg mb G Y a o pm cd doc dV kV ho hd X9 hD hmg hg args vals as aaq aar hrd Do zE;refine jj Y λh₀ k1 k3 kp=>?_;refine fB (cb.mp k1) λk1 k2=>?_;have TG:=G.T.g;clear G X9 hD hd ho;wrow_args aaq aar hrd Do zE;rename (Well _ _ _ _)=>hw;rename (Bp _ _)=>hI;rename (cW.heap.IsList _ _)=>hL;rename (¬(_<_))=>hlen;have ZK:∀{l:af aJ},¬((63:ag):aJ)<(l.length:aJ)->l.length<=63:=λh=>by lia
  refine eh (runs _ (ZK hlen)) λst' er=>?_;have hm:mg (aB "law")=ae (.ref a):=hmg;refine wm (Pj hn k1 k2 k3 kp TG hm hI hL hw er) λv s' h₀=>X5 h₀ λg1 g2 g3 g4=>?_.elim;have:=g4 aj ac;subst this;refine GoodW.toG ⟨.inl ⟨.bool aj,.bool aj,[],ac,λ_=>ac,.bool aj,postW_of (X:=aj) ac (by first|rfl|kernel_rfl|(simp[WTm.value])) ac,λ_=>⟨fh,λ_ h=>by cases h⟩⟩,g1,g2,?_⟩;refine az g3 ?_;refine az hg ?_;rfl
end
section
open PySem
noncomputable def gP{α:Type}(x y:P α):Prop:=∀s r,x s=ae r->y s=ae r
section
variable{α β:Type}
theorem gP.rf{x:P α}:gP x x:=λ_ _ h=>h
theorem gP.cI{x y:P α}{f g:α->P β}(h:gP x y)(k:∀a,gP (f a) (g a)):gP (cI x f) (cI y g):=λs r e=>by
 unfold Internal.cI at e⊢;cases hx:x s with
 |none=>replace e:=hx▸e;exact eP e
 |some p=>replace e:=hx▸e;refine az (h s _ hx) ?_;exact k p.1 p.2 r e
theorem gP.opt{o:aS α}{f g:α->P β}(k:∀a,gP (f a) (g a)):gP (bP o f) (bP o g):=by
 induction o
 ·exact .rf
 ·exact k _
theorem gP.ite{c:Prop} [sF c] {x y x' y':P α} (h:gP x x') (k:gP y y'):gP (if c then x else y) (if c then x' else y'):=by
 split
 ·exact h
 ·exact k
theorem gP.p6{e f:PE->P V}(h:∀p,gP (e p) (f p)):∀l,gP (p6 e l) (p6 f l)
 |[]=>.rf
 |p::l=>(h p).cI λ_=>(gP.p6 h l).cI λ_=>.rf
theorem gP.tests{e f:PE->P V}(h:∀p,gP (e p) (f p)):∀l,gP (tests e l) (tests f l)
 |[]=>.rf
 |p::l=>(h p).cI λ_=>gP.rf.cI λ_=>.ite (gP.tests h l) .rf
theorem gP.r8{a b c d:PE}{e f:PE->P V}(h:∀p,gP (e p) (f p)):gP (sL e a b c d) (sL f a b c d):=by unfold sL;exact gP.rf.cI λ_=>(h a).cI λ_=>(h b).cI λ_=>(h c).cI λ_=>(h d).cI λ_=>.rf
theorem gP.items{e f:PE->P V}(h:∀p,gP (e p) (f p)):∀s,gP (itemsOf e s) (itemsOf f s)
 |.seq p=>(h p).cI λ_=>.rf
 |.range p=>(h p).cI λ_=>.rf
 |.nW p=>(h p).cI λ_=>.rf
 |.zip p q=>(h p).cI λ_=>(h q).cI λ_=>.rf
theorem gP.iK{it:eA}{f g:V->P cH}(h:∀v,gP (f v) (g v)):∀l,gP (iK it f l) (iK it g l)
 |[]=>.rf
 |v::l=>gP.rf.cI λ_=>(h v).cI λ_=>gP.iK h l
theorem gP.c9{it:eA}{f g:V->Env->P (Flow×Env)}(h:∀v m,gP (f v m) (g v m)):∀l m,gP (c9 it f l m) (c9 it g l m)
 |[],_=>.rf
 |v::l,m=>gP.rf.cI λ_=>(h v m).cI λr=>by
  obtain⟨f,m'⟩:=r
  induction f
  ·exact gP.c9 h l m'
  ·exact .rf
theorem gP.mq{e f:PE->Env->P V}(h:∀p m,gP (e p m) (f p m))(x:PE)(a:ag):∀gs m,gP (mq e x a gs m) (mq f x a gs m)
 |[],m=>(h x m).cI λ_=>.rf
 |.mk fe src ifs::gs,m=>(gP.items (λp=>h p m) src).cI λit=>.iK (λv=>.opt λm'=>(gP.tests (λp=>h p m') ifs).cI λ_=>.ite (gP.mq h x a gs m') .rf) it.vs
end
structure TU(i j:I):Prop where
 ev:∀e m,gP (i.ev e m) (j.ev e m)
 ex:∀b m,gP (i.ex b m) (j.ex b m)
 wl:∀t b m,gP (i.wl t b m) (j.wl t b m)
 cl:∀c f vs,gP (i.cl c f vs) (j.cl c f vs)
section
variable{i j:I}(h:TU i j)
include h
theorem TU.gf:∀e m,gP (gf i e m) (gf j e m)
 |.none,_=>.rf
 |.bool _,_=>.rf
 |.int _,_=>.rf
 |.str _,_=>.rf
 |.var _,_=>.rf
 |.tup es,m=>(gP.p6 (λp=>h.ev p m) es).cI λ_=>.rf
 |.list es,m=>(gP.p6 (λp=>h.ev p m) es).cI λ_=>.rf
 |.kT,_=>.rf
 |.r8 a b c d,m=>gP.r8 λp=>h.ev p m
 |.bin _ a b,m=>(h.ev a m).cI λ_=>(h.ev b m).cI λ_=>.rf
 |.neg a,m=>(h.ev a m).cI λ_=>.rf
 |.cmp _ a b,m=>(h.ev a m).cI λ_=>(h.ev b m).cI λ_=>.rf
 |.xX a _ b _ c,m=>(h.ev a m).cI λ_=>(h.ev b m).cI λ_=>gP.rf.cI λ_=>gP.rf.cI λ_=>.ite ((h.ev c m).cI λ_=>.rf) .rf
 |.and a b,m=>(h.ev a m).cI λ_=>gP.rf.cI λ_=>.ite (h.ev b m) .rf
 |.or a b,m=>(h.ev a m).cI λ_=>gP.rf.cI λ_=>.ite .rf (h.ev b m)
 |.not a,m=>(h.ev a m).cI λ_=>.rf
 |.ite t a b,m=>(h.ev t m).cI λ_=>gP.rf.cI λ_=>.ite (h.ev a m) (h.ev b m)
 |.idx a b,m=>(h.ev a m).cI λ_=>(h.ev b m).cI λ_=>.rf
 |.gB a,m=>(h.ev a m).cI λ_=>.rf
 |.gV a b,m=>(h.ev a m).cI λ_=>(h.ev b m).cI λ_=>.rf
 |.attr a _,m=>(h.ev a m).cI λ_=>.rf
 |.call f as,m=>(gP.p6 (λp=>h.ev p m) as).cI λvs=>h.cl "" f vs
 |.new c as,m=>(gP.p6 (λp=>h.ev p m) as).cI λvs=>gP.rf.cI λd=>by
  cases d<;>first|exact .rf|exact gP.rf.cI λo=>(h.cl c _ _).cI λ_=>.rf
 |.cu e f as,m=>(h.ev e m).cI λo=>by
  cases o<;>first|exact(gP.p6 (λp=>h.ev p m) as).cI λ_=>.rf|skip
  refine gP.rf.cI λob=>?_
  induction ob<;>first|exact(gP.p6 (λp=>h.ev p m) as).cI λ_=>.rf|skip
  refine gP.rf.cI λob=>?_
  induction ob<;>first|exact .rf|exact .ite ((gP.p6 (λp=>h.ev p m) as).cI λvs=>h.cl _ f _) .rf
 |.bi _ a,m=>(h.ev a m).cI λ_=>.rf
 |.comp x gs,m=>by
  induction gs with
  |nil=>exact .rf
  |cons g gs=>
   obtain⟨fe,src,ifs⟩:=g
   refine(gP.items (λp=>h.ev p m) src).cI λit=>gP.rf.cI λacc=>?_
   cases acc<;>first|exact .rf|skip
   exact(gP.iK (λv=>.opt λm'=>(gP.tests (λp=>h.ev p m') ifs).cI λ_=>.ite (gP.mq h.ev x _ gs m') .rf) it.vs).cI λ_=>.rf
theorem TU.tC:∀s m,gP (tC i s m) (tC j s m)
 |.assign t e,m=>(h.ev e m).cI λv=>by
  induction t with
  |name x=>exact .rf
  |names xs=>exact .rf
  |attr o x=>exact gP.cI ((h.ev o m).cI λ_=>.rf) λ_=>.rf
  |idx o k=>exact gP.cI ((h.ev o m).cI λ_=>(h.ev k m).cI λ_=>.rf) λ_=>.rf
 |.expr e,m=>(h.ev e m).cI λ_=>.rf
 |.ret e,m=>(h.ev e m).cI λ_=>.rf
 |.iff t a b,m=>(h.ev t m).cI λ_=>gP.rf.cI λ_=>.ite (h.ex a m) (h.ex b m)
 |.loop fe src b,m=>(gP.items (λp=>h.ev p m) src).cI λit=>.c9 (λv m=>.opt λm'=>h.ex b m') it.vs m
 |.while t b,m=>h.wl t b m
 |.fail,_=>.rf
theorem TU.dY:∀ss m,gP (dY i ss m) (dY j ss m)
 |[],_=>.rf
 |s::ss,m=>(h.tC s m).cI λr=>by
  obtain⟨f,m'⟩:=r
  cases f
  ·exact TU.dY ss m'
  ·exact .rf
theorem TU.step(G:sJ):TU (step G i) (step G j):=⟨h.gf,h.dY,λt b m=>(h.ev t m).cI λ_=>gP.rf.cI λ_=>.ite ((h.ex b m).cI λr=>by
  obtain⟨f,m'⟩:=r
  induction f
  ·exact h.wl t b m'
  ·exact .rf) .rf,λc f vs=>.opt λpf=>.ite ((h.ex _ _).cI λ_=>.rf) .rf⟩
end
theorem DF(G:sJ):∀n,TU (run G n) (run G (n+1)):=by
 intro l0;induction l0 with
 |zero=>exact⟨λ_ _ _ _ h=>(by cases h),λ_ _ _ _ h=>(by cases h),λ_ _ _ _ _ h=>(by cases h),λ_ _ _ _ _ h=>(by cases h)⟩
 |succ n ih=>exact(ih).step G
theorem DG{G:sJ}{n k:ag}(h:n<=k):TU (run G n) (run G k):=by
 induction h with
 |refl=>exact⟨λ_ _=>.rf,λ_ _=>.rf,λ_ _ _=>.rf,λ_ _ _=>.rf⟩
 |step _ ih=>exact⟨λe m s r q=>(DF G _).ev e m s r (ih.ev e m s r q),λe m s r q=>(DF G _).ex e m s r (ih.ex e m s r q),λt e m s r q=>(DF G _).wl t e m s r (ih.wl t e m s r q),λc f vs s r q=>(DF G _).cl c f vs s r (ih.cl c f vs s r q)⟩
noncomputable def Wp{α:Type}(x:P α)(Q:α->af O->Prop)(st:af O):Prop:=∃a st',x st=ae (a,st')/\Q a st'
section
variable{α β:Type}{st:af O}
theorem bx{a:α}{Q:α->af O->Prop}(h:Q a st):Wp (ret a) Q st:=⟨a,st,ac,h⟩
theorem wp_mono{x:P α}{Q R:α->af O->Prop}(h:Wp x Q st)(k:∀a s,Q a s->R a s):Wp x R st:=lC (h) λa s e q=>⟨a,s,e,k a s q⟩
theorem aZ{x:P α}{f:α->P β}{Q:β->af O->Prop}(h:Wp x (λa s=>Wp (f a) Q s) st):Wp (cI x f) Q st:=by obtain⟨a,s,e,b,s',e',q⟩:=h;exact⟨b,s',by unfold cI;refine az e ?_;exact e',q⟩
theorem ny{x:P α}{a:α}{s:af O}{Q:α->af O->Prop}(e:x st=ae (a,s))(h:Q a s):Wp x Q st:=⟨a,s,e,h⟩
theorem wp_load{a:ag}{o:O}{Q:O->af O->Prop}(e:st[a]?=ae o)(h:Q o st):Wp (load a) Q st:=⟨o,st,by unfold load;(refine az e ?_;rfl),h⟩
theorem wp_alloc{o:O}{Q:V->af O->Prop}(h:Q (.ref st.length) (st++[o])):Wp (alloc o) Q st:=⟨_,_,ac,h⟩
theorem fD{vs:af V}{Q:V->af O->Prop}(hz:vs.length<=16777216)(h:Q (.ref st.length) (st++[.list vs])):Wp (newList vs) Q st:=by unfold newList;refine az (aF hz) ?_;exact wp_alloc h
theorem jZ{a:ag}{o:O}{Q:cH->af O->Prop}(hl:a<st.length)(h0:a≠0)(h:Q () (st.set a o)):Wp (store a o) Q st:=⟨(),_,by unfold store;(exact(aF ⟨hl,h0⟩)),h⟩
theorem bK{o:aS α}{a:α}{f:α->P β}{Q:β->af O->Prop}(e:o=ae a)(h:Wp (f a) Q st):Wp (bP o f) Q st:=by subst e;exact h
end
theorem Pk{α:Type}{x y:P α}{Q:α->af O->Prop}{s:af O}(h:gP x y)(w:Wp x Q s):Wp y Q s:=lC (w) λa s' e q=>⟨a,s',h s _ e,q⟩
section
variable{k n:ag}{s:af O}(h:k<=n)
include h
theorem gc{c f:aA}{vs:af V}{Q:V->af O->Prop}(w:Wp ((run prog k).cl c f vs) Q s):Wp ((run prog n).cl c f vs) Q s:=Pk ((DG h).cl c f vs) w
theorem qc{e:PE}{m:Env}{Q:V->af O->Prop}(w:Wp ((run prog k).ev e m) Q s):Wp ((run prog n).ev e m) Q s:=Pk ((DG h).ev e m) w
theorem Pl{b:af PS}{m:Env}{Q:Flow×Env->af O->Prop}(w:Wp ((run prog k).ex b m) Q s):Wp ((run prog n).ex b m) Q s:=Pk ((DG h).ex b m) w
end
noncomputable abbrev Po:=V->af O->Prop
section
variable(i:I)(m:Env)(Q:Po)
noncomputable abbrev TV(b:PE)(op:V->V->P V):Po:=λv s=>Wp (i.ev b m) (λw s=>Wp (op v w) Q s) s
noncomputable abbrev kOp(op:V->P V):Po:=λv s=>Wp (op v) Q s
inductive Bi(A B:Prop)(v:V):Prop
 |mk(r:aY)(e:v=.bool r)(q:if r then A else B)
noncomputable abbrev aas(b:PE):Po:=λv s=>Bi (Wp (i.ev b m) Q s) (Q (.bool aQ) s) v
noncomputable abbrev kOr(b:PE):Po:=λv s=>Bi (Q (.bool aj) s) (Wp (i.ev b m) Q s) v
noncomputable abbrev aat(a b:PE):Po:=λv s=>Bi (Wp (i.ev a m) Q s) (Wp (i.ev b m) Q s) v
inductive Bn(Q:Po)(s:af O)(v:V):Prop
 |mk(r:aY)(e:v=.bool r)(q:Q (.bool (!r)) s)
inductive Ng(Q:Po)(s:af O)(v:V):Prop
 |mk(k:aJ)(e:v=.int k)(f:fits k=aj)(q:Q (.int (-k)) s)
noncomputable abbrev aau:af V->af O->Prop:=λvs s=>Q (.tup vs) s
inductive Nl(Q:Po)(vs:af V)(s:af O):Prop
 |mk(h:vs.length<=16777216)(q:Q (.ref s.length) (s++[.list vs]))
noncomputable abbrev ZL(f:aA):af V->af O->Prop:=λvs s=>Wp (i.cl "" f vs) Q s
inductive Iv(Q:Po)(a:ag)(r:V)(s:af O):Prop
 |mk(e:r=.none)(q:Q (.ref a) s)
noncomputable abbrev aav(c:aA):af V->af O->Prop:=λvs s=>Wp (i.cl c "__init__" (.ref (s.length+1)::vs)) (Iv Q (s.length+1)) (s++[.ns []]++[.inst c s.length])
noncomputable abbrev kMe(c f:aA)(v:V):af V->af O->Prop:=λvs s=>Wp (i.cl c f (v::vs)) Q s
inductive Me(f:aA)(args:af PE)(s:af O)(v:V):Prop
 |mk (a:ag) (c:aA) (d:ag) (es:af (aA×V)) (e:v=.ref a) (h1:s[a]?=ae (.inst c d)) (h2:s[d]?=ae (.ns es)) (h3:rX f es=aC) (q:Wp (p6 (λe=>i.ev e m) args) (kMe i Q c f v) s)
inductive Mr(Q:Po)(a:ag)(o:O)(v:V)(f:aA)(vs:af V)(s:af O):Prop
 |mk(h:∃o',s[a]?=ae o'/\O.kind o=O.kind o')(q:Wp (iJ v f vs) Q s)
inductive Mo(f:aA)(args:af PE)(s:af O)(v:V):Prop
 |mk (a:ag) (o:O) (e:v=.ref a) (h1:s[a]?=ae o) (h2:O.kind o=0\/O.kind o=1) (q:Wp (p6 (λe=>i.ev e m) args) (Mr Q a o v f) s)
inductive Ms(f:aA)(args:af PE)(s:af O)(v:V):Prop
 |mk (x:aM) (e:v=.str x) (q:Wp (p6 (λe=>i.ev e m) args) (λvs s'=>Wp (iJ v f vs) Q s') s)
noncomputable abbrev kEs(ev:PE->P V)(es:af PE)(R:af V->af O->Prop):Po:=λv s=>Wp (p6 ev es) (λvs s=>R (v::vs) s) s
end
section
variable{G:sJ}{n:ag}{m:Env}{st:af O}{Q:Po}
theorem HN(h:Q .none st):Wp ((run G (n+1)).ev .none m) Q st:=bx h
theorem th{b:aY}(h:Q (.bool b) st):Wp ((run G (n+1)).ev (.bool b) m) Q st:=bx h
theorem cS{k:aJ}(h:Q (.int k) st):Wp ((run G (n+1)).ev (.int k) m) Q st:=bx h
theorem gQ{x:aA}(h:Q (.str (aB x)) st):Wp ((run G (n+1)).ev (.str x) m) Q st:=bx h
theorem aN{x:aA}{v:V}(e:m x=ae v)(h:Q v st):Wp ((run G (n+1)).ev (.var x) m) Q st:=bK (f:=λv=>ret v) e (bx h)
theorem aT{ev:PE->P V}{R:af V->af O->Prop}(h:R [] st):Wp (p6 ev []) R st:=bx h
theorem aH{ev:PE->P V}{e:PE}{es:af PE}{R:af V->af O->Prop}(h:Wp (ev e) (kEs ev es R) st):Wp (p6 ev (e::es)) R st:=
 aZ (wp_mono h λ_ _ h=>aZ (wp_mono h λ_ _ h=>bx h))
theorem eN{es:af PE}(h:Wp (p6 (λe=>(run G n).ev e m) es) (aau Q) st):Wp ((run G (n+1)).ev (.tup es) m) Q st:=aZ (wp_mono h λ_ _ h=>bx h)
theorem et{es:af PE}(h:Wp (p6 (λe=>(run G n).ev e m) es) (Nl Q) st):Wp ((run G (n+1)).ev (.list es) m) Q st:=aZ (wp_mono h λ_ _ ⟨h,q⟩=>fD h q)
theorem nA(h:Q (.ref st.length) (st++[.dict []])):Wp ((run G (n+1)).ev .kT m) Q st:=wp_alloc h
theorem gh{op:Op}{a b:PE}(h:Wp ((run G n).ev a m) (TV (run G n) m Q b (r9 op)) st):Wp ((run G (n+1)).ev (.bin op a b) m) Q st:=aZ (wp_mono h λ_ _ h=>aZ h)
theorem Pn{a:PE}(h:Wp ((run G n).ev a m) (λv s=>Ng Q s v) st):Wp ((run G (n+1)).ev (.neg a) m) Q st:=aZ (wp_mono h λ_ s ⟨k,e,f,q⟩=>by
 subst e
 refine((az (aF f) ?_):Wp (if fits k then ret (.int (-k)) else fail) Q s);exact bx q)
theorem dT{op:GD}{a b:PE}(h:Wp ((run G n).ev a m) (TV (run G n) m Q b (mo op)) st):Wp ((run G (n+1)).ev (.cmp op a b) m) Q st:=aZ (wp_mono h λ_ _ h=>aZ h)
theorem Vr{a:PE}(h:Wp ((run G n).ev a m) (λv s=>Bn Q s v) st):Wp ((run G (n+1)).ev (.not a) m) Q st:=aZ (wp_mono h λ_ _ ⟨b,e,q⟩=>by subst e;exact aZ (bx (bx q)))
theorem uM{α:Type}{A B:Prop}{v:V}{x y:P α}{R:α->af O->Prop}{s:af O}(h:Bi A B v)(a:A->Wp x R s)(b:B->Wp y R s):Wp (cI (ml v) λr=>if r then x else y) R s:=by
 obtain⟨r,e,q⟩:=h;subst e;refine aZ (bx ?_);induction r
 ·exact b q
 ·exact a q
theorem AJ{a b:PE}(h:Wp ((run G n).ev a m) (aas (run G n) m Q b) st):Wp ((run G (n+1)).ev (.and a b) m) Q st:=aZ (wp_mono h λ_ _ h=>uM h id bx)
theorem TX{a b:PE}(h:Wp ((run G n).ev a m) (kOr (run G n) m Q b) st):Wp ((run G (n+1)).ev (.or a b) m) Q st:=aZ (wp_mono h λ_ _ h=>uM h bx id)
theorem vZ{t a b:PE}(h:Wp ((run G n).ev t m) (aat (run G n) m Q a b) st):Wp ((run G (n+1)).ev (.ite t a b) m) Q st:=aZ (wp_mono h λ_ _ h=>uM h id id)
theorem ef{a b:PE}(h:Wp ((run G n).ev a m) (TV (run G n) m Q b vH) st):Wp ((run G (n+1)).ev (.idx a b) m) Q st:=aZ (wp_mono h λ_ _ h=>aZ h)
theorem lW{a:PE}(h:Wp ((run G n).ev a m) (kOp Q wD) st):Wp ((run G (n+1)).ev (.gB a) m) Q st:=aZ h
theorem vy{a b:PE}(h:Wp ((run G n).ev a m) (TV (run G n) m Q b x6) st):Wp ((run G (n+1)).ev (.gV a b) m) Q st:=aZ (wp_mono h λ_ _ h=>aZ h)
theorem Xo{a:PE}{x:aA}(h:Wp ((run G n).ev a m) (kOp Q λv=>getAttr v x) st):Wp ((run G (n+1)).ev (.attr a x) m) Q st:=aZ h
theorem fm{a:PE}{x:aA}(h:Wp ((run G n).ev a m) (kOp Q (iV x)) st):Wp ((run G (n+1)).ev (.bi x a) m) Q st:=aZ h
theorem fT{f:aA}{args:af PE}(h:Wp (p6 (λe=>(run G n).ev e m) args) (ZL (run G n) Q f) st):Wp ((run G (n+1)).ev (.call f args) m) Q st:=aZ h
theorem FK{c:aA}{args:af PE}(h:Wp (p6 (λe=>(run G n).ev e m) args) (aav (run G n) Q c) st):Wp ((run G (n+1)).ev (.new c args) m) Q st:=
 aZ (wp_mono h λvs s h=>aZ (wp_alloc (aZ (wp_alloc (aZ (by
  refine az (ct)<|wp_mono h λr s' ⟨e,q⟩=>?_
  exact e▸bx q))))))
theorem iu{e:PE}{f:aA}{args:af PE}(h:Wp ((run G n).ev e m) (λv s=>Me (run G n) m Q f args s v) st):Wp ((run G (n+1)).ev (.cu e f args) m) Q st:=
 aZ (wp_mono h λv s ⟨a,c,d,es,e,h1,h2,h3,h4⟩=>by
  subst e
  refine aZ (wp_load h1 (aZ (wp_load h2 (?_:Wp (if(rX f es).isNone then _ else _) Q s))))
  exact az h3 (aZ h4))
theorem eG{e:PE}{f:aA}{args:af PE}(h:Wp ((run G n).ev e m) (λv s=>Mo (run G n) m Q f args s v) st):Wp ((run G (n+1)).ev (.cu e f args) m) Q st:=
 aZ (wp_mono h λv s ⟨a,o,e,h1,h2,h3⟩=>by
  subst e
  refine aZ (wp_load h1 ?_)
  induction o with
  |inst c d=>rcases h2 with h2|h2<;>exact nomatch h2
  |_=>
   refine aZ (wp_mono h3 λvs s' ⟨⟨o',k1,k2⟩,k3⟩=>aZ (wp_load k1<|dm k2 ?_))
   exact az (aF (gE _)) (k3))
theorem TY{e:PE}{f:aA}{args:af PE}(h:Wp ((run G n).ev e m) (λv s=>Ms (run G n) m Q f args s v) st):Wp ((run G (n+1)).ev (.cu e f args) m) Q st:=
 aZ (wp_mono h λv s ⟨x,e,h1⟩=>by subst e;exact aZ h1)
variable{R:Flow×Env->af O->Prop}{ss:af PS}
noncomputable abbrev After(i:I)(ss:af PS)(R:Flow×Env->af O->Prop):Flow×Env->af O->Prop:=λr s=>match r with
 |(.next,m)=>Wp (dY i ss m) R s
 |(.ret v,m)=>R (.ret v,m) s
noncomputable abbrev kNm(i:I)(ss:af PS)(m:Env)(x:aA)(R:Flow×Env->af O->Prop):Po:=λv s=>Wp (dY i ss (m.upd x v)) R s
inductive Un(i:I)(ss:af PS)(m:Env)(xs:af aA)(R:Flow×Env->af O->Prop)(vs:af V)(s:af O):Prop
 |mk(e:xs.length=vs.length)(q:Wp (dY i ss (m.bind xs vs)) R s)
noncomputable abbrev kUn(i:I)(ss:af PS)(m:Env)(xs:af aA)(R:Flow×Env->af O->Prop):Po:=λv s=>Wp (mr v) (Un i ss m xs R) s
noncomputable abbrev kX(i:I)(ss:af PS)(m:Env)(R:Flow×Env->af O->Prop):cH->af O->Prop:=λ_ s=>Wp (dY i ss m) R s
noncomputable abbrev kAt(i:I)(ss:af PS)(m:Env)(o:PE)(x:aA)(R:Flow×Env->af O->Prop):Po:=λv s=>Wp (i.ev o m) (λw s=>Wp (setAttr w x v) (kX i ss m R) s) s
noncomputable abbrev kIx(i:I)(ss:af PS)(m:Env)(o k:PE)(R:Flow×Env->af O->Prop):Po:=λv s=>Wp (i.ev o m) (λw s=>Wp (i.ev k m) (λj s=>Wp (yb w j v) (kX i ss m R) s) s) s
inductive Xe(i:I)(ss:af PS)(m:Env)(R:Flow×Env->af O->Prop)(v:V)(s:af O):Prop
 |mk (e:match v with|.ref _=>io|.tup _=>io|_=>iZ) (q:Wp (dY i ss m) R s)
noncomputable abbrev kIf(i:I)(ss a b:af PS)(m:Env)(R:Flow×Env->af O->Prop):Po:=λv s=>Bi (Wp (i.ex a m) (After i ss R) s) (Wp (i.ex b m) (After i ss R) s) v
theorem c6{i:I}(h:R (.next,m) st):Wp (dY i [] m) R st:=bx h
theorem pN{i:I}{s:PS}(h:Wp (tC i s m) (After i ss R) st):Wp (dY i (s::ss) m) R st:=aZ (wp_mono h λr s q=>by
 obtain⟨f,m'⟩:=r
 induction f with
 |next=>exact q
 |ret v=>exact bx q)
theorem bV{n:ag}(h:Wp (dY (run G n) ss m) R st):Wp ((run G (n+1)).ex ss m) R st:=h
theorem c8{i:I}{x:aA}{e:PE}(h:Wp (i.ev e m) (kNm i ss m x R) st):Wp (dY i (.assign (.name x) e::ss) m) R st:=pN (aZ (wp_mono h λ_ _ h=>aZ (bx (bx h))))
theorem uN{i:I}{xs:af aA}{e:PE}(h:Wp (i.ev e m) (kUn i ss m xs R) st):Wp (dY i (.assign (.names xs) e::ss) m) R st:=pN (aZ (wp_mono h λv s h=>aZ (aZ (wp_mono h λvs s ⟨h1,h2⟩=>by rw[aF h1];exact bx (bx h2)))))
theorem iP{i:I}{o e:PE}{x:aA}(h:Wp (i.ev e m) (kAt i ss m o x R) st):Wp (dY i (.assign (.attr o x) e::ss) m) R st:=pN (aZ (wp_mono h λ_ _ h=>aZ (aZ (wp_mono h λ_ _ h=>aZ (wp_mono h λ_ _ h=>bx (bx h))))))
theorem v3{i:I}{o k e:PE}(h:Wp (i.ev e m) (kIx i ss m o k R) st):Wp (dY i (.assign (.idx o k) e::ss) m) R st:=pN (aZ (wp_mono h λ_ _ h=>aZ (aZ (wp_mono h λ_ _ h=>aZ (wp_mono h λ_ _ h=>aZ (wp_mono h λ_ _ h=>bx (bx h)))))))
theorem fE{i:I}{e:PE}(h:Wp (i.ev e m) (Xe i ss m R) st):Wp (dY i (.expr e::ss) m) R st:=pN (aZ (wp_mono h λv s ⟨h1,h2⟩=>by
 cases v<;>first|exact h1.elim|exact bx h2))
theorem dZ{i:I}{e:PE}(h:Wp (i.ev e m) (λv s=>R (.ret v,m) s) st):Wp (dY i (.ret e::ss) m) R st:=pN (aZ (wp_mono h λ_ _ h=>bx h))
theorem ic{i:I}{t:PE}{a b:af PS}(h:Wp (i.ev t m) (kIf i ss a b m R) st):Wp (dY i (.iff t a b::ss) m) R st:=pN (aZ (wp_mono h λ_ _ h=>uM h id id))
theorem jh{i:I}{fe:af aA}{src:Src}{body:af PS}(h:Wp (itemsOf (λe=>i.ev e m) src) (λit s=>Wp (c9 it (λv m=>bP (bindTo m fe v) λm'=>i.ex body m') it.vs m) (After i ss R) s) st):Wp (dY i (.loop fe src body::ss) m) R st:=pN (aZ h)
theorem DH{i:I}{t:PE}{body:af PS}(h:Wp (i.wl t body m) (After i ss R) st):Wp (dY i (.while t body::ss) m) R st:=pN h
theorem vz{n:ag}{t:PE}{body:af PS}(h:Wp ((run G n).ev t m) (λv s=>Bi (Wp ((run G n).ex body m) (λr s=>match r with
  |(.next,m')=>Wp ((run G n).wl t body m') R s
  |(.ret v,m')=>R (.ret v,m') s) s) (R (.next,m) s) v) st):Wp ((run G (n+1)).wl t body m) R st:=aZ (wp_mono h λ_ _ h=>uM h (λq=>aZ (wp_mono q λr s q=>by
  rcases r with⟨f,m'⟩
  induction f with
  |next=>exact q
  |ret v=>exact bx q)) bx)
noncomputable def yZ:Flow->V
 |.next=>.none
 |.ret v=>v
theorem cN{c f:aA}{vs:af V}{pf:PF}(e:G c f=ae pf)(hl:pf.params.length=vs.length)(h:Wp (dY (run G n) pf.body (Env.empty.bind pf.params vs)) (λr s=>Q (yZ r.1) s) st):Wp ((run G (n+2)).cl c f vs) Q st:=by
 refine bK (f:=λpf=>if pf.params.length=vs.length then cI ((run G (n+1)).ex pf.body (Env.empty.bind pf.params vs)) λr=>match r with
  |(.ret v,_)=>ret v
  |(.next,_)=>ret .none
  else fail) e ?_
 refine az (aF hl)<|aZ (wp_mono (bV h) λr s q=>?_);rcases r with⟨f,m'⟩;induction f with
 |next=>exact bx q
 |ret v=>exact bx q
noncomputable def kh(it:eA)(s:af O):Prop:=match it.QC with
 |.none=>iZ
 |.list a ws=>s[a]?=ae (.list ws)
 |.iU a=>s[a]?=ae .iU
theorem nS{it:eA}{Q:cH->af O->Prop}(h:kh it st)(q:Q () st):Wp (UU it) Q st:=by
 unfold UU;unfold kh at h;cases e:it.QC with
 |none=>exact bx q
 |list a ws=>rw[e] at h;refine aZ (wp_load h (?_:Wp (if V.oR ws ws then ret () else fail) Q st));rewrite[V.qT];exact az (aF ac) (bx q)
 |iU a=>replace h:=e▸h;exact aZ (wp_load h (bx q))
theorem HO{it:eA}{body:V->Env->P (Flow×Env)}(I:af V->Env->af O->Prop)
  (y0:∀vs m s,I vs m s->kh it s)
  (step:∀v vs m s,I (v::vs) m s->Wp (body v m) (λr s'=>match r with|(.next,m')=>I vs m' s'|(.ret v,m')=>R (.ret v,m') s') s)
  (fin:∀m s,I [] m s->R (.next,m) s):∀(vs:af V)(m:Env)(st:af O),I vs m st->Wp (c9 it body vs m) R st:=by
 intro l0
 induction l0 with
 |nil=>
  exactλm st h=>aZ (nS (y0 _ _ _ h) (bx (fin m st h)))
 |cons v vs ih=>
  exactλm st h=>aZ (nS (y0 _ _ _ h) (aZ (wp_mono (step v vs m st h) λr s' q=>by
  rcases r with⟨f,m'⟩
  induction f with
  |next=>exact ih m' s' q
  |ret v=>exact bx q)))
end
noncomputable abbrev bM(s s':af O):Prop:=∀(b:ag)(o:O),s[b]?=ae o->s'[b]?=ae o
theorem bM.refl(s:af O):bM s s:=λ_ _ h=>h
theorem bM.trans{s s1 s2:af O}(a:bM s s1)(b:bM s1 s2):bM s s2:=λx o h=>b x o (a x o h)
theorem bM.push(s:af O)(o:O):bM s (s++[o]):=λb o' h=>by refine(pg (bq.mp h).1).trans ?_;exact h
theorem bF(s:af O)(o:O):(s++[o])[s.length]?=ae o:=by exact nK
theorem bM.len{s s':af O}(h:bM s s'):s.length<=s'.length:=by
 rcases gZ s'.length s.length with q|q
 ·have j1:=h s'.length _ (dq q);exact aV (bq.mp j1).1 (bS _)
 ·exact q
theorem bM.set{s s':af O}(h:bM s s'){a:ag}(ha:s.length<=a)(o:O):bM s (s'.set a o):=λb o' e=>by rw[cj (bZ (lR ((bq.mp e).1) ha))];exact h b o' e
theorem hO{s:af O}{a:ag}(h:a<s.length)(o:O):(s.set a o)[a]?=ae o:=by simp[h]
inductive fb{α β:Type}(R:α->β->Prop):af α->af β->Prop
 |nil:fb R [] []
 |cons{a:α}{b:β}{as:af α}{bs:af β}:R a b->fb R as bs->fb R (a::as) (b::bs)
section
variable{α β:Type}{R S:α->β->Prop}
theorem fb.mono{as:af α}{bs:af β}(h:fb R as bs)(k:∀a b,R a b->S a b):fb S as bs:=by
 induction h with
 |nil=>exact .nil
 |cons x _ ih=>exact .cons (k _ _ x) ih
theorem fb.Yc{as cs:af α}{bs ds:af β}(h:fb R as bs)(k:fb R cs ds):fb R (as++cs) (bs++ds):=by
 induction h with
 |nil=>exact k
 |cons x _ ih=>exact .cons x ih
theorem fb.len{as:af α}{bs:af β}(h:fb R as bs):as.length=bs.length:=by
 induction h with
 |nil=>rfl
 |cons _ _ ih=>simp[ih]
theorem fb.inv{as:af α}{b:β}{bs:af β}(h:fb R as (b::bs)):∃a as',as=a::as'/\R a b/\fb R as' bs:=by
 cases h with
 |cons x y=>exact⟨_,_,ac,x,y⟩
theorem fb.eq{as bs:af α}(h:fb (λa b=>a=b) as bs):as=bs:=by
 induction h with
 |nil=>rfl
 |cons x _ ih=>(refine az x ?_;refine az ih ?_;rfl)
theorem fb.mem{as:af α}{bs:af β}(h:fb R as bs){a:α}(m:a∈as):∃b∈bs,R a b:=by
 induction h with
 |nil=>cases m
 |cons x _ ih=>
  rcases ci.mp m with rfl|m
  ·exact⟨_,.head _,x⟩
  ·exact bH (ih m) λb h1 h2=>⟨b,.tail _ h1,h2⟩
end
noncomputable def Fa(a:ag)(s s':af O):Prop:=∀(b:ag)(o:O),s[b]?=ae o->s'[b]?=ae o\/(b=a/\(∃l,o=.list l)/\∃l',s'[b]?=ae (.list l'))
theorem Fa.refl(a:ag)(s:af O):Fa a s s:=λ_ _ h=>.inl h
theorem bM.fa{s s':af O}(h:bM s s')(a:ag):Fa a s s':=λb o e=>.inl (h b o e)
theorem Fa.trans{a:ag}{s s1 s2:af O}(x:Fa a s s1)(y:Fa a s1 s2):Fa a s s2:=λb o e=>by
 rcases x b o e with h|⟨h1,h2,l,h3⟩
 ·exact y b o h
 ·rcases y b _ h3 with h|⟨_,_,h⟩
  ·exact .inr ⟨h1,h2,l,h⟩
  ·exact .inr ⟨h1,h2,h⟩
theorem Fa.ne{a b:ag}{o:O}{s s':af O}(x:Fa a s s')(e:s[b]?=ae o)(h:b≠a):s'[b]?=ae o:=(x b o e).elim id λq=>aV q.1 h
theorem Fa.dict{a b:ag}{es:af (V×V)}{s s':af O}(x:Fa a s s')(e:s[b]?=ae (.dict es)):s'[b]?=ae (.dict es):=(x b _ e).elim id λq=>by refine qg q λ_ z1 _=>?_;refine eh z1 λl h=>?_;cases h
theorem Fa.set{a:ag}{s:af O}{l l':af V}(h:s[a]?=ae (.list l)):Fa a s (s.set a (.list l')):=λb o e=>by
 by_cases q:b=a
 ·subst q;rw[h] at e;(replace e:=aU e;subst e);exact .inr ⟨ac,⟨l,ac⟩,l',hO (bq.mp h).1 _⟩
 ·exact .inl (by refine az (cj (dK q)) ?_;exact e)
section
variable{α:Type}
noncomputable def FL(D:af O->V->α->Prop)(a:ag)(x:P cH)(xs:af α)(s:af O):Prop:=
 ∀acc,s[a]?=ae (.list acc)->acc.length+xs.length<=16777216->Wp x (λ_ s'=>∃rs,s'[a]?=ae (.list (acc++rs))/\Fa a s s'/\fb (D s') rs xs) s
noncomputable def Xp(D:af O->V->α->Prop):Prop:=∀a s s' v x,Fa a s s'->D s v x->D s' v x
noncomputable def Ma(a:ag)(it:eA):Prop:=match it.QC with
 |.list b _=>b≠a
 |_=>iZ
theorem FN{a:ag}{it:eA}{s s':af O}(f:Ma a it)(x:Fa a s s')(h:kh it s):kh it s':=by
 unfold kh at h⊢;unfold Ma at f;cases e:it.QC with
 |none=>trivial
 |list b ws=>rw[e] at h f;exact x.ne h f
 |iU b=>rw[e] at h;exact(x b _ h).elim id λq=>by refine qg q λ_ z2 _=>?_;refine eh z2 λl h=>?_;cases h
variable{D:af O->V->α->Prop}
theorem AK(sd:Xp D){a:ag}{it:eA}{body:V->P cH}{sp:V->af α}(f:Ma a it):∀{vs:af V}{s:af O},kh it s->(∀v∈vs,∀s1,Fa a s s1->FL D a (body v) (sp v) s1)->FL D a (iK it body vs) (vs.flatMap sp) s:=by
 intro l0;induction l0 with
 |nil=>exactλst _ acc ha _=>nS st ⟨[],(lr _).symm▸ha,Fa.refl a _,.nil⟩
 |cons v vs ih=>intro s st h acc ha hz;replace hz:=eZ▸hz;replace hz:=ct▸hz;refine aZ (nS st (aZ (wp_mono (h v (.head _) s (Fa.refl a s) acc ha (lT (eD (bc _ _) _) hz)) λ_ s1 h₀=>jj h₀ λrs h1 h2 h3=>?_)));have hl:=h3.len;refine wp_mono (ih (FN f h2 st) (λu hu s2 k=>h u (.tail _ hu) s2 (h2.trans k)) (acc++rs) h1 (by refine az ct ?_;lia)) λ_ s2 h₀=>jj h₀ λrs2 k1 k2 k3=>?_;exact⟨rs++rs2,by rw[<-mx];exact k1,h2.trans k2,(h3.mono λv x=>sd a s1 s2 v x k2).Yc k3⟩
end
section
variable{G:sJ}{n:ag}{m:Env}{st:af O}{Q:V->af O->Prop}{α:Type}{D:af O->V->α->Prop}
theorem fz{β:Type}{a:ag}{l:af V}{f:ag->af V->P β}{Q:β->af O->Prop}{s:af O}(h:s[a]?=ae (.list l))(q:Wp (f a l) Q s):Wp (listAt (.ref a) f) Q s:=bK (a:=a) ac (aZ (wp_load h (bK (a:=l) ac q)))
theorem oz{β:Type}{a:ag}{l:af (V×V)}{f:ag->af (V×V)->P β}{Q:β->af O->Prop}{s:af O}(h:s[a]?=ae (.dict l))(q:Wp (f a l) Q s):Wp (dictAt (.ref a) f) Q s:=bK (a:=a) ac (aZ (wp_load h (bK (a:=l) ac q)))
theorem AL{β:Type}{a d:ag}{c:aA}{l:af (aA×V)}{f:ag->af (aA×V)->P β}{Q:β->af O->Prop}{s:af O}(h:s[a]?=ae (.inst c d))(h':s[d]?=ae (.ns l))(q:Wp (f d l) Q s):Wp (Bf (.ref a) f) Q s:=
 bK (a:=a) ac (aZ (wp_load h (bK (a:=(c,d)) ac (aZ (wp_load h' (bK (a:=l) ac q))))))
theorem fc{a:ag}{l:af V}{v:V}{Q:V->af O->Prop}{s:af O}(h:s[a]?=ae (.list l))(h0:a≠0)(hz:l.length<16777216)(q:Q .none (s.set a (.list (l++[v])))):Wp (iJ (.ref a) "append" [v]) Q s:=by exact fz (f:=λi vs=>if vs.length<16777216 then cI (store i (.list (vs++[v]))) λ_=>ret V.none else fail) h<|az (aF hz) (aZ (jZ (bq.mp h).1 h0 (bx q)))
noncomputable abbrev k9(i:I)(elt:PE)(a:ag)(Bg:Env)(fe:af aA)(ifs:af PE)(gs:af Gen)(v:V):P cH:=bP (bindTo Bg fe v) λm'=>cI (tests (λe=>i.ev e m') ifs) λb=>if b then mq i.ev elt a gs m' else ret ()
theorem dD{ev:PE->P V}{K:aY->af O->Prop}{s:af O}(h:K aj s):Wp (tests ev []) K s:=bx h
inductive Tb1(K:aY->af O->Prop)(v:V)(s:af O):Prop
 |mk(b:aY)(e:v=.bool b)(q:K b s)
theorem oB{ev:PE->P V}{e:PE}{K:aY->af O->Prop}{s:af O}(h:Wp (ev e) (Tb1 K) s):Wp (tests ev [e]) K s:=aZ (wp_mono h λ_ _ ⟨b,e,q⟩=>by
 subst e
 refine aZ (bx ?_)
 induction b
 ·exact bx q
 ·exact bx q)
inductive Ae(D:af O->V->α->Prop)(a:ag)(xs:af α)(s1:af O)(r:V)(s2:af O):Prop
 |mk(e:bM s1 s2)(x:α)(h:xs=[x])(d:∀s3,Fa a s2 s3->D s3 r x)
inductive Ad(D:af O->V->α->Prop)(i:I)(elt:PE)(m':Env)(a:ag)(xs:af α)(s:af O)(b:aY)(s1:af O):Prop
 |mk(e:bM s s1)(q:if b then Wp (i.ev elt m') (Ae D a xs s1) s1 else xs=[])
theorem dj{i:I}{elt:PE}{a:ag}{Bg m':Env}{fe:af aA}{ifs:af PE}{v:V}{xs:af α}{s:af O}(h0:a≠0)(hb:bindTo Bg fe v=ae m')(h:Wp (tests (λe=>i.ev e m') ifs) (Ad D i elt m' a xs s) s):FL D a (k9 i elt a Bg fe ifs [] v) xs s:=λacc ha hz=>by
 refine bK hb (aZ (wp_mono h λb s1 ⟨e1,q⟩=>?_));induction b with
 |false=>rw[aG cE] at q⊢;exact q▸bx ⟨[],by simpa using e1 _ _ ha,e1.fa a,.nil⟩
 |true=>rw[aF ac] at q⊢;refine aZ (wp_mono q λr s2 ⟨e2,x,hx,d⟩=>?_);subst hx;have h2:=e2 _ _ (e1 _ _ ha);exact aZ (fc h2 h0 (by simp at hz;exact tL hz ac) (bx ⟨[r],hO ((bq.mp h2).1) _,((e1.trans e2).fa a).trans (Fa.set h2),.cons (d _ (Fa.set h2)) .nil⟩))
inductive An(D:af O->V->α->Prop)(i:I)(elt:PE)(a:ag)(m':Env)(TZ:af aA)(T2:af PE)(gs:af Gen)(xs:af α)(s:af O)(it:eA)(s1:af O):Prop
 |mk(e:bM s s1)(f:Ma a it)(st:kh it s1)(sp:V->af α)(h:xs=it.vs.flatMap sp)(k:∀v∈it.vs,∀s2,Fa a s1 s2->FL D a (k9 i elt a m' TZ T2 gs v) (sp v) s2)
theorem oC(sd:Xp D){i:I}{elt:PE}{a:ag}{Bg m':Env}{fe TZ:af aA}{ZM:Src}{T2:af PE}{gs:af Gen}{v:V}{xs:af α}{s:af O}(hb:bindTo Bg fe v=ae m')(h:Wp (itemsOf (λe=>i.ev e m') ZM) (An D i elt a m' TZ T2 gs xs s) s):FL D a (k9 i elt a Bg fe [] (.mk TZ ZM T2::gs) v) xs s:=λacc ha hz=>by refine bK hb (aZ (dD<|aZ (wp_mono h λit s1 ⟨e1,f,y0,sp,hx,k⟩=>?_)));subst hx;refine wp_mono (AK sd f y0 k acc (e1 _ _ ha) hz) λ_ s2 h₀=>jj h₀ λrs h1 h2 h3=>⟨rs,h1,(e1.fa a).trans h2,h3⟩
inductive Cm(i:I)(m:Env)(Q:Po)(elt:PE)(fe:af aA)(src:Src)(ifs:af PE)(gs:af Gen)(D:af O->V->α->Prop)(it:eA)(s1:af O):Prop
 |mk(st:kh it s1)(ne:s1≠[])(sp:V->af α)(hz:(it.vs.flatMap sp).length<=16777216)
   (k:∀v∈it.vs,∀s2,bM s1 s2->s1.length<s2.length->FL D s1.length (k9 i elt s1.length (m.drop (".0"::dA (.mk fe src ifs::gs))) fe ifs gs v) (sp v) s2)
   (q:∀s' rs,bM s1 s'->s'[s1.length]?=ae (.list rs)->fb (D s') rs (it.vs.flatMap sp)->Q (.ref s1.length) s')
theorem fW{elt:PE}{fe:af aA}{src:Src}{ifs:af PE}{gs:af Gen}(D:af O->V->α->Prop)(sd:Xp D)(h:Wp (itemsOf (λe=>(run G n).ev e m) src) (Cm (run G n) m Q elt fe src ifs gs D) st):Wp ((run G (n+1)).ev (.comp elt (.mk fe src ifs::gs)) m) Q st:=by
 refine aZ (wp_mono h λit s1 ⟨y0,ne,sp,hz,k,q⟩=>aZ (fD (bR _) ?_))
 have f:Ma s1.length it:=by
  unfold kh at y0;unfold Ma;cases e:it.QC with
  |list b ws=>rw[e] at y0;exact b8 (bq.mp y0).1
  |_=>trivial
 have fx:∀{s2},Fa s1.length (s1++[.list []]) s2->bM s1 s2:=λx b o e=>x.ne (bM.push s1 _ b o e) (b8 (bq.mp e).1);have L:=AK sd (a:=s1.length) (it:=it) (body:=k9 (run G n) elt s1.length (m.drop (".0"::dA (.mk fe src ifs::gs))) fe ifs gs) (sp:=sp) f (vs:=it.vs) (s:=s1++[.list []]) (FN f ((bM.push s1 _).fa _) y0) λv hv s2 x=>k v hv s2 (fx x) (by
  rcases x s1.length _ (bF s1 _) with h|⟨_,_,l,h⟩
  ·exact(bq.mp h).1
  ·exact(bq.mp h).1)
 exact aZ (wp_mono (L [] (bF s1 _) (by exact bL hz)) λ_ s' h₀=>jj h₀ λrs h1 h2 h3=>bx (q s' rs (fx h2) (by trivial) h3))
noncomputable abbrev Dv:af O->V->V->Prop:=λ_ v x=>v=x
theorem Dv.rM:Xp Dv:=λ_ _ _ _ _ _ h=>h
section
variable(K:eA->af O->Prop)(s:af O)(v:V)
inductive It:Prop
 |mk(vs:af V)(e:v=.tup vs)(q:K ⟨vs,.none⟩ s)
inductive Is:Prop
 |mk (x:aM) (e:v=.str x) (q:K ⟨x.cps.toList.map λc=>.str ⟨#[c]⟩,.none⟩ s)
inductive Il:Prop
 |mk(a:ag)(vs:af V)(e:v=.ref a)(l:s[a]?=ae (.list vs))(q:K ⟨vs,.list a vs⟩ s)
inductive Ir:Prop
 |mk (k:aJ) (e:v=.int k) (f:fits k=aj) (q:K ⟨(c5 k.toNat).map λ(k:ag)=>.int k,.none⟩ s)
inductive Ie:Prop
 |mk (a:ag) (vs:af V) (e:v=.ref a) (l:s[a]?=ae (.list vs)) (q:K ⟨vs.zipIdx.map λp=>.tup [.int p.2,p.1],.list a vs⟩ s)
inductive Iz(v':V):Prop
 |mk (vs ws:af V) (e:v=.tup vs) (e':v'=.tup ws) (q:K ⟨(vs.zip ws).map λp=>.tup [p.1,p.2],.iU s.length⟩ (s++[.iU]))
end
theorem v5{ev:PE->P V}{e:PE}{K:eA->af O->Prop}(h:Wp (ev e) (λv s=>It K s v) st):Wp (itemsOf ev (.seq e)) K st:=aZ (wp_mono h λ_ _ ⟨vs,e,q⟩=>by subst e;exact bx q)
theorem ZN{ev:PE->P V}{e:PE}{K:eA->af O->Prop}(h:Wp (ev e) (λv s=>Is K s v) st):Wp (itemsOf ev (.seq e)) K st:=aZ (wp_mono h λ_ _ ⟨vs,e,q⟩=>by subst e;exact bx q)
theorem eS{ev:PE->P V}{e:PE}{K:eA->af O->Prop}(h:Wp (ev e) (λv s=>Il K s v) st):Wp (itemsOf ev (.seq e)) K st:=aZ (wp_mono h λ_ _ ⟨a,vs,e,l,q⟩=>by subst e;exact fz (f:=λa vs=>ret (⟨vs,.list a vs⟩:eA)) l (bx q))
theorem rN{ev:PE->P V}{e:PE}{K:eA->af O->Prop}(h:Wp (ev e) (λv s=>Ir K s v) st):Wp (itemsOf ev (.range e)) K st:=aZ (wp_mono h λ_ s ⟨k,e,f,q⟩=>by
 subst e
 refine((az (aF f) ?_):Wp (if fits k then _ else fail) K s);exact bx q)
theorem Pp{ev:PE->P V}{e:PE}{K:eA->af O->Prop}(h:Wp (ev e) (λv s=>Ie K s v) st):Wp (itemsOf ev (.nW e)) K st:=aZ (wp_mono h λ_ _ ⟨a,vs,e,l,q⟩=>by subst e;exact fz (f:=λa vs=>ret (⟨vs.zipIdx.map λp=>.tup [.int p.2,p.1],.list a vs⟩:eA)) l (bx q))
theorem ZO{ev:PE->P V}{e e':PE}{K:eA->af O->Prop}(h:Wp (ev e) (λv s=>Wp (ev e') (λv' s=>Iz K s v v') s) st):Wp (itemsOf ev (.zip e e')) K st:=
 aZ (wp_mono h λ_ _ h=>aZ (wp_mono h λ_ _ ⟨vs,ws,e,e',q⟩=>by subst e;subst e';exact bK (a:=vs) ac (bK (a:=ws) ac (ny ac q))))
end
section
variable{α β:Type}{st:af O}{Q:V->af O->Prop}
theorem HP{a d:ag}{c x:aA}{es:af (aA×V)}{v:V}(h1:st[a]?=ae (.inst c d))(h2:st[d]?=ae (.ns es))(h3:rX x es=ae v)(q:Q v st):Wp (getAttr (.ref a) x) Q st:=
 AL h1 h2 (bK h3 (bx q))
theorem Mb{i n:ag}(h:i<n)(hn:n<=16777216):place (i:aJ) n=ae i:=by
 unfold place fits;have h1:(i:aJ)<1152921504606846976:=u5.mpr (tL (b9 (lR h hn)) ac);have h2:(-1152921504606846976:aJ)<(i:aJ):=by lia
 simp[h1,h2,h]
theorem AM{α:Type}{a:ag}{l:af V}{f:af V->P α}{g:af (V×V)->P α}{K:α->af O->Prop}(h:st[a]?=ae (.list l))(q:Wp (f l) K st):Wp (nY a f g) K st:=aZ (wp_load h q)
theorem Mc{α:Type}{a:ag}{l:af (V×V)}{f:af V->P α}{g:af (V×V)->P α}{K:α->af O->Prop}(h:st[a]?=ae (.dict l))(q:Wp (g l) K st):Wp (nY a f g) K st:=aZ (wp_load h q)
theorem T5{α:Type}{l:af V}{f:af V->P α}{g:P α}{K:α->af O->Prop}(q:Wp (f l) K st):Wp (qh (.tup l) f g) K st:=q
theorem Pq{i:ag}{l:af V}{v:V}(hv:l[i]?=ae v)(hz:l.length<=16777216)(q:Q v st):Wp (KR (.int i) l) Q st:=by exact bK (a:=(i:aJ)) ac (bK (f:=λv=>ret v) (az (Mb (bq.mp hv).1 hz) (hv)) (bx q))
theorem fA{a i:ag}{l:af V}{v:V}(h:st[a]?=ae (.list l))(hv:l[i]?=ae v)(hz:l.length<=16777216)(q:Q v st):Wp (vH (.ref a) (.int i)) Q st:=
 show Wp (nY a (KR (.int i)) (M2 (.int i))) Q st from AM h (Pq hv hz q)
theorem iE{i:ag}{l:af V}{v:V}(hv:l[i]?=ae v)(hz:l.length<=16777216)(q:Q v st):Wp (vH (.tup l) (.int i)) Q st:=by unfold vH;exact T5 (Pq hv hz q)
theorem lX{a:ag}{es:af (V×V)}{k v:V}(h:st[a]?=ae (.dict es))(pk:V.pure k=aj)(hv:bI k es=ae v)(q:Q v st):Wp (vH (.ref a) k) Q st:=by refine show Wp (nY a (KR k) (M2 k)) Q st from Mc h ?_;unfold M2;exact az (aF pk) (bK hv (bx q))
theorem gJ{a:ag}{l:af V}(h:st[a]?=ae (.list l))(hz:l.length<=16777216)(q:Q (.int l.length) st):Wp (iV "len" (.ref a)) Q st:=by refine fz (f:=λ_ vs=>VI vs) h ?_;show Wp (if l.length<=16777216 then ret (.int l.length) else fail) Q st;refine az (aF hz) ?_;exact bx q
theorem uO{l:af V}(hz:l.length<=16777216)(q:Q (.int l.length) st):Wp (iV "len" (.tup l)) Q st:=by show Wp (if l.length<=16777216 then ret (.int l.length) else fail) Q st;refine az (aF hz) ?_;exact bx q
theorem pO{a:ag}{l:af V}(h:st[a]?=ae (.list l))(ok:cZ l=aj)(q:Q (.ref st.length) (st++[.list (dh l)])):Wp (iV "sorted" (.ref a)) Q st:=by refine bK (a:=a) (f:=λa=>nY a jl λes=>jl (es.map (·.1))) ac (aZ (wp_load h ((az (aF ok)<|fD (az ((cz l).length_eq) ?_) q):Wp (if cZ l then newList (dh l) else fail) Q st)));simp -iota only[cZ,cY,di] at ok;exact bz (lR ok.1.1.1.2 (lB ac))
theorem AN{a:ag}{l:af V}{K:af V->af O->Prop}(h:st[a]?=ae (.list l))(q:K l st):Wp (mr (.ref a)) K st:=fz (f:=λ_ vs=>ret vs) h (bx q)
theorem Pt{a:ag}{l:af V}(h:st[a]?=ae (.list l))(hz:l.length<=16777216)(q:Q (.ref st.length) (st++[.list l])):Wp (iV "list" (.ref a)) Q st:=fz (f:=λ_ vs=>newList vs) h (fD hz q)
theorem FO{a:ag}{l:af V}{ps:af (V×V)}(h:st[a]?=ae (.list l))(e:pairsOf l=ae ps)(ok:((ps.all λp=>V.pure p.1)&&bh (ps.length<1000))=aj)(q:Q (.ref st.length) (st++[.dict (dictOf ps)])):Wp (iV "dict" (.ref a)) Q st:=by exact bK (a:=a) (f:=λa=>nY a (λvs=>bP (pairsOf vs) λps=>if(ps.all λp=>V.pure p.1)&&bh (ps.length<1000) then alloc (.dict (dictOf ps)) else fail) λes=>if(es.all λp=>V.flat p.1)&&bh (es.length<16777216) then alloc (.dict es) else fail) ac (aZ (wp_load h (bK e<|az (aF ok) (wp_alloc q))))
theorem lY{a:ag}{l:af V}(h:st[a]?=ae (.list l))(so:setOk l=aj)(ok:cZ (cF l)=aj)(q:Q (.ref st.length) (st++[.list (dh (cF l))])):Wp (iV "sortedSet" (.ref a)) Q st:=by refine fz (f:=λ_ vs=>if setOk vs then jl (cF vs) else fail) h<|az (aF so) ?_;show Wp (if cZ (cF l) then newList (dh (cF l)) else fail) Q st;refine az (aF ok)<|fD (az ((cz _).length_eq) ?_) q;simp -iota only[cZ,cY,di] at ok;exact bz (lR ok.1.1.1.2 (lB ac))
theorem kF{a:ag}{l:af V}(h:st[a]?=ae (.list l))(hz:l.length<=16777216)(q:Q (.tup l) st):Wp (iV "tuple" (.ref a)) Q st:=by refine fz (f:=λ_ vs=>if vs.length<=16777216 then ret (V.tup vs) else fail) h<|az (aF hz) ?_;exact bx q
theorem rO{x y:af V}(hz:x.length+y.length<=16777216)(q:Q (.tup (x++y)) st):Wp (r9 .add (.tup x) (.tup y)) Q st:=by show Wp (if x.length+y.length<=16777216 then ret (.tup (x++y)) else fail) Q st;refine az (aF hz) ?_;exact bx q
theorem pP{x y:aJ}(hx:fits x=aj)(hy:fits y=aj)(q:Q (.int (x+y)) st):Wp (r9 .add (.int x) (.int y)) Q st:=by show Wp (if fits x&&fits y then ret (.int (x+y)) else fail) Q st;refine az hx<|az hy ?_;exact bx q
theorem xN{x y:aJ}(hx:fits x=aj)(hy:fits y=aj)(q:Q (.int (x-y)) st):Wp (r9 .sub (.int x) (.int y)) Q st:=by show Wp (if fits x&&fits y then ret (.int (x-y)) else fail) Q st;refine az hx<|az hy ?_;exact bx q
theorem rP{a b:ag}{x y:af V}(h1:st[a]?=ae (.list x))(h2:st[b]?=ae (.list y))(hz:x.length+y.length<=16777216)(q:Q (.ref st.length) (st++[.list (x++y)])):Wp (r9 .add (.ref a) (.ref b)) Q st:=
 aZ (wp_load h1 (aZ (wp_load h2 (fD (by exact az ct hz) q))))
theorem kc{x:V}{l:af V}(hz:l.length<16777216)(q:Q (.tup l) st):Wp (wD (.tup (x::l))) Q st:=by show Wp (if _ then ret (.tup l) else fail) Q st;rw[aF (by simp;lia)];exact bx q
theorem dE{op:GD}{a b:V}{r:aY}(e:mo op a b st=ae (.bool r,st))(q:Q (.bool r) st):Wp (mo op a b) Q st:=ny e q
variable{G:sJ}{n:ag}{m:Env}
theorem eU{y x c:aA}{a d:ag}{es:af (aA×V)}{v:V}(hm:m y=ae (.ref a))(h1:st[a]?=ae (.inst c d))(h2:st[d]?=ae (.ns es))(h3:rX x es=ae v)(q:Q v st):Wp ((run G (n+2)).ev (.attr (.var y) x) m) Q st:=
 Xo (aN hm (HP h1 h2 h3 q))
theorem kd{y f c:aA}{args:af PE}{a d:ag}{es:af (aA×V)}(hm:m y=ae (.ref a))(h1:st[a]?=ae (.inst c d))(h2:st[d]?=ae (.ns es))(h3:rX f es=aC)(q:Wp (p6 (λe=>(run G (n+1)).ev e m) args) (λvs s=>Wp ((run G (n+1)).cl c f (.ref a::vs)) Q s) st):Wp ((run G (n+2)).ev (.cu (.var y) f args) m) Q st:=
 iu (aN hm ⟨a,c,d,es,ac,h1,h2,h3,q⟩)
end
structure St where
 o0:O
 o2:O
 k:ag
 cells:af V
 dz:af V
 nums:af (V×V)
 ws:af V
 ds:af V
 up:af V
 fU:af V
 mg:af V
 eg:af V
 fo:af V
 known:af (V×V)
 ab:af (V×V)
 wait:af V
noncomputable def St.L(x:St):af O:=[x.o0,.dict [(.str (aB "cells"),.ref 3),(.str (aB "at"),.int x.k)],x.o2,.list x.cells,
 .ns [("bank",.ref 7),("unions",.ref 13),("edges",.ref 17),("forest",.ref 18),("known",.ref 19),("above",.ref 20),("waiting",.ref 21)],.inst "Heap" 4,
 .ns [("nodes",.ref 8),("numbers",.ref 9),("weights",.ref 10),("depths",.ref 11)],.inst "Bank" 6,.list x.dz,.dict x.nums,.list x.ws,.list x.ds,
 .ns [("above",.ref 14),("lots",.ref 15),("merged",.ref 16)],.inst "Unions" 12,.list x.up,.list x.fU,.list x.mg,.list x.eg,.list x.fo,.dict x.known,.dict x.ab,.list x.wait]
theorem fH{L s:af O}(h:bM L s){j:ag}(hj:j<L.length)(o:O):bM (L.set j o) (s.set j o):=λb o' e=>by
 by_cases q:b=j
 ·subst q;rw[hO hj] at e;(replace e:=aU e;subst e);exact hO (lR hj h.len) _
 ·rw[cj (dK q)] at e⊢;exact h b o' e
structure UF(up:af V)(N:ag)(r:ag->ag):Prop where
 len:up.length=N
 small:N<=1000
 at_:∀i,i<N->∃j:ag,up[i]?=ae (.int j)/\j<=i/\(j=i↔r i=i)/\r j=r i
 le:∀i,r i<=i
 ji:∀i,r (r i)=r i
section
variable{x:St}{s:af O}{N:ag}{r:ag->ag}
theorem nB(h:bM x.L s)(U:UF x.up N r)(Q:V->af O->Prop):∀(a:ag),a<N->∀n,8+a<=n->Q (.int (r a)) s->Wp ((run prog n).cl "Unions" "find" [.ref 13,.int a]) Q s:=λa ha n hn q=>by
 obtain⟨n,rfl⟩:∃k,n=k+3:=⟨n-3,A7 ‹_› ac⟩;refine cN (pf:=sk) ac ac (DH ?_)
 have key:∀(n0 a:ag)(m:Env)(n:ag),a<N->6+a<=n->m "self"=ae (.ref 13)->m "a"=ae (.int a)->Q (.int (r a)) s->Wp ((run prog n).wl (.cmp .ne (.idx (.attr (.var "self") "above") (.var "a")) (.var "a")) [.assign (.name "a") (.idx (.attr (.var "self") "above") (.var "a"))] m) (After (run prog (n0+1)) [.ret (.var "a")] λr s=>Q (yZ r.1) s) s:=by
  intro n0 a;induction a using Tg with
  |_ a ih=>
  intro m n ha hn h1 h2 q;refine xU (U.at_ a ha) λj hj hle AO hrj=>?_;obtain⟨n,rfl⟩:∃k,n=k+6:=⟨n-6,A7 ‹_› ac⟩;have look:∀{n:ag}{K:V->af O->Prop},K (.int j) s->Wp ((run prog (n+3)).ev (.idx (.attr (.var "self") "above") (.var "a")) m) K s:=λk=>
   ef (eU h1 (h _ _ ac) (h _ _ ac) ac (aN h2 (fA (h 14 _ ac) hj (by have j1:=U.len;have j2:=U.small;exact tB (j1▸j2) ac) k)))
  refine vz (dT (look (aN h2 (dE ac ⟨_,ac,?_⟩))));by_cases ZP:j=a
  ·replace ZP:=ZP.symm;subst ZP;exact az (aG (by simp))<|dZ (aN h2 ((AO.mp ac)▸q))
  ·exact az (aF (bN (b8 (nj hle ZP))))<|bV (c8 (look (c6<|ih j (by exact nj hle ZP) _ _ (rL ‹_› ‹_›) (by lia) h1 ac (hrj▸q))))
 exact key n a _ _ ha (fL (a:=8) (b:=3) (c:=6) (d:=1) hn ac) ac ac q
end
inductive Tm where
 |leaf(s:aM)
 |f(t:Tm)
 |g(t u:Tm)
noncomputable def Tm.op:Tm->aM
 |.leaf s=>s
 |.f _=>aB "f"
 |.g _ _=>aB "g"
noncomputable def Tm.kids:Tm->af Tm
 |.leaf _=>[]
 |.f t=>[t]
 |.g t u=>[t,u]
noncomputable def Tm.enc:Tm->V
 |.leaf s=>.tup [.str s]
 |.f t=>.tup [.str (aB "f"),t.enc]
 |.g t u=>.tup [.str (aB "g"),t.enc,u.enc]
noncomputable def cL(r:ag->ag)(t:Tm)(l:af ag):V:=.tup (.str t.op::l.map λj=>.int (r j))
structure Gr where
 T:af Tm
 ks:af (af ag)
structure Gr.Ok(g:Gr):Prop where
 len:g.ks.length=g.T.length
 Pu:∀{i:ag}{t:Tm}{l:af ag},g.T[i]?=ae t->g.ks[i]?=ae l->fb (λj u=>j<i/\g.T[j]?=ae u) l t.kids
 once:g.T.Nodup
 small:g.T.length<=5
theorem hU(t:Tm):t.kids.length<=2:=by induction t<;>simp[Tm.kids]
theorem Gr.Ok.Px{g:Gr}(ok:g.Ok){i:ag}{t:Tm}(h:g.T[i]?=ae t):∃l,g.ks[i]?=ae l:=⟨_,dq (by refine az ok.len ?_;exact(bq.mp h).1)⟩
theorem Gr.Ok.lk{g:Gr}(ok:g.Ok){i:ag}{t:Tm}{l:af ag}(h:g.T[i]?=ae t)(k:g.ks[i]?=ae l):l.length<=2:=by refine az ((ok.Pu h k).len) ?_;exact hU t
theorem Gr.Ok.lt{g:Gr}(ok:g.Ok){i:ag}{t:Tm}{l:af ag}(h:g.T[i]?=ae t)(k:g.ks[i]?=ae l){j:ag}(m:j∈l):j<g.T.length:=by exact bH ((ok.Pu h k).mem m) λb _ hb=>(bq.mp hb.2).1
noncomputable def pQ(g:Gr)(dz:af V):Prop:=dz.length=g.T.length/\∀{i:ag}{t:Tm}{l:af ag},g.T[i]?=ae t->g.ks[i]?=ae l->dz[i]?=ae (cL id t l)
section
variable{x:St}{s:af O}{r:ag->ag}{g:Gr}{Q:V->af O->Prop}
theorem MX(h:bM x.L s):22<=s.length:=h.len
theorem DI(h:bM x.L s):s.length≠0:=by have j1:=MX h;exact bZ (lR (lB ac) j1)
theorem oD(h:bM x.L s):s≠[]:=λq=>DI h (by refine az q ?_;rfl)
theorem oE{N a:ag}(h:bM x.L s)(U:UF x.up N r)(ha:a<N){n:ag}(hn:13+a<=n)(q:Q (.int (r a)) s):Wp ((run prog n).cl "Heap" "find" [.ref 5,.int a]) Q s:=by obtain⟨n,rfl⟩:∃k,n=k+5:=⟨n-5,A7 ‹_› ac⟩;exact cN (pf:=vM) ac ac (dZ (iu (eU ac (h _ _ ac) (h _ _ ac) ac ⟨_,_,_,_,ac,h _ _ ac,h _ _ ac,ac,aH (aN ac (aT (nB h U _ a ha _ (fL hn ac) q)))⟩)))
theorem T6(ok:g.Ok)(h:bM x.L s)(hN:pQ g x.dz){i:ag}{t:Tm}(ht:g.T[i]?=ae t){n:ag}(hn:10<=n)(q:Q (.str t.op) s):Wp ((run prog n).cl "Bank" "op" [.ref 7,.int i]) Q s:=by refine gc hn<|eh (ok.Px ht) λl hl=>?_;have:=ok.lk ht hl;exact cN (pf:=Aj) ac ac (dZ (ef (ef (eU ac (h _ _ ac) (h _ _ ac) ac (aN ac (fA (h 8 _ ac) (hN.2 ht hl) (by refine az hN.1 ?_;exact tB ok.small ac) (cS (iE (i:=0) ac (by simp;lia) q))))))))
theorem Md(ok:g.Ok)(h:bM x.L s)(hN:pQ g x.dz){i:ag}{t:Tm}{l:af ag}(ht:g.T[i]?=ae t)(hl:g.ks[i]?=ae l){n:ag}(hn:10<=n)(q:Q (.tup (l.map λ(j:ag)=>.int j)) s):Wp ((run prog n).cl "Bank" "kids" [.ref 7,.int i]) Q s:=by refine gc hn ?_;have:=ok.lk ht hl;exact cN (pf:=vJ) ac ac (dZ (lW (ef (eU ac (h _ _ ac) (h _ _ ac) ac (aN ac (fA (h 8 _ ac) (hN.2 ht hl) (by refine az hN.1 ?_;exact tB ok.small ac) (kc (by simp;lia) q)))))))
theorem bO{α β:Type}(f:α->β):∀l:af α,(l.flatMap λa=>[f a])=l.map f:=by
 intro l0;induction l0 with
 |nil=>exact ac
 |cons a l ih=>exact by(refine az eZ ?_;refine az ih ?_);rfl
theorem AP(ok:g.Ok)(h:bM x.L s)(hN:pQ g x.dz)(U:UF x.up g.T.length r){i:ag}{t:Tm}{l:af ag}(ht:g.T[i]?=ae t)(hl:g.ks[i]?=ae l){n:ag}(hn:30<=n)(q:∀s',bM s s'->Q (cL r t l) s'):Wp ((run prog n).cl "Heap" "node" [.ref 5,.int i]) Q s:=by
 refine gc hn ?_;have hk:=ok.lk ht hl;refine cN (pf:=vL) ac ac (dZ (gh (eN (aH (iu (eU ac (h _ _ ac) (h _ _ ac) ac ⟨_,_,_,_,ac,h _ _ ac,h _ _ ac,ac,aH (aN ac (aT (T6 ok h hN ht (lB ac) (aT<|fm (fW Dv Dv.rM (v5 (iu (eU ac (h _ _ ac) (h _ _ ac) ac ⟨_,_,_,_,ac,h _ _ ac,h _ _ ac,ac,aH (aN ac (aT (Md ok h hN ht hl (lB ac) ⟨_,ac,bp,?_,λv=>[match v with|.int j=>.int (r j.toNat)|v=>v],?_,?_,?_⟩)))⟩))))))))⟩))))))
 ·exact oD h
 ·rw[bO];simp;lia
 ·intro v hv s2 e2 pR;refine bH (bt.mp hv) λj hj z1=>?_;subst z1;have h2:bM x.L s2:=h.trans e2;have jE:=ok.lt ht hl hj;exact dj (DI h) ac (dD ⟨bM.refl _,kd ac (h2 _ _ ac) (h2 _ _ ac) ac (aH (aN ac (aT (oE h2 U jE (eY (tB (bL (b9 (lR jE ok.small))) ac)) ⟨bM.refl _,_,ac,λ_ _=>ac⟩))))⟩)
 ·intro s' rs e' ha all;rw[bO] at all;have j2:=all.eq;subst j2;refine kF ha (by simp;lia) (rO (by simp;lia) ?_);have j3:=q s' e';unfold cL at j3;simpa[tj,yZ] using j3
end
theorem oF{vs:af V}(p:∀v∈vs,v.pure=aj)(hl:vs.length<64)(c:∀a∈vs,∀b∈vs,V.fV a b=aj)(n:vs.Nodup)(f:∀v∈vs,v.full=aj):cZ vs=aj:=by unfold cZ;simp only[cY,qC,di,eH];exact⟨⟨⟨⟨kE.mpr p,hl⟩,c⟩,.inl (DA n)⟩,.inr f⟩
noncomputable def nats(l:af ag):af V:=l.map λ(j:ag)=>.int j
theorem eO{v:V}{l:af ag}(h:v∈nats l):∃j:ag,j∈l/\v=.int j:=by exact bH (bt.mp h) λj hj z1=>z1▸⟨j,hj,ac⟩
theorem iQ{a b:ag}(h:V.int a=V.int b):a=b:=by injection h with h;exact VD h
theorem i8{α β:Type}{f:α->β}{l:af α}(inj:∀a∈l,∀b∈l,f a=f b->a=b)(h:l.Nodup):(l.map f).Nodup:=by
 induction l with
 |nil=>exact fh
 |cons x xs ih=>rw[eV] at h;exact eV.mpr ⟨λm=>bH (bt.mp m) λy hy e=>h.1 (inj y (.tail _ hy) x (.head _) e▸hy),ih (λa ha b hb=>inj a (.tail _ ha) b (.tail _ hb)) h.2⟩
theorem y7{l:af ag}(h:l.Nodup):(nats l).Nodup:=i8 (λa _ b _ e=>iQ e) h
theorem qD{l:af ag}(n:l.Nodup)(hl:l.length<64):cZ (nats l)=aj:=
 oF (λv h=>by refine bH (eO h) λj _ z5=>?_;subst z5;rfl) (by simpa[nats] using hl) (λa ha b hb=>by refine bH (eO ha) λ_ _ z4=>?_;subst z4;refine bH (eO hb) λ_ _ z3=>?_;subst z3;rfl) (y7 n) (λv h=>by refine bH (eO h) λj _ z2=>?_;subst z2;rfl)
noncomputable def gV(N:ag)(p:ag->aY):af ag:=(c5 N).filter p
theorem ke{N:ag}{p:ag->aY}{i:ag}:i∈gV N p↔i<N/\p i=aj:=by simp[gV]
theorem qE(N:ag)(p:ag->aY):(gV N p).Pairwise (·<·):=J9.filter _
theorem tm(N:ag)(p:ag->aY):(gV N p).Nodup:=(qE N p).imp λh=>b8 h
theorem oG(N:ag)(p:ag->aY):(gV N p).length<=N:=lT (DJ _ _) (by simp)
theorem V.T7(a b:aJ):V.lt (.int a) (.int b)=bh (a<b):=ac
theorem FP{l:af ag}(h:l.Pairwise (·<·)):kD (nats l):=by
 induction l with
 |nil=>exact .nil
 |cons x xs ih=>rw[rC] at h;refine rC.mpr ⟨λv hv=>bH (eO hv) λj hj z6=>?_,ih h.2⟩;subst z6;exact eu (u5.mpr (h.1 j hj))
theorem y8{l:af ag}{N:ag}{p:ag->aY}(n:l.Nodup)(h:∀i,i∈l↔i<N/\p i=aj):dh (nats l)=nats (gV N p):=by exact ij (((cz _).trans ((rK n (tm N p) λi=>(h i).trans ke.symm).map _))) (fi _ (λa ha b hb=>by refine bH (eO ha) λ_ _ z8=>?_;subst z8;refine bH (eO hb) λ_ _ z7=>?_;subst z7;rfl) (y7 n)) (FP (qE N p))
theorem filter_flatMap{α β:Type}(p:α->aY)(f:α->β):∀l:af α,(l.flatMap λa=>if p a then[f a] else[])=(l.filter p).map f:=by
 intro l0;induction l0 with
 |nil=>exact ac
 |cons a l ih=>refine az eZ<|az ih<|az Km ?_;cases p a<;>rfl
theorem fj{α β γ:Type}(f:α->β)(k:β->af γ):∀l:af α,(l.map f).flatMap k=l.flatMap λa=>k (f a):=by
 intro l0;induction l0 with
 |nil=>exact ac
 |cons a l ih=>exact by(refine az eL ?_;refine az eZ ?_;refine eZ.trans ?_;refine az ih ?_;rfl)
section
variable{x:St}{s:af O}{r:ag->ag}{g:Gr}{N:ag}{Q:V->af O->Prop}
noncomputable def HQ(x:St)(s:af O)(N:ag)(r:ag->ag):Prop:=∀c,c<N->r c=c->∃a l,x.fU[c]?=ae (.ref a)/\22<=a/\s[a]?=ae (.list (nats l))/\l.Nodup/\∀i,i∈l↔i<N/\r i=c
noncomputable def Py(r:ag->ag)(v:V):af V:=if(match v with|.int j=>r j.toNat==j.toNat|_=>aQ) then[v] else[]
theorem AQ(N:ag):((c5 ((N:aJ)).toNat).map λ(k:ag)=>V.int k).flatMap (Py r)=nats (gV N λa=>r a==a):=
 (fj _ _ _).trans (filter_flatMap (λ(a:ag)=>r a==a) (λ(a:ag)=>V.int a) (c5 N))
theorem uP(h:bM x.L s)(U:UF x.up N r){n:ag}(hn:40<=n)(q:∀s',bM s s'->s'[s.length]?=ae (.list (nats (gV N λa=>r a==a)))->Q (.ref s.length) s'):Wp ((run prog n).cl "Heap" "classes" [.ref 5]) Q s:=by
 refine gc hn ?_;have hs:=U.small;have hlen:=U.len;refine cN (pf:=qm) ac ac (dZ (iu (eU ac (h _ _ ac) (h _ _ ac) ac ⟨_,_,_,_,ac,h _ _ ac,h _ _ ac,ac,aT<|cN (pf:=og) ac ac (dZ (fW Dv Dv.rM (rN (fm (eU ac (h _ _ ac) (h _ _ ac) ac (gJ (h 14 _ ac) (hlen▸tB hs ac) ⟨_,ac,?_,bp,oD h,Py r,?_,?_,?_⟩))))))⟩)))
 ·unfold fits;simp;lia
 ·refine az hlen ?_;rewrite[AQ,nats,be];exact lT (oG _ _) (tB hs ac)
 ·intro v hv s2 e2 pR;refine bH (bt.mp hv) λj hj z9=>?_;subst z9;have h2:bM x.L s2:=h.trans e2;simp at hj;refine xU (U.at_ j (lR hj (bJ hlen))) λk hk hle AO _=>dj (DI h) ac (oB (dT (ef (eU ac (h2 _ _ ac) (h2 _ _ ac) ac (aN ac (fA (h2 14 _ ac) hk (tB (hlen▸hs) ac) (aN ac (dE ac ⟨_,ac,bM.refl _,?_⟩))))))));show if((k:aJ)==(j:aJ))=aj then _ else(if(r j==j)=aj then[V.int j] else[])=[]
  by_cases hc:k=j
  ·subst hc;refine az (aF (by exact aF ac))<|aN ac ⟨bM.refl _,.int k,?_,λ_ _=>ac⟩;show(if(r k==k)=aj then[V.int k] else[])=_;exact(aF (by simpa using AO.mp ac))
  ·exact az (aG (by simp;lia)) (aG (by simpa usingλq=>hc (AO.mpr q)))
 ·intro s' rs e' ha all;have j1:=all.eq;replace j1:=hlen▸j1;rewrite[AQ] at j1;subst j1;exact q s' e' ha
theorem DK(h:bM x.L s)(U:UF x.up N r)(hN:N<=60)(L:HQ x s N r)(hL:x.fU.length=N){c:ag}(hc:c<N){n:ag}(hn:40+c<=n)(q:Q (.ref s.length) (s++[.list (nats (gV N λi=>r i==r c))])):Wp ((run prog n).cl "Heap" "members" [.ref 5,.int c]) Q s:=by
 obtain⟨n,rfl⟩:∃k,n=k+30:=⟨n-30,A7 ‹_› ac⟩;refine bm (L (r c) (rL (U.le c) hc) (U.ji c)) λa l h1 h2 h3 h4 h5=>cN (pf:=qo) ac ac (dZ (iu (eU ac (h _ _ ac) (h _ _ ac) ac ⟨_,_,_,_,ac,h _ _ ac,h _ _ ac,ac,aH (aN ac (aT<|cN (pf:=oc) ac ac (dZ (fm (ef (eU ac (h _ _ ac) (h _ _ ac) ac (kd ac (h _ _ ac) (h _ _ ac) ac (aH (aN ac (aT (nB h U _ c hc _ (fL (d:=22) hn ac) (fA (h 15 _ ac) h1 (hL▸tB hN ac) (pO h3 (qD h4 ?_) ?_)))))))))))))⟩)))
 ·refine rL (gi (l:=c5 N) h4 λi hi=>?_) (by exact az lP (tL hN ac));simpa using((h5 i).mp hi).1
 ·exact az (y8 (N:=N) (p:=λi=>r i==r c) h4 λi=>by simpa using h5 i) (q)
end
noncomputable def pS(g:Gr)(r:ag->ag)(i:ag):V:=match g.T[i]?,g.ks[i]? with
 |some t,ae l=>cL r t l
 |_,_=>.none
noncomputable def HR(g:Gr)(r:ag->ag)(c:ag):af V:=dh (cF ((gV g.T.length λi=>r i==r c).map (pS g r)))
section
variable{x:St}{s:af O}{r:ag->ag}{g:Gr}{Q:V->af O->Prop}
theorem Gr.Ok.key{g:Gr}(ok:g.Ok){i:ag}(h:i<g.T.length):∃t l,g.T[i]?=ae t/\g.ks[i]?=ae l/\l.length=t.kids.length/\pS g r i=cL r t l:=by have ht:=dq h;exact eh (ok.Px ht) λl hl=>⟨_,l,ht,hl,(ok.Pu ht hl).len,by unfold pS;(refine az ht ?_;refine az hl ?_;rfl)⟩
theorem lh(f:ag->ag):∀l l':af ag,V.jf (l.map λj=>.int (f j)) (l'.map λj=>.int (f j))=aj
 |[],l'=>by induction l'<;>rfl
 |a::l,[]=>ac
 |a::l,b::l'=>by
  show(if V.beq _ _ then V.jf _ _ else V.fV _ _)=aj
  split
  ·exact lh f l l'
  ·rfl
theorem i9{α:Type}{f:α->V}{n:ag}{l:af α}(h:∀a∈l,(f a).fq n=aj):V.ej n (l.map f)=aj:=by
 induction l with
 |nil=>rfl
 |cons a l ih=>show((f a).fq n&&V.ej n (l.map f))=aj;(refine az (h a (.head _)) ?_;refine(ih λb hb=>h b (.tail _ hb)).trans ?_);rfl
theorem md(r:ag->ag)(t:Tm)(l:af ag):(cL r t l).pure=aj:=by show(aj&&V.ej 7 _)=aj;rw[Xq];exact i9 λa _=>ac
theorem Pz(r:ag->ag)(t u:Tm)(l l':af ag):V.fV (cL r t l) (cL r u l')=aj:=by
 show(if V.beq _ _ then V.jf _ _ else V.fV _ _)=aj;split
 ·exact lh r l l'
 ·rfl
theorem y9(ok:g.Ok){c:ag}{v:V}(h:v∈HR g r c):∃i t l,g.T[i]?=ae t/\g.ks[i]?=ae l/\l.length=t.kids.length/\r i=r c/\v=cL r t l:=by refine bH (bt.mp (bU.mp ((cz _).subset h))) λi hi z1=>?_;subst z1;rcases ke.mp hi with⟨h1,h2⟩;exact Ed (ok.key (r:=r) h1) λt l a b c' d=>⟨i,t,l,a,b,c',by simpa using h2,d⟩
theorem lZ(vs:af V):(cF vs).length<=vs.length:=gi cq λv hv=>bU.mp hv
theorem zX(ok:g.Ok)(h:bM x.L s)(hN:pQ g x.dz)(U:UF x.up g.T.length r)(L:HQ x s g.T.length r)(hL:x.fU.length=g.T.length){c:ag}(hc:c<g.T.length){n:ag}(hn:60+c<=n)(q:∀s' a,bM s s'->s.length<=a->s'[a]?=ae (.list (HR g r c))->Q (.ref a) s'):Wp ((run prog n).cl "Heap" "nodes_of" [.ref 5,.int c]) Q s:=by
 obtain⟨n,rfl⟩:∃k,n=k+40:=⟨n-40,A7 ‹_› ac⟩;have Xr:=ok.small;have sp:∀i∈gV g.T.length (λi=>r i==r c),∃t l,g.T[i]?=ae t/\g.ks[i]?=ae l/\l.length=t.kids.length/\pS g r i=cL r t l:=λi hi=>ok.key (ke.mp hi).1;refine cN (pf:=p7) ac ac (dZ (fm (fW Dv Dv.rM (eS (kd ac (h _ _ ac) (h _ _ ac) ac (aH (aN ac (aT (DK h U (tB Xr ac) L hL hc (fL (d:=35) hn ac) ⟨_,_,ac,bF s _,bF s _,by simp,λv=>[pS g r (match v with|.int j=>j.toNat|_=>0)],?_,?_,?_⟩)))))))))
 ·show(((gV g.T.length λi=>r i==r c).map λ(j:ag)=>V.int j).flatMap _).length<=_;rw[fj,bO,be];exact lT (oG _ _) (tB Xr ac)
 ·intro v hv s2 e2 pR;refine bH (eO hv) λj hj z2=>?_;subst z2;have h2:bM x.L s2:=h.trans ((bM.push s _).trans e2);exact Ed (sp j hj) λt l a b c' d=>dj (by simp) ac (dD ⟨bM.refl _,kd ac (h2 _ _ ac) (h2 _ _ ac) ac (aH (aN ac (aT (AP ok h2 hN U a b (lB ac) λs' e'=>⟨e',_,bf (λz=>[z]) d,λ_ _=>ac⟩))))⟩)
 ·intro s' rs e' ha all;have j1:rs=(gV g.T.length λi=>r i==r c).map (pS g r):=by refine az all.eq ?_;show((gV g.T.length λi=>r i==r c).map λ(j:ag)=>V.int j).flatMap _=_;rw[fj,bO];rfl
  subst j1;have Ev:∀v∈(gV g.T.length λi=>r i==r c).map (pS g r),v.pure=aj/\sG v=aj/\v.full=aj:=λv hv=>by refine bH (bt.mp hv) λi hi z3=>?_;subst z3;exact Ed (sp i hi) λt l _ _ _ d=>az d (⟨md r t l,ac,ac⟩)
  have hl:((gV g.T.length λi=>r i==r c).map (pS g r)).length<=5:=by rw[be];exact lT (oG _ _) Xr
  refine lY ha ?_ ?_ (q _ _ ((bM.push s _).trans (e'.trans (bM.push s' _))) ((bM.push s _).trans e').len (bF s' _))
  ·unfold setOk;simp only[cY,qC,di,eH];exact⟨kE.mpr λv hv=>(Ev v hv).1,.inr ⟨λv hv=>(Ev v hv).2.1,lT (lZ _)<|az List.length_dropLast (TC hl)⟩⟩
  ·refine oF (λv hv=>(Ev v (bU.mp hv)).1) (rL (lZ _) (tL hl ac)) (λa ha b hb=>bH (bt.mp (bU.mp ha)) λi hi z4=>?_) cq λv hv=>(Ev v (bU.mp hv)).2.2;subst z4;refine bH (bt.mp (bU.mp hb)) λj hj z5=>?_;subst z5;exact Ed (sp i hi) λt l _ _ _ d=>Ed (sp j hj) λu l' _ _ _ d'=>az d<|az d' (Pz r t u l l')
end
noncomputable def dU(z:aM):aY:=(⟨(z.cps.toList.take 1).toArray⟩:aM)==aB "?"
noncomputable def Tm.oh:Tm->aY
 |.leaf z=>dU z
 |_=>aQ
noncomputable def Tm.short:Tm->Prop
 |.leaf z=>z.length<=1000
 |.f t=>t.short
 |.g t u=>t.short/\u.short
theorem v7{s:af O}{Q:V->af O->Prop}{p:Tm}(hp:p.short){n:ag}(hn:10<=n)(q:Q (.bool p.oh) s):Wp ((run prog n).cl "" "is_variable" [p.enc]) Q s:=by
 refine gc hn ?_;have start:∀{vs:af V}{K:V->af O->Prop},vs.length<=10->K (.bool ((vs.length:aJ)==1)) s->Wp ((run prog (7)).ev (.cmp .eq (.bi "len" (.var "t")) (.int 1)) (Env.empty.bind ["t"] [.tup vs])) K s:=λhv k=>
  dT (fm (aN ac (uO (tB hv ac) (cS (dE ac k)))))
 cases p with
 |leaf z=>refine cN (pf:=kH) ac ac (dZ (AJ (start (by exact lB ac) ⟨_,ac,dT (vy (ef (aN ac (cS (iE (i:=0) ac (by exact lB ac) (cS<|ny (a:=.str ⟨(z.cps.toList.take 1).toArray⟩) (s:=s) ?_ (gQ (dE ac q))))))))⟩)));show(if bh ((1:aJ)=1)&&bh (z.length<=1000) then ret _ else fail) s=_;exact az (aF (by simpa using(show z.length<=1000 from hp))) ac
 |f t=>exact cN (pf:=kH) ac ac (dZ (AJ (start (by exact lB ac) ⟨_,ac,q⟩)))
 |g t u=>exact cN (pf:=kH) ac ac (dZ (AJ (start (by exact lB ac) ⟨_,ac,q⟩)))
noncomputable abbrev Tb:=af (V×V)
theorem iR{α β:Type}{f g:α->af β}{l:af α}(h:∀a∈l,f a=g a):l.flatMap f=l.flatMap g:=by
 induction l with
 |nil=>rfl
 |cons a l ih=>(refine az eZ ?_;refine eZ.trans ?_;refine az (h a (.head _)) ?_;refine az (ih λb hb=>h b (.tail _ hb)) ?_;rfl)
noncomputable def hd(z:aM)(v:V):aS (af V):=(mQ v).bind λl=>match l with
 |[]=>aC
 |x::ks=>(tx x).bind λo=>if o==z then ae ks else aC
theorem xO{z:aM}{v:V}{ks:af V}(h:hd z v=ae ks):v=.tup (.str z::ks):=by
 cases v with
 |tup l=>
  induction l with
  |nil=>exact eP h
  |cons x l=>
   cases x with
   |str o=>
    replace h:(if o==z then ae l else aC)=ae ks:=h;by_cases q:(o==z)=aj
    ·replace h:=(aF q)▸h;exact az (gX q)<|az (aU h) ac
    ·exact eP ((aG q)▸h)
   |_=>exact eP h
 |_=>exact eP h
theorem za(z:aM)(ks:af V):hd z (.tup (.str z::ks))=ae ks:=by show(if z==z then ae ks else aC)=_;exact(aF (gE z))
noncomputable def fS:aM:=aB "f"
noncomputable def gS:aM:=aB "g"
noncomputable def ext(nd:V->af V):Tm->Tb->V->af Tb
 |.leaf z,τ,c=>if dU z then(if V.beq ((bI (.str z) τ).getD c) c then[du (.str z) c τ] else[]) else(nd c).flatMap λv=>(hd z v).elim [] λks=>if ks.isEmpty then[τ] else[]
 |.f p,τ,c=>(nd c).flatMap λv=>(hd fS v).elim [] λks=>(x8 ks).elim [] λk=>ext nd p τ k
 |.g p q,τ,c=>(nd c).flatMap λv=>(hd gS v).elim [] λks=>(M3 ks).elim [] λk=>(ext nd p τ k.1).flatMap λmO=>ext nd q mO k.2
theorem qF{α β:Type}{o:aS α}{f:α->af β}{b:β}(h:b∈o.elim [] f):∃a,o=ae a/\b∈f a:=by
 induction o with
 |none=>cases h
 |some a=>exact⟨a,ac,h⟩
section
variable{nd:V->af V}{z:aM}{p q:Tm}{τ mO:Tb}{c:V}
theorem zb(hz:¬dU z=aj):mO∈ext nd (.leaf z) τ c↔V.tup [.str z]∈nd c/\mO=τ:=by
 show mO∈(if dU z then _ else _)↔_;refine az (aG hz) ⟨λh=>?_,λh=>dg.mpr ⟨_,h.1,?_⟩⟩
 ·refine bH (dg.mp h) λv hv h=>bH (qF h) λks e h=>?_;replace hv:=(xO e)▸hv;induction ks with
  |nil=>exact⟨hv,bX.mp h⟩
  |cons _ _=>cases h
 ·rewrite[za];exact az h.2 (.head _)
theorem PA:mO∈ext nd (.f p) τ c↔∃k,V.tup [.str fS,k]∈nd c/\mO∈ext nd p τ k:=by
 refine⟨λh=>?_,λh=>?_⟩
 ·refine bH (dg.mp h) λv hv h=>bH (qF h) λks e h=>bH (qF h) λk e1 h=>?_;rw[xO e,Ai e1] at hv;exact⟨k,hv,h⟩
 ·exact bH h λk hv h=>dg.mpr ⟨_,hv,by rw[za];exact h⟩
theorem PB:mO∈ext nd (.g p q) τ c↔∃k l FQ,V.tup [.str gS,k,l]∈nd c/\FQ∈ext nd p τ k/\mO∈ext nd q FQ l:=by
 refine⟨λh=>?_,λh=>?_⟩
 ·refine bH (dg.mp h) λv hv h=>bH (qF h) λks e h=>bH (qF h) λk e1 h=>?_;rw[xO e,x9 e1] at hv;exact bH (dg.mp h) λFQ h1 h2=>⟨k.1,k.2,FQ,hv,h1,h2⟩
 ·exact Qk h λk l FQ hv h1 h2=>dg.mpr ⟨_,hv,by rw[za];exact dg.mpr ⟨FQ,h1,h2⟩⟩
end
noncomputable def FR(nd:V->af V):af (V×Tm)->af Tb->af Tb
 |[],ts=>ts
 |a::r,ts=>FR nd r (ts.flatMap λτ=>ext nd a.2 τ a.1)
noncomputable def zY(nd:V->af V)(p:Tm)(τ:Tb)(v:V):af Tb:=(hd p.op v).elim [] λks=>if ks.length==p.kids.length then FR nd (ks.zip p.kids) [τ] else[]
section
variable{nd:V->af V}{p:Tm}{τ:Tb}{o:aM}{ks:af V}
theorem T8(h:(o==p.op)=aj)(l:ks.length=p.kids.length):zY nd p τ (.tup (.str o::ks))=FR nd (ks.zip p.kids) [τ]:=by refine az (gX h) ?_;show(hd p.op _).elim [] _=_;rw[za];exact aF (jp.mpr l)
theorem Kn(h:¬(o==p.op)=aj):zY nd p τ (.tup (.str o::ks))=[]:=by show(if o==p.op then ae ks else aC:aS (af V)).elim [] _=[];exact az (aG h) ac
theorem PC(h:¬ks.length=p.kids.length):zY nd p τ (.tup (.str o::ks))=[]:=by
 by_cases q:(o==p.op)=aj
 ·refine(?_:(if o==p.op then ae ks else aC:aS (af V)).elim [] _=[]);exact az (aF q) (aG λe=>h (gX e))
 ·exact Kn q
end
theorem Ko(nd:V->af V){p:Tm}(hp:p.oh=aQ)(τ:Tb)(c:V):ext nd p τ c=(nd c).flatMap (zY nd p τ):=by
 have ap:∀l:af Tb,l=l++[]:=λl=>(lr l).symm;induction p with
 |leaf z=>
  refine(((aG λh=>cE (hp.symm.trans h)).trans<|congrArg (nd c).flatMap (funext λv=>?_)):(if dU z then _ else _)=_);show(hd z v).elim [] _=(hd z v).elim [] _;cases hd z v with
  |none=>rfl
  |some ks=>induction ks<;>rfl
 |f p=>
  refine bf (nd c).flatMap (funext λv=>?_);show(hd fS v).elim [] _=(hd fS v).elim [] _;cases hd fS v with
  |none=>rfl
  |some ks=>
   match ks with
   |[]=>rfl
   |[k]=>exact ap _
   |_::_::_=>rfl
 |g p q=>
  refine bf (nd c).flatMap (funext λv=>(?_:(hd gS v).elim [] _=(hd gS v).elim [] _));cases hd gS v with
  |none=>rfl
  |some ks=>
   match ks with
   |[]=>rfl
   |[_]=>rfl
   |[k,l]=>exact bf (·.flatMap λτ=>ext nd q τ l) (ap _)
   |_::_::_::_=>rfl
theorem kg(p:Tm):p.enc=.tup (.str p.op::p.kids.map Tm.enc):=by induction p<;>rfl
noncomputable def Tm.wt:Tm->ag
 |.leaf _=>1
 |.f p=>5*p.wt
 |.g p q=>5*(p.wt*q.wt)
noncomputable def Tm.lv:Tm->ag
 |.leaf _=>1
 |.f p=>p.lv
 |.g p q=>p.lv+q.lv
noncomputable def Tm.ht:Tm->ag
 |.leaf _=>0
 |.f p=>p.ht+1
 |.g p q=>max p.ht q.ht+1
theorem tn:∀p:Tm,1<=p.wt
 |.leaf _=>aP _
 |.f p=>by have j1:=tn p;unfold Tm.wt;exact bT (mL j1) ac
 |.g p q=>by
  unfold Tm.wt;exact bT (mL (lT (mL (aP _)) (uQ (tn p) (tn q)))) ac
theorem fF{α β:Type}{f:α->af β}{k:ag}:∀{l:af α},(∀a∈l,(f a).length<=k)->(l.flatMap f).length<=l.length*k:=by
 intro l0;induction l0 with
 |nil=>exactλ_=>by exact lB ac
 |cons a l ih=>intro h;rw[eZ,ct,iD,Nat.succ_mul];exact lT (aE (h a (.head _)) (ih λb hb=>h b (.tail _ hb))) (bJ (oP _ _))
theorem zc{α β:Type}{f:α->af β}{a0:α}(h0:∀a,a≠a0->f a=[])(h1:(f a0).length<=1):∀{l:af α},l.Nodup->(l.flatMap f).length<=1:=by
 intro l0;induction l0 with
 |nil=>exactλ_=>by exact lB ac
 |cons a l ih=>
  intro h;rw[eV] at h;refine az eZ<|az ct ?_;by_cases q:a=a0
  ·induction q;have j1:l.flatMap f=[]:=by rw[List.flatMap_eq_nil_iff];intro b hb;exact h0 b λq=>h.1 (q▸hb)
   refine az j1 ?_;trivial
  ·refine az (h0 a q) ?_;simpa using(ih h.2)
structure Xs(nd:V->af V):Prop where
 DL:∀c,(nd c).length<=5
 once:∀c,(nd c).Nodup
theorem Vs{nd:V->af V}(ok:Xs nd)(c:V)(z:aM){k:ag}{F:af V->af Tb}(h:∀ks,(F ks).length<=k):((nd c).flatMap λv=>(hd z v).elim [] F).length<=5*k:=
 lT (fF λv _=>by
  cases hd z v with
  |none=>exact bR _
  |some ks=>exact h ks) (qM _ (ok.DL c))
theorem Kq{α β:Type}{k:ag}{F:α->af β}(h:∀a,(F a).length<=k)(o:aS α):(o.elim [] F).length<=k:=by
 induction o with
 |none=>exact bR _
 |some a=>exact h a
theorem rQ{nd:V->af V}(ok:Xs nd)(p:Tm):∀(τ:Tb)(c:V),(ext nd p τ c).length<=p.wt:=by
 induction p with
 |leaf z=>
  intro τ c;refine(?_:(if dU z then _ else _:af Tb).length<=1);by_cases hz:dU z=aj
  ·refine az (aF hz) ?_;by_cases e:V.beq ((bI (.str z) τ).getD c) c=aj
   ·refine az (aF e) ?_;exact aP _
   ·refine az (aG e) ?_;exact bR _
  ·refine az (aG hz)<|zc (a0:=.tup [.str z]) (λv hv=>?_) (by rw[za];exact aP _) (ok.once c);cases e:hd z v with
   |none=>rfl
   |some ks=>
    induction ks with
    |nil=>exact aV (xO e) hv
    |cons _ _=>rfl
 |f p ih=>exactλτ c=>Vs ok c fS λks=>Kq (λk=>ih τ k) _
 |g p q ih PD=>exactλτ c=>Vs ok c gS λks=>Kq (λ(k:V×V)=>lT (fF λFQ _=>PD FQ k.2) (qM _ (ih τ k.1))) _
structure iI(τ:Tb):Prop where
 kv:∀p∈τ,∃(z:aM)(j:ag),p=(.str z,.int j)
 once:(τ.map (·.1)).Nodup
theorem qG{k v:V}:∀{τ:Tb}{p:V×V},p∈du k v τ->p∈τ\/p=(k,v)\/∃a w,(a,w)∈τ/\p=(a,v):=by
 intro l0;induction l0 with
 |nil=>exactλh=>.inr (.inl (bX.mp h))
 |cons q τ ih=>
  intro p h;replace h:=kj▸h;by_cases c:V.beq q.1 k=aj
  ·replace h:=(aF c)▸h;exact(ci.mp h).elim (λe=>.inr (.inr ⟨q.1,q.2,.head _,e⟩)) λh=>.inl (.tail _ h)
  ·replace h:=(aG c)▸h;exact(ci.mp h).elim (λe=>.inl (ci.mpr (.inl e))) λh=>(ih h).elim (λh=>.inl (.tail _ h)) λh=>h.elim (λh=>.inr (.inl h)) λh=>.inr (.inr (lC h λa w h e=>⟨a,w,.tail _ h,e⟩))
theorem mF(k v:V):∀τ:Tb,(du k v τ).length<=τ.length+1:=by
 intro l0;induction l0 with
 |nil=>exact aP _
 |cons oo τ ih=>
  obtain⟨a,w⟩:=oo;refine az kj ?_;split
  ·simp
  ·have:=ih;simp;assumption
theorem AR{k v:V}:∀{τ:Tb},(τ.map (·.1)).Nodup->((du k v τ).map (·.1)).Nodup/\∀u,u∈(du k v τ).map (·.1)↔u∈τ.map (·.1)\/u=k:=by
 intro l0;induction l0 with
 |nil=>exactλ_=>⟨jQ _ _,λu=>bX.trans ⟨.inr,λh=>h.elim (λh=>(gu h).elim) id⟩⟩
 |cons p τ ih=>
  intro h;have h':=h;rw[eL,eV] at h;refine fB (ih h.2) λi1 i2=>az kj ?_;by_cases q:V.beq p.1 k=aj
  ·refine az (aF q) ?_;induction(V.eq_of_beq _ _ q);refine⟨h',λu=>az eL ?_⟩;rewrite[ci];exact⟨.inl,λz=>z.elim id .inl⟩
  ·refine az (aG q) ⟨?_,λu=>?_⟩
   ·rw[eL,eV];exact⟨λm=>((i2 p.1).mp m).elim h.1 (λe=>q (by refine az e ?_;exact V.beq_refl k)),i1⟩
   ·refine az eL ?_;rewrite[ci,i2];refine az eL ?_;rewrite[ci];exact DM.symm
theorem iI.du{τ:Tb}(h:iI τ)(z:aM)(j:ag):iI (du (.str z) (.int j) τ) where
 kv:=λp hp=>by
  rcases qG hp with q|rfl|⟨a,w,q,rfl⟩
  ·exact h.kv p q
  ·exact⟨z,j,ac⟩
  ·refine sE (h.kv _ q) λz' j' e=>?_
   injection e with e1 e2
   exact⟨z',j,by(refine az e1 ?_;rfl)⟩
 once:=(AR h.once).1
theorem iI.get{τ:Tb}(h:iI τ)(k:V)(c:ag):∃j:ag,(bI k τ).getD (.int c)=.int j:=by
 replace h:=h.kv;induction τ with
 |nil=>exact⟨c,ac⟩
 |cons p τ ih=>
  refine sE (h p (.head _)) λz j z1=>?_;subst z1;refine az nV ?_;split
  ·exact⟨j,ac⟩
  ·exact ih λq hq=>h q (.tail _ hq)
noncomputable def gy(nd:V->af V)(P:ag->Prop):Prop:=∀c v,v∈nd c->∃(o:aM)(l:af ag),v=.tup (.str o::nats l)/\l.length<=2/\∀j∈l,P j
theorem gy.one{nd:V->af V}{P:ag->Prop}(sh:gy nd P){c k:V}{z:aM}(h:V.tup [.str z,k]∈nd c):∃j:ag,k=.int j:=by
 refine kS (sh _ _ h) λo l e _ _=>?_;replace e:=(fk (V.tup.inj e)).2;induction l with
 |nil=>cases e
 |cons j l=>exact⟨j,(fk e).1⟩
theorem gy.two{nd:V->af V}{P:ag->Prop}(sh:gy nd P){c k k':V}{z:aM}(h:V.tup [.str z,k,k']∈nd c):∃j j':ag,k=.int j/\k'=.int j':=by
 rcases sh _ _ h with⟨o,l,e,_,_⟩;replace e:=(fk (V.tup.inj e)).2
 match l,e with
 |[_],e=>cases(fk e).2
 |j::j'::l,e=>exact⟨j,j',(fk e).1,(fk (fk e).2).1⟩
theorem DN{nd:V->af V}{P:ag->Prop}(sh:gy nd P)(p:Tm):∀(τ:Tb)(c:ag),iI τ->∀mO∈ext nd p τ (.int c),iI mO/\mO.length<=τ.length+p.lv:=by
 induction p with
 |leaf z=>
  intro τ c h mO h';by_cases hz:dU z=aj
  ·replace h':mO∈(if dU z then _ else _:af Tb):=h';rw[aF hz] at h';by_cases e:V.beq ((bI (.str z) τ).getD (.int c)) (.int c)=aj
   ·replace h':=(aF e)▸h';exact az (bX.mp h') (⟨h.du z c,mF _ _ _⟩)
   ·replace h':=(aG e)▸h';cases h'
  ·exact az (((zb hz).mp h').2) (⟨h,bc _ _⟩)
 |f p ih=>intro τ c h mO h';refine bH (PA.mp h') λk hv h'=>eh (sh.one hv) λj z2=>?_;subst z2;exact ih τ j h mO h'
 |g p q ih PD=>intro τ c h mO h';refine Qk (PB.mp h') λk k' FQ hv h1 h2=>lC (sh.two hv) λj j' z3 z4=>?_;subst z3;subst z4;have a:=ih τ j h FQ h1;have b:=PD FQ j' a.1 mO h2;exact⟨b.1,lT b.2 (lT (IJ a.2 _) (bJ (wC _ _ _)))⟩
structure RO(g:Gr)(r:ag->ag)(x:St)(s:af O):Prop where
 ok:g.Ok
 h:bM x.L s
 dz:pQ g x.dz
 U:UF x.up g.T.length r
 L:HQ x s g.T.length r
 fU:x.fU.length=g.T.length
theorem RO.mono{g:Gr}{r:ag->ag}{x:St}{s s':af O}(o:RO g r x s)(e:bM s s'):RO g r x s':=
 ⟨o.ok,o.h.trans e,o.dz,o.U,λc h1 h2=>Ed (o.L c h1 h2) λa l a1 a2 a3 a4=>⟨a,l,a1,a2,e _ _ a3,a4⟩,o.fU⟩
noncomputable def fI(g:Gr)(r:ag->ag)(c:V):af V:=match c with
 |.int j=>HR g r j.toNat
 |_=>[]
noncomputable abbrev ww(g:Gr)(r:ag->ag)(j:ag):Prop:=j<g.T.length/\r j=j
theorem mG{g:Gr}{r:ag->ag}(ok:g.Ok)(le:∀i,r i<=i)(id:∀i,r (r i)=r i):gy (fI g r) (ww g r):=λc v h=>by
 cases c with
 |int j=>refine Yu (y9 ok h) λi t l h1 h2 h3 _ z5=>?_;subst z5;refine⟨t.op,l.map r,by unfold cL nats;simp[tj],by(rewrite[be];refine az h3 ?_);exact hU t,λk hk=>?_⟩;exact bH (bt.mp hk) λi' wa z6=>z6▸⟨rL (le i') (ok.lt h1 h2 wa),id i'⟩
 |_=>cases h
theorem rR{g:Gr}{r:ag->ag}(ok:g.Ok):Xs (fI g r) where
 DL:=λc=>by
  cases c with
  |int j=>
   refine az ((cz _).length_eq)<|lT (lZ _) ?_
   rw[be]
   exact lT (oG _ _) ok.small
  |_=>exact bR _
 once:=λc=>by
  cases c with
  |int j=>exact(cz _).nodup_iff.mpr cq
  |_=>exact fh
noncomputable def Dt(lo:ag)(s:af O)(v:V)(τ:Tb):Prop:=∃b:ag,v=.ref b/\lo<=b/\s[b]?=ae (.dict τ)
theorem Dt.rM{lo:ag}:Xp (Dt lo):=λa s s' v τ f h₀=>jj h₀ λb e l h=>⟨b,e,l,f.dict h⟩
theorem Dt.ext{lo:ag}{s s':af O}(e:bM s s'){v:V}{τ:Tb}(h:Dt lo s v τ):Dt lo s' v τ:=let⟨b,a,l,c⟩:=h;⟨b,a,l,e _ _ c⟩
structure Wk(s:af O)(wv:ag):Prop where
 at_:∃wd,s[wv]?=ae (.inst "Walker" wd)/\s[wd]?=ae (.ns [("heap",.ref 5)])
theorem Wk.mono{s s':af O}{wv:ag}(h:Wk s wv)(e:bM s s'):Wk s' wv:=bH (h.at_) λwd a b=>⟨wd,e _ _ a,e _ _ b⟩
noncomputable def HS{α:Type}(s:af O)(f:Tb->af α)(v:V):af α:=match v with
 |.ref b=>match s[b]? with
  |some (.dict τ)=>f τ
  |_=>[]
 |_=>[]
theorem uR{α:Type}{s:af O}(f:Tb->af α){lo:ag}{v:V}{τ:Tb}(h:Dt lo s v τ):HS s f v=f τ:=by refine jj h λb z1 _ e=>?_;subst z1;unfold HS;dsimp only;(refine az e ?_;rfl)
theorem mH{α:Type}{s:af O}(f:Tb->af α){lo:ag}{rs:af V}{ts:af Tb}(h:fb (Dt lo s) rs ts):rs.flatMap (HS s f)=ts.flatMap f:=by
 induction h with
 |nil=>rfl
 |cons x _ ih=>(refine az eZ ?_;refine eZ.trans ?_;refine az (uR f x) ?_;refine az ih ?_;rfl)
theorem rS{a b:ag}{l l':af V}{Q:V->af O->Prop}{s:af O}(h:s[a]?=ae (.list l))(h':s[b]?=ae (.list l'))(hn:a≠b)(h0:a≠0)(hz:l.length+l'.length<=16777216)(q:Q .none (s.set a (.list (l++l')))):Wp (iJ (.ref a) "extend" [.ref b]) Q s:=by exact fz (f:=λi vs=>vG b λws=>if vs.length+ws.length<=16777216&&i !=b then cI (store i (.list (vs++ws))) λ_=>ret V.none else fail) h (aZ (wp_load h' (bK (a:=l') ac<|az (aF (by simpa using⟨hz,hn⟩)) (aZ (jZ (bq.mp h).1 h0 (bx q))))))
theorem Ks{a:ag}{es:af (V×V)}{k d:V}{Q:V->af O->Prop}{s:af O}(h:s[a]?=ae (.dict es))(pk:V.pure k=aj)(q:Q ((bI k es).getD d) s):Wp (iJ (.ref a) "get" [k,d]) Q s:=by refine oz (f:=λ_ es=>if V.pure k then ret ((bI k es).getD d) else fail) h<|az (aF pk) ?_;exact bx q
theorem pT{a:ag}{es:af (V×V)}{k v:V}{Q:cH->af O->Prop}{s:af O}(h:s[a]?=ae (.dict es))(h0:a≠0)(pk:V.pure k=aj)(hz:es.length<16777216)(q:Q () (s.set a (.dict (du k v es)))):Wp (yb (.ref a) k v) Q s:=by exact aZ (wp_load h ((az (aF (by simpa using⟨pk,hz⟩)) (jZ (bq.mp h).1 h0 q)):Wp (if V.pure k&&bh (es.length<16777216) then store a (.dict (du k v es)) else fail) Q s))
theorem fJ{j:ag}(h:j<=1000000000):fits (j:aJ)=aj:=by unfold fits;simp;lia
noncomputable def AS(g:Gr)(r:ag->ag)(x:St)(p:Tm):Prop:=
 ∀(s:af O)(lo wv b:ag)(τ:Tb)(c n:ag)(Q:V->af O->Prop),RO g r x s->Wk s wv->lo<=b->s[b]?=ae (.dict τ)->iI τ->τ.length+p.lv<=1000->ww g r c->100+14*p.ht<=n->
  (∀s' a rs,bM s s'->s.length<=a->s'[a]?=ae (.list rs)->fb (Dt lo s') rs (ext (fI g r) p τ (.int c))->Q (.ref a) s')->Wp ((run prog n).cl "Walker" "extended" [.ref wv,.ref b,.int c,p.enc]) Q s
section
variable{g:Gr}{r:ag->ag}{x:St}
theorem T9{z:aM}(hz:dU z=aj)(hs:(Tm.leaf z).short):AS g r x (.leaf z):=λs lo wv b τ c n Q R W zE hb tb hl hc hn q=>by
 obtain⟨n,rfl⟩:∃k,n=k+30:=⟨n-30,fs ‹_› ac⟩;refine cN (pf:=jH) ac ac (c8 (ef (aN ac (cS (iE (i:=0) (l:=[.str z]) ac (by exact lB ac) (ic (fT (aH (aN ac (aT (v7 (p:=.leaf z) hs (lB ac) ⟨_,ac,az (aF (hz)) ?_⟩)))))))))));have rT:τ.length<=1000:=bz ‹_›;refine bV (c8 (fm (aN ac<|aZ (wp_load hb (?_:Wp (if(τ.all λp=>V.flat p.1)&&bh (τ.length<16777216) then alloc (.dict τ) else fail) _ s)))));rw[aF (by
  simp only[cY,eH,di];exact⟨λp hp=>by refine sE (tb.kv p hp) λz j z2=>?_;subst z2;rfl,tL rT ac⟩)]
 refine wp_alloc (v3 (aN ac (aN ac (aN ac ?_))));have DO:=MX R.h;refine pT (bF s _) (bZ (lR (lB ac) DO)) ac (tL rT ac) ?_;have es:(s++[O.dict τ]).set s.length (.dict (du (.str z) (.int c) τ))=s++[.dict (du (.str z) (.int c) τ)]:=by simp
 refine az es ?_;have eb:(s++[O.dict (du (.str z) (.int c) τ)])[b]?=ae (.dict τ):=bM.push s _ _ _ hb;refine dZ (vZ (dT (eG (aN ac ⟨b,_,ac,eb,.inr ac,aH (aN ac (aH (aN ac (aT ⟨⟨_,eb,ac⟩,Ks eb ac (aN ac<|eh (tb.get (.str z) c) λj hj=>az hj<|dE ac ⟨_,ac,?_⟩)⟩))))⟩))));have ev:ext (fI g r) (.leaf z) τ (.int c)=if((j:aJ)==(c:aJ))=aj then[du (.str z) (.int c) τ] else[]:=by show(if dU z then(if V.beq ((bI (.str z) τ).getD (.int c)) (.int c) then[du (.str z) (.int c) τ] else[]) else _)=_;exact az (aF hz)<|az hj ac
 by_cases hcj:((j:aJ)==(c:aJ))=aj
 ·rw[aF hcj] at ev⊢;exact et (aH (aN ac (aT ⟨by exact lB ac,q _ _ _ ((bM.push s _).trans (bM.push _ _)) (by simp) (bF _ _)<|az ev<|.cons ⟨_,ac,lT zE (bz ((bq.mp hb).1)),bM.push _ _ _ _ (bF s _)⟩ .nil⟩)))
 ·rw[aG hcj] at ev⊢;exact et (aT ⟨by simp,q _ _ _ ((bM.push s _).trans (bM.push _ _)) (by simp) (bF _ _)<|az ev (.nil)⟩)
end
section
variable{g:Gr}{r:ag->ag}{x:St}
theorem FT{q:Tm}{lo k wv ta n:ag}{ts:af Tb}{rs:af V}{m:Env}{s:af O}{Q:V->af O->Prop}(EQ:AS g r x q)(R:RO g r x s)(W:Wk s wv)(m1:m "self"=ae (.ref wv))(m2:m "tables"=ae (.ref ta))(m3:m "kid"=ae (.int k))(m4:m "part"=ae q.enc)(ht:s[ta]?=ae (.list rs))(all:fb (Dt lo s) rs ts)(tb:∀τ∈ts,iI τ/\τ.length+q.lv<=1000)(hk:ww g r k)(hw:ts.length*q.wt<=16777216)(hn:104+14*q.ht<=n)(K:∀s' a nU,bM s s'->s.length<=a->s'[a]?=ae (.list nU)->fb (Dt lo s') nU (ts.flatMap λτ=>ext (fI g r) q τ (.int k))->Q (.ref a) s'):Wp ((run prog n).ev (.comp (.var "late") [.mk ["one"] (.seq (.var "tables")) [],.mk ["late"] (.seq (.cu (.var "self") "extended" [(.var "one"),(.var "kid"),(.var "part")])) []]) m) Q s:=by
 obtain⟨n,rfl⟩:∃k,n=k+4:=⟨n-4,A7 ‹_› ac⟩;refine fW (Dt lo) Dt.rM (eS (aN m2 ⟨ta,rs,ac,ht,ht,oD R.h,HS s λτ=>ext (fI g r) q τ (.int k),?_,?_,?_⟩))
 ·exact az (mH _ all) (lT (fF λτ _=>rQ (rR R.ok) q τ _) hw)
 ·intro v hv s2 e2 pR;refine bH (all.mem hv) λτ rT d=>az (uR _ d)<|jj d λb z1 zE hb=>?_;subst z1;rcases tb τ rT with⟨t1,t2⟩;have W2:=W.mono e2;refine bH W2.at_ λwd w1 w2=>oC Dt.rM ac (eS (kd (c:="Walker") (d:=wd) m1 w1 w2 ac (aH (aN ac (aH (aN m3 (aH (aN m4 (aT<|EQ s2 lo wv b τ k _ _ (R.mono e2) W2 zE (e2 _ _ hb) t1 t2 hk (fL (d:=2) hn ac) λs' a nU e' ha Ua al=>⟨a,nU,ac,Ua,e',?_,Ua,HS s' λmO=>[mO],?_,?_⟩)))))))))
  ·exactλq=>aV (lR pR ha) (by refine az q ?_;exact bS _)
  ·refine az (mH _ al) ?_;simp
  ·intro v hv s3 f3;exact bH (al.mem hv) λmO _ d'=>az (uR _ d') (dj (DI R.h) ac (dD ⟨bM.refl _,aN ac ⟨bM.refl _,mO,ac,λs4 f4=>Dt.rM _ _ _ _ _ (f3.trans f4) d'⟩⟩))
 ·intro s' nU e' ha al;exact K s' _ nU e' (aP _) ha ((mH _ all)▸al)
end
section
variable{it:eA}{body:V->Env->P (Flow×Env)}{m:Env}{s:af O}{R:Flow×Env->af O->Prop}
theorem jB(h:kh it s)(q:R (.next,m) s):Wp (c9 it body [] m) R s:=aZ (nS h (bx q))
theorem hV{v:V}{vs:af V}(h:kh it s)(q:Wp (body v m) (λr s'=>match r with|(.next,m')=>Wp (c9 it body vs m') R s'|(.ret v,m')=>R (.ret v,m') s') s):Wp (c9 it body (v::vs) m) R s:=
 aZ (nS h (aZ (wp_mono q λr s' q=>by
  rcases r with⟨f,m'⟩
  induction f with
  |next=>exact q
  |ret v=>exact bx q)))
end
noncomputable def ZQ:af (ag×Tm)->ag
 |[]=>0
 |(_,q)::r=>q.lv+ZQ r
noncomputable def Yj:af (ag×Tm)->ag
 |[]=>1
 |(_,q)::r=>q.wt*Yj r
theorem Ub:∀l,1<=Yj l:=by
 intro l0;induction l0 with
 |nil=>exact aP _
 |cons oo r ih=>obtain⟨_,q⟩:=oo;exact uQ (tn q) (ih)
structure E5(m:Env)(wv b fa:ag)(p:Tm):Prop where
 self:m "self"=ae (.ref wv)
 table:m "table"=ae (.ref b)
 pattern:m "pattern"=ae p.enc
 op:m "op"=ae (.str p.op)
 found:m "found"=ae (.ref fa)
noncomputable abbrev kq(a:ag×Tm):V×Tm:=(.int a.1,a.2)
section
variable{g:Gr}{r:ag->ag}{x:St}
noncomputable abbrev Mf(n:ag)(v:V)(m:Env):P (Flow×Env):=bP (bindTo m ["kid","part"] v) λm'=>(run prog n).ex [.assign (.name "tables") (.comp (.var "late") [(.mk ["one"] (.seq (.var "tables")) []),(.mk ["late"] (.seq (.cu (.var "self") "extended" [(.var "one"),(.var "kid"),(.var "part")])) [])])] m'
theorem HT{n wv b fa lo ld:ag}{p:Tm}{it:eA}{s:af O}{Rr:Flow×Env->af O->Prop}(Mg:RO g r x s)(W:Wk s wv)(st:∀s',bM s s'->kh it s')(zE:lo<=s.length):∀(rem:af (ag×Tm))(m:Env)(s2:af O)(ts:af Tb)(rs:af V)(ta:ag),(∀kq∈rem,ww g r kq.1/\AS g r x kq.2/\104+14*kq.2.ht<=n)->bM s s2->E5 m wv b fa p->m "tables"=ae (.ref ta)->lo<=ta->s2[ta]?=ae (.list rs)->fb (Dt ld s2) rs ts->(∀τ∈ts,iI τ/\τ.length+ZQ rem<=1000)->ts.length*Yj rem<=16777216->(∀m' s' MY nU,E5 m' wv b fa p->m' "tables"=ae (.ref MY)->lo<=MY->bM s s'->s'[MY]?=ae (.list nU)->fb (Dt ld s') nU (FR (fI g r) (rem.map kq) ts)->Rr (.next,m') s')->Wp (c9 it (Mf (n+1)) (rem.map λa=>.tup [.int a.1,a.2.enc]) m) Rr s2:=by
 intro l0;induction l0 with
 |nil=>exactλm s2 ts rs ta _ e E mt oN ht al _ _ K=>jB (st s2 e) (K m s2 ta rs E mt oN e ht al)
 |cons oo rem ih=>
  obtain⟨k,q⟩:=oo;intro m s2 ts rs ta hr e E mt oN ht al tb hw K;obtain⟨hk,EQ,hn⟩:ww g r k/\AS g r x q/\104+14*q.ht<=n:=hr (k,q) (.head _);have W2:=W.mono e;have hw2:ts.length*q.wt<=16777216:=by refine lT ?_ hw;unfold Yj;rw[<-DP];exact xP _ (Ub rem)
  refine hV (st s2 e) (bK ac (bV (c8 (FT EQ (Mg.mono e) W2 E.self mt ac ac ht al (λτ h=>⟨(tb τ h).1,by have j1:=(tb τ h).2;unfold ZQ at j1;exact lT (eD (bc _ _) _) j1⟩) hk hw2 hn λs' a nU e' ha h' AU=>c6<|ih _ s' (ts.flatMap λτ=>ext (fI g r) q τ (.int k)) nU a (λkq h=>hr kq (.tail _ h)) (e.trans e') ⟨E.self,E.table,E.pattern,E.op,E.found⟩ ac (lT zE (lT e.len ha)) h' AU (λτ h=>?_) ?_ K))))
  ·refine bH (dg.mp h) λXu h0 h1=>fB (tb Xu h0) λt1 t2=>fB (DN (mG Mg.ok Mg.U.le Mg.U.ji) q Xu k t1 τ h1) λa1 a2=>?_;unfold ZQ at t2;exact⟨a1,by lia⟩
  ·refine lT (qM _ (fF λτ _=>rQ (rR Mg.ok) q τ _)) ?_;unfold Yj at hw;rw[DP];exact hw
theorem Uc{p:Tm}(hp:p.oh=aQ)(l:af ag)(hl:l.length=p.kids.length):Yj (l.zip p.kids)<=p.wt/\ZQ (l.zip p.kids)<=p.lv:=by
 cases p with
 |leaf z=>
  induction l with
  |nil=>exact⟨aP _,bR _⟩
  |cons _ _=>cases hl
 |f q=>
  cases l with
  |nil=>cases hl
  |cons k l=>
   induction l with
   |nil=>exact⟨lT (bJ (Nat.mul_one _)) (pU _ (by decide)),aP _⟩
   |cons _ _=>cases hl
 |g q q'=>exact sE (A8 hl) λk k' e=>az e (⟨lT (bJ (bf (q.wt*·) (Nat.mul_one _))) (pU _ (by decide)),aP _⟩)
theorem PG(l:af ag)(ps:af Tm):((nats l).zip (ps.map Tm.enc)).map (λp=>V.tup [p.1,p.2])=(l.zip ps).map λa=>.tup [.int a.1,a.2.enc]:=by
 unfold nats;induction l generalizing ps with
 |nil=>rfl
 |cons a l ih=>induction ps with
  |nil=>rfl
  |cons p ps=>simp only[eL,wI];rw[ih]
theorem Xv(l:af ag)(ps:af Tm):(nats l).zip ps=(l.zip ps).map kq:=by
 unfold nats;induction l generalizing ps with
 |nil=>rfl
 |cons a l ih=>induction ps with
  |nil=>rfl
  |cons p ps=>simp only[eL,wI];rw[ih]
noncomputable abbrev zd(n:ag)(v:V)(m:Env):P (Flow×Env):=bP (bindTo m ["node"] v) λm'=>(run prog n).ex [.iff (.and (.cmp .eq (.idx (.var "node") (.int 0)) (.var "op")) (.cmp .eq (.bi "len" (.var "node")) (.bi "len" (.var "pattern")))) [.assign (.name "tables") (.list [(.var "table")]),
  .loop ["kid","part"] (.zip (.gB (.var "node")) (.gB (.var "pattern"))) [.assign (.name "tables") (.comp (.var "late") [(.mk ["one"] (.seq (.var "tables")) []),(.mk ["late"] (.seq (.cu (.var "self") "extended" [(.var "one"),(.var "kid"),(.var "part")])) [])])],
  .expr (.cu (.var "found") "extend" [(.var "tables")])] []] m'
theorem Mh{n wv b ld:ag}{p:Tm}{τ:Tb}{it:eA}{s:af O}{Rr:Flow×Env->af O->Prop}(hp:p.oh=aQ)(pw:p.wt<=16777216)(IH:∀q∈p.kids,AS g r x q/\104+14*q.ht<=n)(Mg:RO g r x s)(W:Wk s wv)(hld:ld<=b)(hb:s[b]?=ae (.dict τ))(tb:iI τ)(hl:τ.length+p.lv<=1000){na:ag}{ws:af V}(hit:it.QC=.list na ws)(Yk:s.length<na):∀(vs:af V)(m:Env)(s2:af O)(done:af Tb)(rs:af V),(∀v∈vs,∃(o:aM)(l:af ag),v=.tup (.str o::nats l)/\l.length<=2/\∀j∈l,ww g r j)->bM s s2->s2[na]?=ae (.list ws)->E5 m wv b s.length p->s2[s.length]?=ae (.list rs)->fb (Dt ld s2) rs done->done.length+(vs.flatMap (zY (fI g r) p τ)).length<=16777216->(∀m' s' nU,E5 m' wv b s.length p->bM s s'->s'[s.length]?=ae (.list nU)->fb (Dt ld s') nU (done++vs.flatMap (zY (fI g r) p τ))->Rr (.next,m') s')->Wp (c9 it (zd (n+8)) vs m) Rr s2:=by
 intro l0;induction l0 with
 |nil=>exactλm s2 done rs _ e hn E hs al _ K=>jB (by unfold kh;refine az hit ?_;exact hn) (K m s2 rs E e hs (by simpa using al))
 |cons v vs ih=>
  intro m s2 done rs sh e hn E hs al hw K;refine kS (sh v (.head _)) λo l z1 Gy AO=>?_;subst z1;have y0:kh it s2:=by unfold kh;refine az hit ?_;exact hn
  replace hw:=eZ▸hw;replace hw:=ct▸hw;have kl:=hU p;have nl:(nats l).length=l.length:=be ..;have next:∀m' s' nU,E5 m' wv b s.length p->bM s s'->s'[na]?=ae (.list ws)->s'[s.length]?=ae (.list nU)->fb (Dt ld s') nU (done++zY (fI g r) p τ (.tup (.str o::nats l)))->Wp (c9 it (zd (n+8)) vs m') Rr s':=λm' s' nU E' e' Js vX AU=>
   ih m' s' _ nU (λv h=>sh v (.tail _ h)) e' Js E' vX AU (by refine az ct ?_;lia) (by rw[eZ,<-mx] at K;exact K)
  have stop:zY (fI g r) p τ (.tup (.str o::nats l))=[]->Wp ((run prog (n+7)).ex [] (m.upd "node" (.tup (.str o::nats l)))) (After (run prog (n+7)) [] λr s'=>match r with|(.next,m')=>Wp (c9 it (zd (n+8)) vs m') Rr s'|(.ret v,m')=>Rr (.ret v,m') s') s2:=λh0=>
   bV (c6 (c6 (next _ s2 rs ⟨E.self,E.table,E.pattern,E.op,E.found⟩ e hn hs (by refine az h0 ?_;simpa using al))))
  refine hV y0 (bK ac (bV (ic (AJ (dT (ef (aN ac (cS (iE (i:=0) (l:=.str o::nats l) ac (by exact tB (aR (nl▸Gy)) ac) (aN E.op (dE ac ⟨_,ac,?_⟩)))))))))));by_cases ho:(o==p.op)=aj
  ·refine az (aF ho)<|dT (fm (aN ac (uO (by simp;lia) (fm (aN (v:=.tup (.str p.op::p.kids.map Tm.enc)) (E.pattern.trans (bf ae (kg p))) (uO (by simp;lia) (dE ac ⟨_,ac,?_⟩)))))));by_cases hk:l.length=p.kids.length
   ·refine az (aF (by simp[nl,hk])) ?_;have one:zY (fI g r) p τ (.tup (.str o::nats l))=FR (fI g r) ((l.zip p.kids).map kq) [τ]:=(T8 ho (nl.trans hk)).trans (by rw[Xv]);refine fB (Uc hp l hk) λw1 w2=>?_;have zl:∀a∈l.zip p.kids,a.1∈l/\a.2∈p.kids:=λa ha=>⟨(Jx ha).1,(Jx ha).2⟩;refine bV (c8 (et (aH (aN E.table (aT ⟨by exact lB ac,jh (ZO (lW (aN ac (kc (l:=nats l) (by refine az nl ?_;exact hk▸tL kl ac) (lW (aN (v:=.tup (.str p.op::p.kids.map Tm.enc)) (E.pattern.trans (bf ae (kg p))) (kc (l:=p.kids.map Tm.enc) (by rw[be];exact hk▸tL Gy ac) ⟨_,_,ac,ac,?_⟩)))))))⟩)))));rw[PG];have e3:bM s (s2++[O.list [.ref b]]++[O.iU]):=e.trans ((bM.push _ _).trans (bM.push _ _));have aaw:s.length+1<=s2.length:=(bq.mp hs).1;have jE:s.length+1<(s2++[O.list [.ref b]]++[O.iU]).length:=by simp;lia
    refine HT (n:=n+5) (lo:=s.length+1) (Mg.mono e3) (W.mono e3) (λs' e'=>show kh ⟨_,.iU _⟩ s' from e' _ _ (bF _ _)) (bz jE) (l.zip p.kids) _ _ [τ] [.ref b] s2.length (λa ha=>⟨AO _ (zl a ha).1,(IH _ (zl a ha).2).1,by have j1:=(IH _ (zl a ha).2).2;exact lT j1 (bc _ _)⟩) (bM.refl _) ⟨E.self,E.table,E.pattern,E.op,E.found⟩ ac aaw (bM.push _ _ _ _ (bF _ _)) (.cons ⟨b,ac,hld,e3 _ _ hb⟩ .nil) (λmO h=>by simp at h;replace h:=h.symm;subst h;exact⟨tb,lT (eD w2 _) hl⟩) (by simp;exact lT ‹_› ‹_›) λm' s' MY nU E' mt' aaY e' Ua AU=>?_;have hf:=e' _ _ (bM.push _ _ _ _ (bM.push _ _ _ _ hs));have DO:=MX Mg.h;have Yl:=al.mono λv x h=>Dt.ext e' (Dt.ext (bM.push _ _) (Dt.ext (bM.push s2 _) h));have Ud:=AU.len;rw[<-one] at AU Ud;refine fE (eG (aN E'.found ⟨s.length,_,ac,hf,.inl ac,aH (aN mt' (aT ⟨⟨_,hf,ac⟩,rS hf Ua (b8 ‹_›) (bZ (lR (lB ac) DO)) (lT (aE (bJ Yl.len) (Ud▸bc _ _)) hw) ⟨bp,c6 (c6 ?_)⟩⟩))⟩));have fa:=Fa.set (l':=rs++nU) hf;refine next m' _ (rs++nU) E' ((e3.trans e').set (aP _) _) (fa.ne (e' _ _ (bM.push _ _ _ _ (bM.push _ _ _ _ hn))) (bZ ‹_›)) (hO (bq.mp hf).1 _) ?_
    exact(Yl.Yc AU).mono λv x h=>Dt.rM _ _ _ _ _ fa h
   ·exact az (aG (by simp[nl];lia)) (stop (PC λh=>hk (nl.symm.trans h)))
  ·exact az (aG ho) ⟨aQ,ac,az (aG cE) (stop (Kn ho))⟩
end
theorem qH{p q:Tm}(h:q∈p.kids):q.ht<p.ht/\q.wt<=p.wt/\q.lv<=p.lv/\(p.short->q.short):=by
 induction p with
 |leaf z=>cases h
 |f t=>exact az (bX.mp h) (⟨de _,pU _ (by decide),aP _,id⟩)
 |g t u=>
  rcases ci.mp h with e|h
  ·exact az e (⟨CQ (DQ _ _),lT (xP _ (tn u)) (pU _ (by decide)),bc _ _,λh=>h.1⟩)
  ·exact az (bX.mp h) (⟨CQ (DR _ _),lT (pU _ (tn t)) (pU _ (by decide)),gU _ _,λh=>h.2⟩)
section
variable{g:Gr}{r:ag->ag}{x:St}
theorem Kt:∀(k:ag)(p:Tm),p.ht<k->p.short->p.wt<=16777216->AS g r x p:=by
 intro l0;induction l0 with
 |zero=>exactλp h _ _=>aV h (fM _)
 |succ k ih=>
  intro p hk sh pw;cases hv:p.oh with
  |true=>
   induction p with
   |leaf z=>exact T9 hv sh
   |_=>exact ff hv
  |false=>
   intro s lo wv b τ c n Q R W zE hb tb hl hc hn q;obtain⟨n,rfl⟩:∃k,n=k+30:=⟨n-30,A7 ‹_› ac⟩;have kl:=hU p;refine cN (pf:=jH) ac ac (c8 (ef (aN (v:=.tup (.str p.op::p.kids.map Tm.enc)) (bf ae (kg p)) (cS (iE (i:=0) ac (by simp;lia) (ic (fT (aH (aN ac (aT (v7 sh (lB ac) ⟨_,ac,az (aG (by refine az hv ?_;exact cE)) ?_⟩)))))))))));refine bH W.at_ λwd w1 w2=>bV (c6 (c8 (et (aT ⟨by simp,?_⟩))));have e1:=bM.push s (O.list []);have R1:=R.mono e1;refine jh (eS (iu (eU ac (e1 _ _ w1) (e1 _ _ w2) ac ⟨_,_,_,_,ac,R1.h _ _ ac,R1.h _ _ ac,ac,aH (aN ac (aT (zX R1.ok R1.h R1.dz R1.U R1.L R1.fU hc.1 (by have:=R.ok.small;have:=hc.1;lia) λs' a e' ha vX=>⟨a,_,ac,vX,?_⟩)))⟩)));replace ha:=ct▸ha;refine Mh (n:=n+20) (s:=s) (b:=b) (wv:=wv) hv pw (λq hq=>?_) R W zE hb tb hl ac ha _ _ s' [] [] (λv h=>mG R.ok R.U.le R.U.ji (.int c) v h) (e1.trans e') vX ⟨ac,ac,ac,ac,ac⟩ (e' _ _ (bF s _)) .nil ?_ λm' s2 nU E' e2 h2 AU=>?_
   ·exact X5 (qH hq) λa1 a2 _ a3=>⟨ih q (lR a1 (b9 hk)) (a3 sh) (lT ‹_› ‹_›),by lia⟩
   ·have:=rQ (rR (r:=r) R.ok) p τ (.int c);rw[Ko _ hv] at this;refine(?_:0+((fI g r (.int c)).flatMap (zY (fI g r) p τ)).length<=16777216);rw[rq];exact lT this pw
   ·refine dZ (aN E'.found (q s2 _ nU e2 (aP _) h2 ?_));rw[Ko _ hv];exact AU
end
noncomputable def pV(τ:Tb):V:=.tup (dh (cO τ))
theorem pW{α β:Type}{f:α->β}{l:af α}(h:(l.map f).Nodup):l.Nodup:=by
 induction l with
 |nil=>exact fh
 |cons x xs ih=>replace h:=eL▸h;rewrite[eV] at h;exact eV.mpr ⟨λm=>h.1 (RK m),ih h.2⟩
theorem FU{τ:Tb}(h:iI τ)(hl:τ.length<64):cZ (cO τ)=aj/\(τ.all λp=>V.word p.1)=aj:=by
 have mem:∀v∈cO τ,∃(z:aM)(j:ag),v=.tup [.str z,.int j]:=λv hv=>by refine bH (bt.mp hv) λp hp z1=>?_;subst z1;exact sE (h.kv p hp) λz j z2=>z2▸⟨z,j,ac⟩
 refine⟨oF (λv hv=>by refine sE (mem v hv) λz j z4=>?_;subst z4;rfl) (by unfold cO;rw[be];exact hl) (λa ha b hb=>?_) ?_ (λv hv=>by refine sE (mem v hv) λz j z3=>?_;subst z3;rfl),?_⟩
 ·refine sE (mem a ha) λz j z5=>?_;subst z5;refine sE (mem b hb) λz' j' z6=>?_;subst z6;refine(?_:(if V.beq _ _ then V.jf [_] [_] else V.fV _ _)=aj);split
  ·exact lh id [j] [j']
  ·rfl
 ·have j1:(cO τ).map (λv=>match v with|.tup (k::_)=>k|v=>v)=τ.map (·.1):=by unfold cO;exact iz
  exact pW (j1▸h.once)
 ·rw[eH];intro p hp;refine sE (h.kv p hp) λz j z7=>?_;subst z7;rfl
theorem HU{τ:Tb}(h:iI τ):(pV τ).pure=aj:=by
 have j1:∀l:af V,(∀v∈l,∃(z:aM)(j:ag),v=.tup [.str z,.int j])->V.ej 7 l=aj:=by
  intro l;induction l with
  |nil=>intro _;rfl
  |cons v l ih=>intro h;refine sE (h v (.head _)) λz j z8=>?_;subst z8;exact(ih λu hu=>h u (.tail _ hu))
 refine j1 _ λv hv=>bH (bt.mp ((cz _).subset hv)) λp hp z9=>?_;subst z9;exact sE (h.kv p hp) λz j NQ=>NQ▸⟨z,j,ac⟩
theorem Ku{n b:ag}{y:aA}{m:Env}{τ:Tb}{s:af O}{Q:V->af O->Prop}(hm:m y=ae (.ref b))(hb:s[b]?=ae (.dict τ))(h:iI τ)(hl:τ.length<64)(q:Q (pV τ) (s++[.list (dh (cO τ))])):Wp ((run prog (n+3)).ev (.bi "tuple" (.bi "sortedItems" (.var y))) m) Q s:=by
 refine fB (FU h hl) λh1 h2=>fm (fm (aN hm<|oz (f:=λ_ es=>if es.all λp=>V.word p.1 then jl (cO es) else fail) hb<|az (aF h2) ?_));show Wp (if cZ (cO τ) then newList (dh (cO τ)) else fail) _ s;refine az (aF h1) ?_;have Gy:(dh (cO τ)).length=τ.length:=by refine az ((cz _).length_eq) ?_;unfold cO;rw[be]
 exact fD (Gy▸bz (lR hl (lB ac))) (kF (bF s _) (tB (Gy▸b9 hl) ac) q)
noncomputable def qd(l:af V)(d:Tb):Tb:=l.foldl (λd k=>du k (.bool aj) d) d
theorem HV:∀(l:af V)(d:Tb),(d.map (·.1)).Nodup->((qd l d).map (·.1)).Nodup/\∀u,u∈(qd l d).map (·.1)↔u∈d.map (·.1)\/u∈l:=by
 intro l0;induction l0 with
 |nil=>exactλd h=>⟨h,λu=>by simp[qd]⟩
 |cons k l ih=>intro d h;rcases AR (k:=k) (v:=.bool aj) h with⟨a1,a2⟩;refine fB (ih _ a1) λb1 b2=>⟨b1,λu=>?_⟩;show u∈(qd l (du k (.bool aj) d)).map (·.1)↔_;rw[b2,a2,ci,DM]
theorem AV:∀(l:af V)(d:Tb),(qd l d).length<=d.length+l.length:=by
 intro l0;induction l0 with
 |nil=>exactλd=>aP _
 |cons k l ih=>intro d;have:=mF k (.bool aj) d;have:=ih (du k (.bool aj) d);show(qd l (du k (.bool aj) d)).length<=_;simp;lia
theorem uS{l:af V}(ok:cZ (cF l)=aj):cZ ((qd l []).map (·.1))=aj/\dh ((qd l []).map (·.1))=dh (cF l):=by exact fB (HV l [] fh) λa b=>vY ok cq (rK a cq λv=>by rw[b,bU];simp)
theorem ze{a:ag}{es:af (V×V)}{Q:V->af O->Prop}{s:af O}(h:s[a]?=ae (.dict es))(ok:cZ (es.map (·.1))=aj)(q:Q (.ref s.length) (s++[.list (dh (es.map (·.1)))])):Wp (iV "sorted" (.ref a)) Q s:=by refine bK (a:=a) (f:=λa=>nY a jl λes=>jl (es.map (·.1))) ac (aZ (wp_load h ?_));refine(?_:Wp (if cZ (es.map (·.1)) then newList (dh (es.map (·.1))) else fail) Q s);refine az (aF ok) ?_;refine fD ?_ q;refine az ((cz _).length_eq) ?_;simp -iota only[cZ,cY,di] at ok;exact bz (lR ok.1.1.1.2 (lB ac))
theorem Dt.aax{lo a:ag}{s:af O}{o:O}(ha:a<lo){v:V}{τ:Tb}(h:Dt lo s v τ):Dt lo (s.set a o) v τ:=by exact jj h λb e l h=>⟨b,e,l,by refine(cj (b8 (lR ha l))).trans ?_;exact h⟩
section
variable{g:Gr}{r:ag->ag}{x:St}
theorem PH{nd:V->af V}{P:ag->Prop}(sh:gy nd P){p:Tm}(hp:p.lv<=60){c:ag}:∀τ∈ext nd p [] (.int c),iI τ/\τ.length<64:=λτ h=>by rcases DN sh p [] c ⟨λ_ h=>by simp at h,fh⟩ τ h with⟨a,b⟩;exact⟨a,by simp at b;exact rL b (tL hp ac)⟩
noncomputable def fX(nd:V->af V)(p:Tm)(c:ag):af V:=(ext nd p [] (.int c)).map pV
theorem FV{p:Tm}{c wv n:ag}{s:af O}{Q:V->af O->Prop}(R:RO g r x s)(W:Wk s wv)(sh:p.short)(pw:p.wt<=100000)(pl:p.lv<=60)(hc:ww g r c)(so:cZ (cF (fX (fI g r) p c))=aj)(hn:130+14*p.ht<=n)(q:∀s' a,bM s s'->s.length<=a->s'[a]?=ae (.list (dh (cF (fX (fI g r) p c))))->Q (.ref a) s'):Wp ((run prog n).cl "Walker" "found_in" [.ref wv,.int c,p.enc]) Q s:=by
 obtain⟨n,rfl⟩:∃k,n=k+30:=⟨n-30,A7 ‹_› ac⟩;refine bH W.at_ λwd w1 w2=>?_;have e1:=bM.push s (O.dict []);have e2:=e1.trans (bM.push _ (O.dict []));have R2:=R.mono e2;have DO:=MX R.h;have tok:iI []:=⟨λ_ h=>by simp at h,fh⟩;have aaZ:=R.ok.small;refine cN (pf:=mU) ac ac (c8 (nA (jh (eS (kd ac (e1 _ _ w1) (e1 _ _ w2) ac (aH (nA (aH (iu (eU ac (e2 _ _ w1) (e2 _ _ w2) ac ⟨_,_,_,_,ac,R2.h _ _ ac,R2.h _ _ ac,ac,aH (aN ac (aT (oE R2.h R2.U hc.1 (by lia) (aH (aN ac (aT<|az hc.2<|Kt (p.ht+1) p (de _) sh (tB pw ac) _ (s.length+1) wv _ [] c _ _ R2 (W.mono e2) (by simp) (bF _ _) tok (by exact tB (bL pl) ac) hc (fL (d:=27) hn ac) λs' la rs e' Ym hrs al=>⟨la,rs,ac,hrs,?_⟩))))))⟩))))))))));simp -iota only[ct,iD,wJ] at Ym;have good:=PH (mG R.ok R.U.le R.U.ji) pl (c:=c)
 have key:∀(ts:af Tb)(vs:af V)(m:Env)(s2:af O)(done:af V),(∀τ∈ts,iI τ/\τ.length<64)->done.length+ts.length<=100000->bM s s2->s2[la]?=ae (.list rs)->m "substs"=ae (.ref s.length)->s2[s.length]?=ae (.dict (qd done []))->fb (Dt (s.length+1) s2) vs ts->done++ts.map pV=fX (fI g r) p c->
   Wp (c9 ⟨rs,.list la rs⟩ (λv m=>bP (bindTo m ["table"] v) λm'=>(run prog (n+28)).ex [.assign (.idx (.var "substs") (.bi "tuple" (.bi "sortedItems" (.var "table")))) (.bool aj)] m') vs m) (After (run prog (n+28)) [.ret (.bi "sorted" (.var "substs"))] λr s=>Q (yZ r.1) s) s2:=by
  intro ts
  induction ts with
  |nil=>intro vs m s2 done _ _ e oM hm hd al qI;cases al;rw[List.map_nil,lr] at qI;subst qI;rcases uS so with⟨k1,k2⟩;exact jB oM (dZ (fm (aN hm (ze hd k1<|az k2<|q _ _ (e.trans (bM.push _ _)) e.len (bF _ _)))))
  |cons τ ts ih=>
   intro vs m s2 done hg hz e oM hm hd al qI;refine kS al.inv λv vs1 Wl d Yl=>?_;subst Wl;refine jj d λb Wm zE hb=>?_;subst Wm;rcases hg τ (.head _) with⟨g1,g2⟩;have dl:=AV done [];simp at dl hz;refine hV oM (bK ac (bV (v3 (th (aN hm (Ku ac hb g1 g2 (pT (bM.push _ _ _ _ hd) (bZ (lR (lB ac) DO)) (HU g1) (tL (lT dl (lT (bc _ _) hz)) ac) (c6 ?_))))))));have MW:=(bq.mp hd).1;refine ih _ _ _ (done++[pV τ]) (λτ h=>hg τ (.tail _ h)) (by simp;lia) ((e.trans (bM.push _ _)).set (aP _) _) ?_ hm ?_ (Yl.mono λv x h=>Dt.aax (de _) (Dt.ext (bM.push _ _) h)) (by simpa using qI)
   ·refine az (cj (by lia)) ?_;exact bM.push _ _ _ _ oM
   ·rw[hO (by exact az ct (rU _ MW))];unfold qd;exact az xm ac
 exact key _ rs _ s' [] good (by simpa using(lT (rQ (rR R.ok) p [] _) pw)) (e2.trans e') hrs ac (e' _ _ (bM.push _ _ _ _ (bF s _))) al ac
end
noncomputable def cC(g:Gr)(r:ag->ag):af ag:=gV g.T.length λa=>r a==a
theorem me{g:Gr}{r:ag->ag}{c:ag}:c∈cC g r↔ww g r c:=ke.trans (by simp)
theorem oH{g:Gr}{r:ag->ag}(ok:g.Ok):(cC g r).length<=5:=lT (oG _ _) ok.small
noncomputable def nF(nd:V->af V)(p:Tm)(c:ag):af V:=(dh (cF (fX nd p c))).map λu=>.tup [.int c,u]
theorem HW{l:af V}(h:cZ l=aj):l.length<64:=by simp only[cZ,cY,di] at h;exact h.1.1.1.2
section
variable{g:Gr}{r:ag->ag}{x:St}
theorem wx{p:Tm}{wv n:ag}{s:af O}{Q:V->af O->Prop}(R:RO g r x s)(W:Wk s wv)(sh:p.short)(pw:p.wt<=100000)(pl:p.lv<=60)(so:∀c,ww g r c->cZ (cF (fX (fI g r) p c))=aj)(hn:150+14*p.ht<=n)(q:∀s' a,bM s s'->s.length<=a->s'[a]?=ae (.list ((cC g r).flatMap (nF (fI g r) p)))->Q (.ref a) s'):Wp ((run prog n).cl "Walker" "found" [.ref wv,p.enc]) Q s:=by
 obtain⟨n,rfl⟩:∃k,n=k+20:=⟨n-20,A7 ‹_› ac⟩;refine bH W.at_ λwd w1 w2=>?_;have sl:∀c,ww g r c->(dh (cF (fX (fI g r) p c))).length<=64:=λc hc=>by refine az ((cz _).length_eq) ?_;exact bz (HW (so c hc))
 have eq:(nats (cC g r)).flatMap (λv=>match v with|.int j=>nF (fI g r) p j.toNat|_=>[])=(cC g r).flatMap (nF (fI g r) p):=fj _ _ _;refine cN (pf:=qk) ac ac (dZ (fW Dv Dv.rM (eS (iu (eU ac w1 w2 ac ⟨_,_,_,_,ac,R.h _ _ ac,R.h _ _ ac,ac,aT (uP R.h R.U (fK (lT (bc _ _) hn) ac) λs' e' vX=>⟨_,_,ac,vX,vX,oD (R.h.trans e'),λv=>match v with|.int j=>nF (fI g r) p j.toNat|_=>[],?_,?_,?_⟩)⟩)))))
 ·show((nats (cC g r)).flatMap _).length<=_;refine az eq<|lT (fF (k:=64) λc hc=>?_) (tB (mR (oH (r:=r) R.ok)) ac);unfold nF;rw[be];exact sl c (me.mp hc)
 ·intro v hv s2 e2 pR;refine bH (eO hv) λc hc z1=>?_;subst z1;have hc:=me.mp hc;have e3:=e'.trans e2;have W3:=W.mono e3;refine bH W3.at_ λwd3 w31 w32=>oC Dv.rM ac (eS (kd ac w31 w32 ac (aH (aN ac (aH (aN ac (aT (FV (R.mono e3) W3 sh pw pl hc (so c hc) (fL (d:=16) hn ac) λs4 a e4 ha h4=>⟨a,_,ac,h4,e4,λq=>aV (lR pR ha) (by refine az q ?_;exact bS _),h4,λu=>[.tup [.int c,u]],(bO _ _).symm,?_⟩))))))));intro u hu s5 f5;exact dj (DI (R.h.trans e')) ac (dD ⟨bM.refl _,eN (aH (aN ac (aH (aN ac (aT ⟨bM.refl _,_,ac,λ_ _=>ac⟩)))))⟩)
 ·intro s5 rs e5 ha al;have j1:=al.eq.trans eq;subst j1;exact q s5 _ (e'.trans e5) e'.len ha
noncomputable abbrev Row:=af V×Tb
structure Jt(s:af O)(jv wv:ag):Prop where
 at_:∃jd,s[jv]?=ae (.inst "Joint" jd)/\s[jd]?=ae (.ns [("heap",.ref 5),("walker",.ref wv)])
theorem Jt.mono{s s':af O}{jv wv:ag}(h:Jt s jv wv)(e:bM s s'):Jt s' jv wv:=bH (h.at_) λwd a b=>⟨wd,e _ _ a,e _ _ b⟩
noncomputable def Dr(lo:ag)(s:af O)(v:V)(ρ:Row):Prop:=∃b:ag,v=.tup [.tup ρ.1,.ref b]/\lo<=b/\s[b]?=ae (.dict ρ.2)
theorem Dr.rM{lo:ag}:Xp (Dr lo):=λa s s' v τ f h₀=>jj h₀ λb e l h=>⟨b,e,l,f.dict h⟩
theorem Dr.ext{lo:ag}{s s':af O}(e:bM s s'){v:V}{ρ:Row}(h:Dr lo s v ρ):Dr lo s' v ρ:=let⟨b,a,l,c⟩:=h;⟨b,a,l,e _ _ c⟩
noncomputable def HX(nd:V->af V)(p:Tm)(ρ:Row)(c:ag):af Row:=(ext nd p ρ.2 (.int c)).map λτ=>(ρ.1++[.int c],τ)
noncomputable def r0(nd:V->af V)(C:af ag)(rows:af Row)(p:Tm):af Row:=rows.flatMap λρ=>C.flatMap (HX nd p ρ)
structure sy(ρ:Row)(lv tl:ag):Prop where
 tb:iI ρ.2
 len:ρ.2.length+lv<=63
 vA:∀v∈ρ.1,∃j:ag,v=.int j
 many:ρ.1.length+tl<=1000
theorem HY{p:Tm}{ρ:Row}{lo c jv wv b n:ag}{m:Env}{s:af O}{Q:V->af O->Prop}(R:RO g r x s)(W:Wk s wv)(J:Jt s jv wv)(sh:p.short)(pw:p.wt<=100000)(ok:sy ρ p.lv 1)(hc:ww g r c)(zE:lo<=b)(hb:s[b]?=ae (.dict ρ.2))(m1:m "self"=ae (.ref jv))(m2:m "told"=ae (.tup ρ.1))(m3:m "table"=ae (.ref b))(m4:m "c"=ae (.int c))(m5:m "pattern"=ae p.enc)(hn:110+14*p.ht<=n)(q:∀s' a rs,bM s s'->s.length<=a->s'[a]?=ae (.list rs)->fb (Dr lo s') rs (HX (fI g r) p ρ c)->Q (.ref a) s'):Wp ((run prog n).ev (.comp (.tup [(.bin .add (.var "told") (.tup [(.var "c")])),(.var "late")]) [.mk ["late"] (.seq (.cu (.attr (.var "self") "walker") "extended" [(.var "table"),(.var "c"),(.var "pattern")])) []]) m) Q s:=by
 obtain⟨n,rfl⟩:∃k,n=k+8:=⟨n-8,A7 ‹_› ac⟩;refine bH J.at_ λjd j1 j2=>bH W.at_ λwd w1 w2=>fW (Dr lo) Dr.rM (eS (iu (eU m1 j1 j2 ac ⟨_,_,_,_,ac,w1,w2,ac,aH (aN m3 (aH (aN m4 (aH (aN m5 (aT<|Kt (p.ht+1) p (de _) sh (tB pw ac) s lo wv b ρ.2 c _ _ R W zE hb ok.tb (by have Qr:=ok.len;exact tB Qr ac) hc (fL hn ac) λs' a rs e' ha vX al=>⟨a,rs,ac,vX,vX,oD (R.h.trans e'),HS s' λτ=>[(ρ.1++[.int c],τ)],?_,?_,?_⟩))))))⟩)))
 ·refine az (mH _ al) ?_;rewrite[bO,be];exact lT (rQ (rR (r:=r) R.ok) p ρ.2 (.int c)) (tB pw ac)
 ·intro v hv s2 e2 pR;refine bH (al.mem hv) λτ rT d=>az (uR _ d)<|jj d λb' z2 l' h'=>?_;subst z2;refine dj (DI (R.h.trans e')) ac (dD ⟨bM.refl _,eN (aH (gh (aN m2 (eN (aH (aN m4 (aT (rO ?_ (aH (aN ac (aT ⟨bM.refl _,_,ac,λs3 f3=>⟨b',ac,l',f3.dict (e2 _ _ h')⟩⟩)))))))))))⟩);have ZR:=ok.many;exact tB ZR ac
 ·intro s5 rs5 e5 ha5 ZS;rw[mH _ al,bO] at ZS;exact q s5 _ rs5 (e'.trans e5) e'.len ha5 ZS
end
structure E6(m:Env)(jv fa:ag)(p:Tm):Prop where
 self:m "self"=ae (.ref jv)
 pattern:m "pattern"=ae p.enc
 found:m "found"=ae (.ref fa)
noncomputable abbrev Mi(n:ag)(v:V)(m:Env):P (Flow×Env):=bP (bindTo m ["c"] v) λm'=>(run prog n).ex [.expr (.cu (.var "found") "extend" [(.comp (.tup [(.bin .add (.var "told") (.tup [(.var "c")])),(.var "late")]) [(.mk ["late"] (.seq (.cu (.attr (.var "self") "walker") "extended" [(.var "table"),(.var "c"),(.var "pattern")])) [])])])] m'
noncomputable abbrev Ue(n:ag)(v:V)(m:Env):P (Flow×Env):=bP (bindTo m ["told","table"] v) λm'=>(run prog n).ex [.loop ["c"] (.seq (.cu (.attr (.var "self") "heap") "classes" [])) [.expr (.cu (.var "found") "extend" [(.comp (.tup [(.bin .add (.var "told") (.tup [(.var "c")])),(.var "late")]) [(.mk ["late"] (.seq (.cu (.attr (.var "self") "walker") "extended" [(.var "table"),(.var "c"),(.var "pattern")])) [])])])]] m'
section
variable{g:Gr}{r:ag->ag}{x:St}
theorem HZ{n jv wv b lo ca:ag}{p:Tm}{ρ:Row}{s:af O}{all:af V}{Rr:Flow×Env->af O->Prop}(R:RO g r x s)(W:Wk s wv)(J:Jt s jv wv)(sh:p.short)(pw:p.wt<=100000)(ok:sy ρ p.lv 1)(zE:lo<=b)(hb:s[b]?=ae (.dict ρ.2))(hn:110+14*p.ht<=n)(PJ:s.length<ca):∀(cs:af ag)(m:Env)(s2:af O)(done:af Row)(rs:af V),(∀c∈cs,ww g r c)->bM s s2->s2[ca]?=ae (.list all)->E6 m jv s.length p->m "told"=ae (.tup ρ.1)->m "table"=ae (.ref b)->s2[s.length]?=ae (.list rs)->fb (Dr lo s2) rs done->done.length+(cs.flatMap (HX (fI g r) p ρ)).length<=16777216->(∀m' s' nU,E6 m' jv s.length p->bM s s'->Fa s.length s2 s'->s'[s.length]?=ae (.list nU)->fb (Dr lo s') nU (done++cs.flatMap (HX (fI g r) p ρ))->Rr (.next,m') s')->Wp (c9 ⟨all,.list ca all⟩ (Mi (n+3)) (nats cs) m) Rr s2:=by
 intro l0;induction l0 with
 |nil=>exactλm s2 done rs _ e hc E _ _ hs al _ K=>jB hc (K m s2 rs E e (Fa.refl _ _) hs (by simpa using al))
 |cons c cs ih=>intro m s2 done rs hr e hc E mt mb hs al hz K;rw[eZ,ct] at hz;have DO:=MX R.h;refine hV hc (bK ac (bV (fE (eG (aN E.found ⟨_,_,ac,hs,.inl ac,aH<|HY (R.mono e) (W.mono e) (J.mono e) sh pw ok (hr c (.head _)) zE (e _ _ hb) E.self mt mb ac E.pattern (lT hn (bc _ _)) λs' a nU e' ha vX AU=>aT ⟨⟨_,e' _ _ hs,ac⟩,?_⟩⟩)))));have hf:=e' _ _ hs;have l1:=al.len;have lt:=(bq.mp hs).1;have fa:=Fa.set (l':=rs++nU) hf;refine rS hf vX (b8 (lR lt ha)) (bZ (lR (lB ac) DO)) (lT (aE (bJ l1) (AU.len▸bc _ _)) hz) ⟨bp,c6<|ih _ _ (done++HX (fI g r) p ρ c) (rs++nU) (λc h=>hr c (.tail _ h)) ((e.trans e').set (aP _) _) (fa.ne (e' _ _ hc) (bZ ‹_›)) ⟨E.self,E.pattern,E.found⟩ mt mb (hO (bq.mp hf).1 _) (((al.mono λv x h=>Dr.ext e' h).Yc AU).mono λv x h=>Dr.rM _ _ _ _ _ fa h) (by refine az ct ?_;lia) λm' s3 rs3 E3 e3 f3 h3 al3=>K m' s3 rs3 E3 e3 (((e'.fa _).trans fa).trans f3) h3 (by(refine az eZ ?_;rewrite[<-mx]);exact al3)⟩
theorem PK{n jv wv lo ra:ag}{p:Tm}{s:af O}{all:af V}{Rr:Flow×Env->af O->Prop}(R:RO g r x s)(W:Wk s wv)(J:Jt s jv wv)(sh:p.short)(pw:p.wt<=100000)(hn:110+14*p.ht<=n)(Ef:s[ra]?=ae (.list all)):∀(rows:af Row)(vs:af V)(m:Env)(s2:af O)(done:af Row)(rs:af V),(∀ρ∈rows,sy ρ p.lv 1)->fb (Dr lo s) vs rows->bM s s2->E6 m jv s.length p->s2[s.length]?=ae (.list rs)->fb (Dr lo s2) rs done->done.length+(r0 (fI g r) (cC g r) rows p).length<=16777216->(∀m' s' nU,E6 m' jv s.length p->bM s s'->s'[s.length]?=ae (.list nU)->fb (Dr lo s') nU (done++r0 (fI g r) (cC g r) rows p)->Rr (.next,m') s')->Wp (c9 ⟨all,.list ra all⟩ (Ue (n+5)) vs m) Rr s2:=by
 intro l0;induction l0 with
 |nil=>intro vs m s2 done rs _ av e E hs al _ K;cases av;exact jB (e _ _ Ef) (K m s2 rs E e hs (by simpa[r0] using al))
 |cons ρ rows ih=>
  intro vs m s2 done rs hr av e E hs al hz K;refine kS av.inv λv vs1 z1 d av2=>?_;subst z1;refine jj d λb z2 zE hb=>?_;subst z2;have ZT:done.length+(((cC g r).flatMap (HX (fI g r) p ρ)).length+(r0 (fI g r) (cC g r) rows p).length)<=16777216:=by refine dm ct ?_;exact hz
  have R2:=R.mono e;refine bH ((J.mono e).at_) λjd j1 j2=>?_;have lt:=(bq.mp hs).1;refine hV (e _ _ Ef) (bK ac (bV (jh (eS (iu (eU E.self j1 j2 ac ⟨_,_,_,_,ac,R2.h _ _ ac,R2.h _ _ ac,ac,aT (uP R2.h R2.U (eY (lT (eY (lB ac)) hn)) λs3 e3 h3=>⟨_,_,ac,h3,HZ R W J sh pw (hr ρ (.head _)) zE hb (lT hn (bc _ _)) lt _ _ s3 done rs (λc h=>me.mp h) (e.trans e3) h3 ⟨E.self,E.pattern,E.found⟩ ac ac (e3 _ _ hs) (al.mono λv x h=>Dr.ext e3 h) (by show done.length+((cC g r).flatMap _).length<=_;exact lT (eD (bc _ _) _) ZT) λm' s4 rs4 E4 e4 _ h4 al4=>c6<|ih vs1 m' s4 _ rs4 (λρ h=>hr ρ (.tail _ h)) av2 e4 E4 h4 al4 ?_ λm5 s5 rs5 E5 e5 h5 ZS=>K m5 s5 rs5 E5 e5 h5 ?_⟩)⟩))))))
  ·refine az ct ?_;show done.length+((cC g r).flatMap _).length+_<=_;lia
  ·rw[mx] at ZS;exact ZS
theorem uT{jv wv lo ra n:ag}{p:Tm}{rows:af Row}{all:af V}{s:af O}{Q:V->af O->Prop}(R:RO g r x s)(W:Wk s wv)(J:Jt s jv wv)(sh:p.short)(pw:p.wt<=100000)(hr:∀ρ∈rows,sy ρ p.lv 1)(Ef:s[ra]?=ae (.list all))(av:fb (Dr lo s) all rows)(hz:(r0 (fI g r) (cC g r) rows p).length<=16777216)(hn:120+14*p.ht<=n)(q:∀s' a rs,bM s s'->s.length<=a->s'[a]?=ae (.list rs)->fb (Dr lo s') rs (r0 (fI g r) (cC g r) rows p)->Q (.ref a) s'):Wp ((run prog n).cl "Joint" "extended" [.ref jv,.ref ra,p.enc]) Q s:=by obtain⟨n,rfl⟩:∃k,n=k+7:=⟨n-7,A7 ‹_› ac⟩;have e1:=bM.push s (O.list []);refine cN (pf:=nZ) ac ac (c8 (et (aT ⟨by decide,jh (eS (aN ac ⟨ra,all,ac,e1 _ _ Ef,PK R W J sh pw (fL (d:=0) hn ac) Ef rows all _ _ [] [] hr av e1 ⟨ac,ac,ac⟩ (bF s _) .nil (by exact bL hz) λm' s' nU E' e' h' AU=>dZ (aN E'.found (q s' _ nU e' (aP _) h' (‹_›)))⟩))⟩)))
end
theorem FW{τ:Tb}(h:iI τ)(k:ag):V.ej (k+1) (dh (cO τ))=aj:=by
 have j1:∀l:af V,(∀v∈l,∃(z:aM)(j:ag),v=.tup [.str z,.int j])->V.ej (k+1) l=aj:=by
  intro l;induction l with
  |nil=>intro _;rfl
  |cons v l ih=>intro h;refine sE (h v (.head _)) λz j z1=>?_;subst z1;refine(ih λu hu=>h u (.tail _ hu)).trans ?_;induction k<;>rfl
 refine j1 _ λv hv=>bH (bt.mp ((cz _).subset hv)) λp hp z2=>?_;subst z2;exact sE (h.kv p hp) λz j z3=>z3▸⟨z,j,ac⟩
theorem H0{l:af V}(h:∀v∈l,∃j:ag,v=.int j)(k:ag):V.ej k l=aj:=by
 induction l with
 |nil=>rfl
 |cons v l ih=>refine eh (h v (.head _)) λj z4=>?_;subst z4;refine(ih λu hu=>h u (.tail _ hu)).trans ?_;induction k<;>rfl
noncomputable def DS(ρ:Row):V:=.tup [.tup ρ.1,pV ρ.2]
theorem Mj{ρ:Row}{a b:ag}(h:sy ρ a b):(DS ρ).pure=aj:=by show(V.ej 6 ρ.1&&(V.ej 6 (dh (cO ρ.2))&&aj))=aj;rewrite[H0 h.vA];refine az (FW h.tb 5) ?_;rfl
noncomputable def Xw:af Tm->ag
 |[]=>0
 |p::ps=>p.lv+Xw ps
noncomputable def jw:af Tm->ag
 |[]=>1
 |p::ps=>(5*p.wt)*jw ps
theorem Xx:∀ps,1<=jw ps:=by
 intro l0;induction l0 with
 |nil=>exact aP _
 |cons p ps ih=>exact uQ (by have j1:=tn p;exact bT (mL j1) ac:1<=5*p.wt) (ih)
noncomputable def iS(nd:V->af V)(C:af ag)(rows:af Row)(ps:af Tm):af Row:=ps.foldl (r0 nd C) rows
section
variable{g:Gr}{r:ag->ag}{x:St}
theorem PL(ok:g.Ok)(rows:af Row)(p:Tm):(r0 (fI g r) (cC g r) rows p).length<=rows.length*(5*p.wt):=
 fF λρ _=>lT (fF λc _=>by unfold HX;rw[be];exact rQ (rR ok) p _ _) (qM _ (oH ok))
theorem Ug(ok:g.Ok)(le:∀i,r i<=i)(id:∀i,r (r i)=r i){rows:af Row}{p:Tm}{a b:ag}(h:∀ρ∈rows,sy ρ (p.lv+a) (b+1)):∀ρ∈r0 (fI g r) (cC g r) rows p,sy ρ a b:=λρ LX=>by
 refine bH (dg.mp LX) λsA h0 LX=>bH (dg.mp LX) λc hc LX=>bH (bt.mp LX) λτ rT z5=>?_;subst z5;have k:=h sA h0;rcases DN (mG ok le id) p sA.2 c k.tb τ rT with⟨e1,e2⟩;have:=k.len;have:=k.many;refine⟨e1,by show τ.length+a<=63;lia,λv hv=>?_,by show(sA.1++[V.int c]).length+b<=1000;simp;lia⟩;rcases cR.mp hv with q|q
 ·exact k.vA v q
 ·exact⟨c,bX.mp ‹_›⟩
theorem mI{ps:af Tm}{jv wv pa n H:ag}{s:af O}{Q:V->af O->Prop}(R:RO g r x s)(W:Wk s wv)(J:Jt s jv wv)(hp:∀p∈ps,p.short/\p.wt<=100000/\p.ht<=H)(Kv:s[pa]?=ae (.list (ps.map Tm.enc)))(hl:Xw ps<=63)(hm:ps.length<=900)(hw:jw ps<=16777216)(so:cZ (cF ((iS (fI g r) (cC g r) [([],[])] ps).map DS))=aj)(hn:130+14*H<=n)(q:∀s' a,bM s s'->s.length<=a->s'[a]?=ae (.list (dh (cF ((iS (fI g r) (cC g r) [([],[])] ps).map DS))))->Q (.ref a) s'):Wp ((run prog n).cl "Joint" "found" [.ref jv,.ref pa]) Q s:=by
 obtain⟨n,rfl⟩:∃k,n=k+10:=⟨n-10,A7 ‹_› ac⟩;have e2:=(bM.push s (O.dict [])).trans (bM.push _ (O.list [.tup [.tup [],.ref s.length]]));have DO:=MX R.h;refine cN (pf:=sf) ac ac (c8 (et (aH (eN (aH (eN (aT (aH (nA (aT (aT ⟨by exact lB ac,jh (eS (aN ac ⟨pa,_,ac,e2 _ _ Kv,?_⟩))⟩)))))))))));have fin:∀(all:af V)(rows:af Row)(ra:ag)(s1:af O)(m:Env),bM s s1->(∀ρ∈rows,sy ρ 0 0)->rows.length<=16777216->s1[ra]?=ae (.list all)->fb (Dr 0 s1) all rows->m "rows"=ae (.ref ra)->iS (fI g r) (cC g r) [([],[])] ps=rows->
   Wp (dY (run prog (n+8)) [.assign (.name "found") .kT,.loop ["told","table"] (.seq (.var "rows")) [.assign (.idx (.var "found") (.tup [(.var "told"),(.bi "tuple" (.bi "sortedItems" (.var "table")))])) (.bool aj)],.ret (.bi "sorted" (.var "found"))] m) (λr s=>Q (yZ r.1) s) s1:=by
  intro all rows ra s1 m e hr hz Ef av hm FX
  rw[FX] at so q
  have f1:=bM.push s1 (O.dict [])
  have hp1:s1.length≠0:=by have Qr:=e.len;exact bZ (lR (lR (lB ac) DO) Qr)
  refine c8 (nA (jh (eS (aN hm ⟨ra,all,ac,f1 _ _ Ef,?_⟩))))
  have key:∀(rest:af Row)(vs:af V)(m:Env)(s2:af O)(done:af V),(∀ρ∈rest,sy ρ 0 0)->done.length+rest.length<=16777216->bM s1 s2->m "found"=ae (.ref s1.length)->s2[s1.length]?=ae (.dict (qd done []))->fb (Dr 0 s1) vs rest->done++rest.map DS=rows.map DS->
    Wp (c9 ⟨all,.list ra all⟩ (λv m=>bP (bindTo m ["told","table"] v) λm'=>(run prog (n+8)).ex [.assign (.idx (.var "found") (.tup [(.var "told"),(.bi "tuple" (.bi "sortedItems" (.var "table")))])) (.bool aj)] m') vs m) (After (run prog (n+8)) [.ret (.bi "sorted" (.var "found"))] λr s=>Q (yZ r.1) s) s2:=by
   intro rest
   induction rest with
   |nil=>intro vs m s2 done _ _ e' hm hd av qI;cases av;replace qI:=List.map_nil▸qI;rewrite[lr] at qI;subst qI;rcases uS so with⟨k1,k2⟩;exact jB (e' _ _ Ef) (dZ (fm (aN hm (ze hd k1<|az k2 (q _ _ (e.trans (e'.trans (bM.push _ _))) (e.trans e').len (bF _ _))))))
   |cons ρ rest ih=>intro vs m s2 done hg hz e' hm hd av qI;refine kS av.inv λv vs1 z6 d av2=>?_;subst z6;refine jj d λb z7 _ hb=>?_;subst z7;have g1:=hg ρ (.head _);have dl:=AV done [];simp at dl hz;refine hV (e' _ _ Ef) (bK ac (bV (v3 (th (aN hm (eN (aH (aN ac (aH (Ku ac (e' _ _ hb) g1.tb (by have ZR:=g1.len;exact tL (lT (bc _ _) ZR) ac) (aT (pT (bM.push _ _ _ _ hd) hp1 (Mj g1) (by lia) (c6 ?_)))))))))))));have MW:=(bq.mp hd).1;refine ih _ _ _ (done++[DS ρ]) (λτ h=>hg τ (.tail _ h)) (by simp;lia) ((e'.trans (bM.push _ _)).set (aP _) _) hm ?_ av2 (by simpa using qI);rw[hO (by exact az ct (rU _ MW))];unfold qd;exact az xm ac
  exact key rows all _ _ [] hr (by exact bL hz) f1 ac (bF _ _) av ac
 have key:∀(rest:af Tm)(m:Env)(s2:af O)(rows:af Row)(all:af V)(ra:ag),(∀p∈rest,p.short/\p.wt<=100000/\p.ht<=H)->bM s s2->m "self"=ae (.ref jv)->m "rows"=ae (.ref ra)->s2[ra]?=ae (.list all)->fb (Dr 0 s2) all rows->(∀ρ∈rows,sy ρ (Xw rest) rest.length)->rows.length*jw rest<=16777216->iS (fI g r) (cC g r) rows rest=iS (fI g r) (cC g r) [([],[])] ps->
   Wp (c9 ⟨ps.map Tm.enc,.list pa (ps.map Tm.enc)⟩ (λv m=>bP (bindTo m ["pattern"] v) λm'=>(run prog (n+8)).ex [.assign (.name "rows") (.cu (.var "self") "extended" [(.var "rows"),(.var "pattern")])] m') (rest.map Tm.enc) m) (After (run prog (n+8)) [.assign (.name "found") .kT,.loop ["told","table"] (.seq (.var "rows")) [.assign (.idx (.var "found") (.tup [(.var "told"),(.bi "tuple" (.bi "sortedItems" (.var "table")))])) (.bool aj)],.ret (.bi "sorted" (.var "found"))] λr s=>Q (yZ r.1) s) s2:=by
  intro rest
  induction rest with
  |nil=>intro m s2 rows all ra _ e m1 m2 Ef av hr hz FX;exact jB (e _ _ Kv)<|fin all rows ra s2 m e hr (by simpa[jw] using hz) Ef av m2 FX.symm
  |cons p rest ih=>
   intro m s2 rows all ra hp e m1 m2 Ef av hr hz FX;refine qg (hp p (.head _)) λp1 p2 p3=>bH ((J.mono e).at_) λjd j1 j2=>?_;have hj:=Xx rest;have hz2:(r0 (fI g r) (cC g r) rows p).length*jw rest<=16777216:=by refine lT (qM _ (PL (r:=r) R.ok rows p)) ?_;rw[DP];exact hz
   exact hV (e _ _ Kv) (bK ac (bV (c8 (kd m1 j1 j2 ac (aH (aN m2 (aH (aN ac (aT<|uT (R.mono e) (W.mono e) (J.mono e) p1 p2 (λρ h=>⟨(hr ρ h).tb,by have j3:=(hr ρ h).len;unfold Xw at j3;exact lT (eD (bc _ _) _) j3,(hr ρ h).vA,by have j4:=(hr ρ h).many;simp at j4;exact lT (eD (gU _ _) _) j4⟩) Ef av (lT (xP _ hj) hz2) (by lia) λs' a rs e' ha vX AU=>c6<|ih _ s' _ rs a (λp h=>hp p (.tail _ h)) (e.trans e') m1 ac vX AU (Ug R.ok R.U.le R.U.ji (λρ h=>hr ρ h)) hz2 FX)))))))))
 refine key ps _ _ [([],[])] [.tup [.tup [],.ref s.length]] _ hp e2 ac ac (bF _ _) (.cons ⟨s.length,ac,bR _,bM.push _ _ _ _ (bF s _)⟩ .nil) (λρ h=>?_) (by exact mL hw) ac;simp at h;subst h;exact⟨⟨λ_ h=>by simp at h,fh⟩,by simpa using hl,λ_ h=>by simp at h,by simp;lia⟩
end
theorem DT:∀{p q:Tm},p.enc=q.enc->p=q:=by
 have no:∀{u v:V},u=v->u.mem.length≠v.mem.length->∀{P:Prop},P:=λe n=>aV (e▸ac) n;intro p;induction p with
 |leaf a=>
  intro q h;cases q with
  |leaf b=>exact bf Tm.leaf (V.str.inj (fk (V.tup.inj h)).1)
  |f=>exact no h (nofun:¬1=2)
  |g=>exact no h (nofun:¬1=3)
 |f a ih=>
  intro q h;cases q with
  |leaf=>exact no h (nofun:¬2=1)
  |f b=>exact bf Tm.f (ih (fk (fk (V.tup.inj h)).2).1)
  |g=>exact no h (nofun:¬2=3)
 |g a b ia ib=>
  intro q h;cases q with
  |leaf=>exact no h (nofun:¬3=1)
  |f=>exact no h (nofun:¬3=2)
  |g c d=>have h:=fk (fk (V.tup.inj h)).2;exact congr (bf Tm.g (ia h.1)) (ib (fk h.2).1)
open Classical in
noncomputable def iF(v:V):Tm:=if h:∃p:Tm,p.enc=v then h.choose else .leaf ⟨#[]⟩
theorem gj(p:Tm):iF p.enc=p:=by have h:∃q:Tm,q.enc=p.enc:=⟨p,ac⟩;unfold iF;exact az (tO h) (DT h.choose_spec)
theorem kG{α:Type}(f:Tm->af α)(l:af Tm):(l.map Tm.enc).flatMap (λv=>f (iF v))=l.flatMap f:=by rw[fj];exact iR λp _=>by rw[gj]
noncomputable def Tm.parts:Tm->af Tm
 |.leaf z=>[.leaf z]
 |.f t=>t.parts++[.f t]
 |.g t u=>t.parts++u.parts++[.g t u]
theorem mJ(p:Tm):p.parts=p.kids.flatMap Tm.parts++[p]:=by induction p<;>simp[Tm.parts,Tm.kids]
theorem wy{α β:Type}{f:α->af β}{l:af α}{a:α}(h:a∈l):(f a).length<=(l.flatMap f).length:=by
 induction l with
 |nil=>cases h
 |cons x xs ih=>
  refine az eZ<|az ct ?_;rcases ci.mp h with rfl|h
  ·exact bc _ _
  ·have j1:=ih h;exact lT j1 (gU _ _)
theorem pX:∀(k:ag)(p:Tm),p.ht<k->p.parts.length<=1000000->∀(s:af O)(n:ag)(Q:V->af O->Prop),s≠[]->12+8*p.ht<=n->(∀s' a,bM s s'->s.length<=a->s'[a]?=ae (.list (p.parts.map Tm.enc))->Q (.ref a) s')->Wp ((run prog n).cl "" "_law_all_parts" [p.enc]) Q s:=by
 intro l0;induction l0 with
 |zero=>exactλp h _ _ _ _ _ _ _=>aV h (fM _)
 |succ k ih=>
  intro p hk hp s n Q ne hn q;obtain⟨n,rfl⟩:∃k,n=k+12:=⟨n-12,A7 ‹_› ac⟩;have e:=mJ p;have pl:(p.kids.flatMap Tm.parts).length+1<=1000000:=by rw[e,ct] at hp;exact hp
  have sp:(p.kids.map Tm.enc).flatMap (λv=>(iF v).parts.map Tm.enc)=(p.kids.flatMap Tm.parts).map Tm.enc:=by rewrite[kG λt=>t.parts.map Tm.enc];exact az Kw ac
  refine cN (pf:=p8) ac ac (dZ (gh (fW Dv Dv.rM (v5 (lW (aN (v:=.tup (.str p.op::p.kids.map Tm.enc)) (bf ae (kg p)) (kc (l:=p.kids.map Tm.enc) (by rw[be];exact tL (hU p) ac) ⟨_,ac,bp,ne,λv=>(iF v).parts.map Tm.enc,?_,?_,?_⟩)))))))
  ·show((p.kids.map Tm.enc).flatMap _).length<=_;refine az sp ?_;rewrite[be];exact tB (lT (bc _ _) pl) ac
  ·intro v hv s2 e2 pR;refine bH (bt.mp hv) λt ht z1=>?_;subst z1;refine X5 (qH ht) λk1 _ _ _=>?_;have tl:=wy (f:=Tm.parts) ht;rw[gj];refine oC Dv.rM ac (eS (fT (aH (aN ac (aT<|ih t (lR k1 (b9 hk)) (lT tl (lT (bc _ _) pl)) s2 _ _ (λq=>by replace pR:=q▸pR;exact fM _ pR) (by lia) λs3 a e3 ha h3=>⟨a,_,ac,h3,e3,λq=>aV (lR pR ha) (by refine az q ?_;exact bS _),h3,λu=>[u],by rw[bO,List.map_id'],?_⟩)))));intro u hu s5 f5;exact dj (by intro q;exact ne (dM.mp q)) ac (dD ⟨bM.refl _,aN ac ⟨bM.refl _,_,ac,λ_ _=>ac⟩⟩)
  ·intro s' rs e' ha al;have j1:=al.eq.trans sp;subst j1;have e2:=bM.push s' (O.list [p.enc]);refine et (aH (aN ac (aT ⟨by exact lB ac,rP (e2 _ _ ha) (bF s' _) (by rw[be];exact lT pl (lB ac))<|q _ _ (e'.trans (e2.trans (bM.push _ _))) (e'.trans e2).len ?_⟩)));rewrite[bF];exact az e<|az iw ac
noncomputable def dk(τ es:Tb):Tm->V
 |.leaf z=>if dU z then(bI (.str z) τ).getD .none else(bI (.tup [.str z]) es).getD (.int (-1))
 |.f p=>(bI (.tup [.str (aB "f"),dk τ es p]) es).getD (.int (-1))
 |.g p q=>(bI (.tup [.str (aB "g"),dk τ es p,dk τ es q]) es).getD (.int (-1))
noncomputable def Uh(τ:Tb):Tm->Prop
 |.leaf z=>dU z=aj->∃j:ag,bI (.str z) τ=ae (.int j)
 |.f p=>Uh τ p
 |.g p q=>Uh τ p/\Uh τ q
noncomputable def uU(es:Tb):Prop:=∀k v,bI k es=ae v->∃j:ag,v=.int j
theorem DU{es:Tb}(h:uU es)(k:V):∃i:aJ,(bI k es).getD (.int (-1))=.int i:=by
 cases e:bI k es with
 |none=>exact⟨_,ac⟩
 |some v=>refine eh (h k v e) λj z1=>?_;subst z1;exact⟨_,ac⟩
theorem zf{τ es:Tb}(h:uU es):∀{p:Tm},Uh τ p->∃i:aJ,dk τ es p=.int i
 |.leaf z,c=>by
  show∃i:aJ,(if dU z then _ else _)=V.int i
  by_cases q:dU z=aj
  ·refine az (aF q) ?_;refine eh (c q) λj e=>?_;(refine az e ?_;try rfl);exact⟨_,ac⟩
  ·refine az (aG q) ?_;exact DU h _
 |.f p,c=>DU h _
 |.g p q,c=>DU h _
theorem Kx{τ:Tb}{p k:Tm}(c:Uh τ p)(h:k∈p.kids):Uh τ k:=by
 cases p with
 |leaf z=>simp[Tm.kids] at h
 |f t=>simp[Tm.kids] at h;subst h;exact c
 |g t u=>
  simp[Tm.kids] at h;rcases h with rfl|rfl
  ·exact c.1
  ·exact c.2
theorem H3{τ es:Tb}{p:Tm}(h:p.oh=aQ):dk τ es p=(bI (.tup (.str p.op::p.kids.map (dk τ es))) es).getD (.int (-1)):=by
 induction p with
 |leaf z=>exact aG (λe=>cE (h.symm.trans e))
 |f p=>rfl
 |g p q=>rfl
theorem FY{z:aM}{s:af O}{Q:V->af O->Prop}(hz:z.length<=1000)(q:Q (.str ⟨(z.cps.toList.take 1).toArray⟩) s):Wp (x6 (.str z) (.int 1)) Q s:=by refine ny (a:=.str ⟨(z.cps.toList.take 1).toArray⟩) (s:=s) ?_ q;show(if bh ((1:aJ)=1)&&bh (z.length<=1000) then ret _ else fail) s=_;exact az (aF (by exact eu ‹_›)) ac
theorem FZ{p:Tm}(h:p.short):p.op.length<=1000:=by
 induction p with
 |leaf z=>exact h
 |f p=>exact(by decide:(Str.ofString "f").length<=1000)
 |g p q=>exact(by decide:(Str.ofString "g").length<=1000)
theorem PM(p:Tm):dU p.op=p.oh:=by
 induction p with
 |leaf z=>rfl
 |f p=>exact(by decide:dU (Str.ofString "f")=false)
 |g p q=>exact(by decide:dU (Str.ofString "g")=false)
theorem Mk{τ es:Tb}(iv:uU es):∀(k:ag)(p:Tm),p.ht<k->p.short->Uh τ p->∀(s:af O)(b e n:ag)(Q:V->af O->Prop),s≠[]->s[b]?=ae (.dict τ)->s[e]?=ae (.dict es)->14+8*p.ht<=n->(∀s',bM s s'->Q (dk τ es p) s')->Wp ((run prog n).cl "" "_law_stands" [p.enc,.ref b,.ref e]) Q s:=by
 intro l0;induction l0 with
 |zero=>exactλp h _ _ _ _ _ _ _ _ _ _ _ _=>aV h (fM _)
 |succ k ih=>
  intro p hk sh cv s b e n Q ne hb he hn q;obtain⟨n,rfl⟩:∃k,n=k+14:=⟨n-14,A7 ‹_› ac⟩;have kl:=hU p;have hp:∀{n:ag}{m:Env}{K:V->af O->Prop}{s:af O},m "pattern"=ae p.enc->K (.str p.op) s->Wp ((run prog (n+2)).ev (.idx (.var "pattern") (.int 0)) m) K s:=λhm kk=>
   ef (aN (v:=.tup (.str p.op::p.kids.map Tm.enc)) (hm.trans (bf ae (kg p))) (cS (iE (i:=0) ac (by simp;lia) kk)))
  refine cN (pf:=tH) ac ac (ic (dT (vy (hp ac (cS (FY (FZ sh) (gQ (dE ac ⟨_,ac,?_⟩))))))));cases hv:p.oh with
  |true=>
   refine az (aF ((PM p).trans hv)) ?_;induction p with
   |leaf z=>rcases cv hv with⟨j,hj⟩;refine bV (dZ (ef (aN ac (hp ac (lX hb ac hj ?_)))));have j1:=q s (bM.refl s);replace j1:=(show dk τ es (.leaf z)=(bI (.str z) τ).getD .none from aF hv)▸j1;replace j1:=hj▸j1;exact j1
   |_=>exact ff hv
  |false=>
   refine az (aG (by refine az (show((⟨(p.op.cps.toList.take 1).toArray⟩:aM)==aB "?")=aQ from(PM p).trans hv) ?_;exact cE)) ?_;have sp:(p.kids.map Tm.enc).flatMap (λv=>[dk τ es (iF v)])=p.kids.map (dk τ es):=by rw[kG λt=>[dk τ es t],bO]
   refine bV (c6 (dZ (eG (aN ac ⟨e,_,ac,he,.inr ac,aH (gh (eN (aH (hp ac (aT (fm (fW Dv Dv.rM (v5 (lW (aN (v:=.tup (.str p.op::p.kids.map Tm.enc)) (bf ae (kg p)) (kc (l:=p.kids.map Tm.enc) (by rw[be];exact tL kl ac) ⟨_,ac,bp,ne,λv=>[dk τ es (iF v)],?_,?_,?_⟩)))))))))))⟩))))
   ·show((p.kids.map Tm.enc).flatMap _).length<=_;refine az sp ?_;rewrite[be];exact tB kl ac
   ·intro v Ob s2 e2 pR;refine bH (bt.mp Ob) λt ht z2=>?_;subst z2;refine X5 (qH ht) λk1 _ _ k2=>?_;rw[gj];exact dj (by intro q;exact ne (dM.mp q)) ac (dD ⟨bM.refl _,fT (aH (aN ac (aH (aN ac (aH (aN ac (aT<|ih t (lR k1 (b9 hk)) (k2 sh) (Kx cv ht) s2 b e _ _ (λq=>by replace pR:=q▸pR;exact fM _ pR) (e2 _ _ hb) (e2 _ _ he) (by lia) λs3 e3=>⟨e3,_,ac,λ_ _=>ac⟩)))))))⟩)
   ·intro s' rs e' ha al;have j2:=al.eq.trans sp;subst j2;refine kF ha (by rw[be];exact tB kl ac) (rO (by simp;lia) (aH (Pn (cS ⟨1,ac,ac,aT ⟨⟨_,e' _ _ he,ac⟩,Ks (e' _ _ he) ?_ ?_⟩⟩))))
    ·show(aj&&V.ej 7 (p.kids.map (dk τ es)))=aj;rw[Xq];refine i9 λt ht=>eh (zf iv (Kx cv ht)) λi hi=>az hi ?_;rfl
    ·have j3:=q s' e';exact((H3 hv)▸j3)
theorem F0{k v:V}:∀{τ:Tb},k∉τ.map (·.1)->du k v τ=τ++[(k,v)]:=by
 intro l0;induction l0 with
 |nil=>exactλ_=>ac
 |cons oo τ ih=>obtain⟨a,w⟩:=oo;intro h;simp at h;refine az kj ?_;rw[aG (λq=>h.1 (V.eq_of_beq _ _ q).symm),ih (by simpa using h.2)];rfl
theorem F1:∀(τ d:Tb),((d++τ).map (·.1)).Nodup->τ.foldl (λd p=>du p.1 p.2 d) d=d++τ:=by
 intro l0;induction l0 with
 |nil=>exactλd _=>by simp
 |cons oo τ ih=>
  obtain⟨k,v⟩:=oo;intro d h;have hk:k∉d.map (·.1):=λm=>by rw[iw,lK] at h;exact h.2.2 k m k (.head _) ac
  show τ.foldl (λd p=>du p.1 p.2 d) (du k v d)=_;exact az (F0 hk)<|az (ih _ (by simpa using h))<|List.append_assoc ..
theorem H4{τ:Tb}(h:iI τ)(k v:V):dictOf (τ++[(k,v)])=du k v τ:=by unfold dictOf;exact az xm<|az (F1 τ [] (by simpa using h.once)) ac
theorem H5(a b:V):∀τ:Tb,pairsOf (cO τ++[.tup [a,b]])=ae (τ++[(a,b)]):=by
 intro l0;induction l0 with
 |nil=>exact ac
 |cons oo τ ih=>obtain⟨k,v⟩:=oo;show(pairsOf (cO τ++[.tup [a,b]])).map ((k,v)::·)=_;rw[ih];rfl
noncomputable def uV(C:af ag)(z:aM)(ts:af Tb):af Tb:=ts.flatMap λτ=>C.map λ(c:ag)=>du (.str z) (.int c) τ
noncomputable def tabs(C:af ag):af aM->af Tb->af Tb
 |[],ts=>ts
 |z::zs,ts=>tabs C zs (uV C z ts)
theorem v8(C:af ag)(hC:C.length<=5)(z:aM)(ts:af Tb):(uV C z ts).length<=ts.length*5:=fF λτ _=>by rw[be];exact hC
theorem F3{C:af ag}{z:aM}{ts:af Tb}{rs:af V}{fa la n:ag}{m:Env}{s:af O}{Q:V->af O->Prop}(ne:s≠[])(hC:C.length<=5)(h1:m "found"=ae (.ref fa))(h2:m "lots"=ae (.ref la))(h3:m "name"=ae (.str z))(hf:s[fa]?=ae (.list rs))(Ym:s[la]?=ae (.list (nats C)))(al:fb (Dt 0 s) rs ts)(tb:∀τ∈ts,iI τ/\τ.length<=60)(hz:ts.length*5<=16777216)(hn:20<=n)(q:∀s' a nU,bM s s'->s.length<=a->s'[a]?=ae (.list nU)->fb (Dt 0 s') nU (uV C z ts)->Q (.ref a) s'):Wp ((run prog n).ev (.comp (.bi "dict" (.bin .add (.bi "listItems" (.var "one")) (.list [(.tup [(.var "name"),(.var "c")])]))) [(.mk ["one"] (.seq (.var "found")) []),(.mk ["c"] (.seq (.var "lots")) [])]) m) Q s:=by
 refine qc hn<|fW (Dt 0) Dt.rM (eS (aN h1 ⟨fa,rs,ac,hf,hf,ne,HS s λτ=>C.map λ(c:ag)=>du (.str z) (.int c) τ,?_,?_,?_⟩))
 ·refine az (mH _ al) ?_;exact lT (v8 C hC z ts) hz
 ·intro v hv s2 e2 pR;refine bH (al.mem hv) λτ rT d=>?_;rw[uR _ d];refine jj d λb z1 _ hb=>?_;subst z1;rcases tb τ rT with⟨t1,t2⟩;have ZU:=e2 _ _ Ym;refine oC Dt.rM ac (eS (aN h2 ⟨la,_,ac,ZU,bM.refl _,λq=>?_,ZU,λv=>match v with|.int j=>[du (.str z) (.int j) τ]|_=>[],?_,?_⟩))
  ·have j1:=(bq.mp Ym).1;exact cU (bJ q.symm) j1
  ·show _=(nats C).flatMap _;unfold nats;rw[fj,bO]
  ·intro v hv s3 f3;refine bH (eO hv) λc hc z2=>?_;subst z2;refine dj (λq=>ne (dM.mp q)) ac (dD ⟨bM.refl _,fm (gh (fm (aN ac<|oz (f:=λ_ es=>if(es.all λp=>V.word p.1)&&bh (es.length<=16777216) then newList (cO es) else fail) (f3.dict (e2 _ _ hb)) ?_)))⟩);have tl:(cO τ).length=τ.length:=by unfold cO;rw[be]
   refine az ((FU t1 (tL t2 ac)).2)<|az (aF (by exact bA ac (eu (tB t2 ac))))<|fD (tl▸tB t2 ac) (et (aH (eN (aH (aN h3 (aH (aN ac (aT (aT ⟨by exact lB ac,rP (bM.push _ _ _ _ (bF s3 _)) (bF _ _) (by refine az tl ?_;exact tB (aR t2) ac) ?_⟩)))))))));refine FO (bF _ _) (H5 ..) (cb.mpr ⟨eH.mpr λp hp=>?_,eu (by simp;lia)⟩) ?_
   ·rcases cR.mp hp with q|q
    ·refine sE (t1.kv p q) λz' j' z3=>?_;subst z3;rfl
    ·simp at q;subst q;rfl
   rw[H4 t1];exact⟨(bM.push s3 _).trans ((bM.push _ _).trans ((bM.push _ _).trans (bM.push _ _))),_,ac,λs4 f4=>⟨_,ac,bR _,f4.dict (bF _ _)⟩⟩
 ·intro s' nU e' ha AU;rw[mH _ al] at AU;exact q s' _ nU e' (aP _) ha AU
theorem Ml{C:af ag}{zs:af aM}{na la n:ag}{s:af O}{Q:V->af O->Prop}(ne:s≠[])(hC:C.length<=5)(hzs:zs.length<=9)(Yk:s[na]?=ae (.list (zs.map V.str)))(Ym:s[la]?=ae (.list (nats C)))(hn:30<=n)(q:∀s' a rs,bM s s'->s.length<=a->s'[a]?=ae (.list rs)->fb (Dt 0 s') rs (tabs C zs [[]])->Q (.ref a) s'):Wp ((run prog n).cl "" "_law_tables" [.ref na,.ref la]) Q s:=by
 refine gc hn ?_;have e2:bM s (s++[O.dict []]++[O.list [.ref s.length]]):=(bM.push s _).trans (bM.push _ _);refine cN (pf:=tI) ac ac (c8 (et (aH (nA (aT ⟨by exact lB ac,jh (eS (aN ac ⟨na,_,ac,e2 _ _ Yk,?_⟩))⟩)))))
 have key:∀(rest:af aM)(m:Env)(s2:af O)(ts:af Tb)(rs:af V)(fa:ag),bM s s2->m "found"=ae (.ref fa)->m "lots"=ae (.ref la)->s.length<=fa->s2[fa]?=ae (.list rs)->fb (Dt 0 s2) rs ts->(∀τ∈ts,iI τ/\τ.length+rest.length<=60)->ts.length*5^rest.length<=16777216->tabs C rest ts=tabs C zs [[]]->
   Wp (c9 ⟨zs.map V.str,.list na (zs.map V.str)⟩ (λv m=>bP (bindTo m ["name"] v) λm'=>(run prog (28)).ex [.assign (.name "found") (.comp (.bi "dict" (.bin .add (.bi "listItems" (.var "one")) (.list [(.tup [(.var "name"),(.var "c")])]))) [(.mk ["one"] (.seq (.var "found")) []),(.mk ["c"] (.seq (.var "lots")) [])])] m') (rest.map V.str) m) (After (run prog (28)) [.ret (.var "found")] λr s=>Q (yZ r.1) s) s2:=by
  intro rest
  induction rest with
  |nil=>intro m s2 ts rs fa e m1 m2 hfa hf al _ _ ht;refine jB (e _ _ Yk) (dZ (aN m1 (q s2 _ rs e hfa hf<|dm ht ?_)));exact al
  |cons z rest ih=>
   intro m s2 ts rs fa e m1 m2 hfa hf al tb hz ht;have ZT:ts.length*5*5^rest.length<=16777216:=by rw[iD,rI] at hz;rw[DP,Ky 5];exact hz
   have ne2:s2≠[]:=λq=>by subst q;exact ne (dM.mp (kO.mp e.len))
   refine hV (show kh ⟨_,.list na _⟩ s2 from e _ _ Yk) (bK ac (bV (c8<|F3 ne2 hC m1 m2 ac hf (e _ _ Ym) al (λτ h=>⟨(tb τ h).1,by have j1:=(tb τ h).2;exact lT (bc _ _) j1⟩) (lT (xP _ (Nat.pow_pos (by decide))) ZT) (lB ac) λs' a nU e' ha vX AU=>c6<|ih _ s' _ nU a (e.trans e') ac m2 (lT e.len ha) vX AU (λτ h=>bH (dg.mp h) λXu h0 h1=>bH (bt.mp h1) λc _ z4=>?_) (lT (qM _ (v8 C hC z ts)) ZT) ht)));subst z4;have:=(tb Xu h0).2;have:=mF (.str z) (.int c) Xu;simp at*;exact⟨(tb _ h0).1.du z c,by lia⟩
 refine key zs _ _ [[]] [.ref s.length] _ e2 ac ac (by simp) (bF _ _) (.cons ⟨_,ac,bR _,bM.push _ _ _ _ (bF s _)⟩ .nil) (λτ h=>?_) ?_ ac
 ·simp at h;subst h;exact⟨⟨λ_ h=>by simp at h,fh⟩,by exact tB (bL hzs) ac⟩
 ·have:5^zs.length<=5^9:=jy (by decide) hzs;simp;lia
noncomputable def lA(k:ag):O:=.dict [(.str (aB "cells"),.ref 3),(.str (aB "at"),.int k)]
structure We(s:af O)(k:ag):Prop where
 well:s[1]?=ae (lA k)
 cells:∃cs:af aJ,s[3]?=ae (.list (cs.map V.int))/\cs.length<=1000
noncomputable def E1(s s':af O):Prop:=∀(b:ag)(o:O),b≠1->s[b]?=ae o->s'[b]?=ae o
theorem E1.trans{s s1 s2:af O}(a:E1 s s1)(b:E1 s1 s2):E1 s s2:=λx o n h=>b x o n (a x o n h)
theorem bM.e1{s s':af O}(h:bM s s'):E1 s s':=λb o _ e=>h b o e
theorem We.ext{s s':af O}{k:ag}(w:We s k)(e:bM s s'):We s' k:=⟨e _ _ w.well,bH (w.cells) λcs a b=>⟨cs,e _ _ a,b⟩⟩
theorem E1.len{s s':af O}{k k':ag}(h:E1 s s')(w:We s k)(w':We s' k'):s.length<=s'.length:=by
 rcases gZ s'.length s.length with q|q
 ·by_cases e:s'.length=1
  ·rcases w'.cells with⟨cs,a,_⟩;have j1:=(bq.mp a).1;exact aV j1 (cU (tB (bJ e) ac))
  ·have j2:=h s'.length _ e (dq q);exact aV (bq.mp j2).1 (bS _)
 ·exact q
theorem DV{x y:aJ}{s:af O}{Q:V->af O->Prop}(hx:fits x=aj)(hy:fits y=aj)(q:Q (.int (x*y)) s):Wp (r9 .mul (.int x) (.int y)) Q s:=by show Wp (if fits x&&fits y then ret (.int (x*y)) else fail) Q s;refine az hx<|az hy ?_;exact bx q
theorem DW{x y:aJ}{s:af O}{Q:V->af O->Prop}(h0:0<y)(hy:fits y=aj)(q:Q (.int (x%y)) s):Wp (r9 (.mod ()) (.int x) (.int y)) Q s:=by show Wp (if bh (0<y)&&fits y then ret (.int (x%y)) else fail) Q s;refine az (aF (by simpa using⟨h0,hy⟩)) ?_;exact bx q
theorem fits_of{i:aJ}(h:-1000000000<=i)(h':i<=1000000000):fits i=aj:=bA (eu (Wf (by decide) h)) (eu (WH h' (by decide)))
theorem F4{k:aJ}{j:ag}(h0:0<=k)(h:k<=1000000)(hj:j<=1000000):fits (k+j)=aj:=fits_of (vk (by decide) (Int.add_nonneg h0 (tq j))) (vk (Int.add_le_add h (xV.mpr hj)) (by decide))
theorem ik{k many n:ag}{s:af O}{Q:V->af O->Prop}(w:We s k)(hk:k<=1000)(h0:0<many)(hm:many<=1000000)(hn:20<=n)(q:∀(j:ag) s',j<many->E1 s s'->s.length=s'.length->We s' (k+1)->Q (.int j) s'):Wp ((run prog n).cl "" "_law_number" [.ref 1,.int many]) Q s:=by
 refine gc hn<|bH w.cells λcs hc Bm=>?_;have h1:=w.well;have kf:fits (k:aJ)=aj:=fJ (tB hk ac);refine cN (pf:=tF) ac ac (c8 (ef (aN ac (gQ (lX h1 ac (v:=.int k) ac (v3 (gh (aN ac (cS (pP kf ac (aN ac (gQ (pT h1 (by trivial) ac (by simp) ?_)))))))))))));have aay:du (.str (aB "at")) (.int ((k:aJ)+1)) [(.str (aB "cells"),.ref 3),(.str (aB "at"),.int k)]=[(.str (aB "cells"),.ref 3),(.str (aB "at"),.int ((k:aJ)+1))]:=ac;refine az aay ?_;generalize vX:s.set 1 (O.dict [(.str (aB "cells"),.ref 3),(.str (aB "at"),.int ((k:aJ)+1))])=s';have b1:s'[1]?=ae (lA (k+1)):=by refine dm vX ?_;exact hO ((bq.mp h1).1) _
 have b3:s'[3]?=ae (.list (cs.map V.int)):=by(refine dm vX ?_;refine az (cj (by trivial)) ?_);exact hc
 have e1:E1 s s':=λb o ne e=>by(refine dm vX ?_;refine az (cj (dK ne)) ?_);exact e
 have fin:∀x:aJ,Wp (r9 (.mod ()) (.int x) (.int many)) Q s':=λx=>by refine DW (by lia) (fJ (by lia)) ?_;have a1:=Xa x (show(many:aJ)≠0 by lia);have a2:=Xb x (show(0:aJ)<many by lia);exact eh (Wg a1) λj hj=>az hj<|q j s' (by lia) e1 (by refine dm vX ?_;simp) (⟨b1,cs,b3,Bm⟩)
 refine dZ (gh (vZ (dT (aN ac (fm (ef (aN ac (gQ (lX b1 ac (v:=.ref 3) ac (gJ b3 (by rw[be];lia) (dE ac ⟨_,ac,?_⟩)))))))))));by_cases c:k<cs.length
 ·refine az (aF (by simpa using c)) ?_;have j1:(cs.map V.int)[k]?=ae (.int cs[k]):=by simp[c]
  exact ef (ef (aN ac (gQ (lX b1 ac (v:=.ref 3) ac (aN ac (fA b3 j1 (by rw[be];lia) (aN ac (fin _))))))))
 ·refine az (aG (by simpa using c)) ?_;have kk:(k:aJ)*k<=1000*1000:=Int.mul_le_mul (by lia) (by lia) (by lia) (by trivial);have f1:fits ((5:aJ)*k)=aj:=fits_of (by lia) (by lia);have e5:(5:aJ)*k*k=5*(k*k):=Int.mul_assoc _ _ _;have f2:fits ((5:aJ)*k*k)=aj:=fits_of (by refine az e5 ?_;lia) (by refine az e5 ?_;lia);have f3:fits ((4:aJ)*k)=aj:=fits_of (by lia) (by lia);exact gh (gh (gh (gh (cS (aN ac (DV ac kf (aN ac (DV f1 kf (gh (cS (aN ac (DV ac kf (pP f2 f3 (cS (pP (fits_of (by refine az e5 ?_;lia) (by refine az e5 ?_;lia)) ac (aN ac (fin _)))))))))))))))))
theorem We.len{s:af O}{k:ag}(w:We s k):4<=s.length:=by exact bH w.cells λcs a _=>(bq.mp a).1
noncomputable def Tm.H6:Tm->Prop
 |.leaf z=>z=aB "?x"\/z=aB "?y"\/z=aB "a"
 |.f p=>p.H6
 |.g p q=>p.H6/\q.H6
noncomputable def cP:ag->ag
 |0=>2
 |f+1=>1+2*cP f
theorem Xy:∀f,2<=cP f:=by
 intro l0;induction l0 with
 |zero=>exact aP _
 |succ f ih=>exact by have j1:=ih;unfold cP;exact bT (aE (aP _) (mL j1)) ac
theorem H7:∀(fl:ag)(s:af O)(k n:ag)(Q:V->af O->Prop),We s k->k+cP fl<=1000->fl<=100->40+12*fl<=n->(∀(p:Tm) s' k',p.H6->p.ht<=fl->E1 s s'->We s' k'->k'<=k+cP fl->Q p.enc s')->Wp ((run prog n).cl "" "_law_pattern" [.ref 1,.int fl]) Q s:=by
 intro fl;induction fl with
 |zero=>
  intro s k n Q w hk _ hn q;obtain⟨n,rfl⟩:∃k,n=k+30:=⟨n-30,fs ‹_› ac⟩;unfold cP at hk q;refine cN (pf:=nL) ac ac (c8 (vZ (dT (aN ac (cS (dE ac ⟨aQ,ac,fT (aH (aN ac (aH (cS (aT (ik (many:=2) w (lT (bc _ _) hk) (lB ac) (by exact lB ac) (by exact lB ac) λj s1 hj e1 _ w1=>ic (dT (aN ac (cS (dE ac ⟨_,ac,az (aF (by exact dI ‹_›))<|bV (dZ (vZ (dT (aN ac (cS (dE ac ⟨_,ac,?_⟩))))))⟩))))))))))⟩))))));by_cases j0:j=0
  ·refine az (aF (by simp[j0])) ?_;have l1:=w1.len;refine eN (aH (ef (et (aH (gQ (aH (gQ (aT ⟨by decide,fT (aH (aN ac (aH (cS (aT (ik (many:=2) (w1.ext (bM.push s1 _)) (bz ‹_›) (by exact lB ac) (by exact lB ac) (by exact lB ac) λi s2 hi e2 _ w2=>?_))))))⟩))))))));have a2:=e2 _ _ (bZ (lR (lB ac) l1)) (bF s1 _)
   match i,hi with
   |0,_=>exact fA (i:=0) a2 ac (by decide) (aT (q (.leaf (aB "?x")) s2 _ (.inl ac) (aP _) (e1.trans ((bM.push s1 _).e1.trans e2)) w2 (aP _)))
   |1,_=>exact fA (i:=1) a2 ac (by decide) (aT (q (.leaf (aB "?y")) s2 _ (.inr (.inl ac)) (aP _) (e1.trans ((bM.push s1 _).e1.trans e2)) w2 (aP _)))
  ·exact az (aG (by simp;assumption)) (eN (aH (gQ (aT (q (.leaf (aB "a")) s1 _ (.inr (.inr ac)) (aP _) e1 w1 (eD (lB ac) _))))))
 |succ fl ih=>
  intro s k n Q w hk hf hn q;obtain⟨n,rfl⟩:∃k,n=k+30:=⟨n-30,A7 ‹_› ac⟩;have c2:=Xy fl;unfold cP at hk q;refine cN (pf:=nL) ac ac (c8 (vZ (dT (aN ac (cS (dE ac ⟨_,ac,az (aF (by exact dI (lB ac)))<|fT (aH (aN ac (aH (cS (aT (ik (many:=5) w (lT (bc _ _) hk) (lB ac) (by exact lB ac) (by exact lB ac) λj s1 hj e1 _ w1=>ic (dT (aN ac (cS (dE ac ⟨_,ac,?_⟩))))))))))⟩))))));have again:∀{n:ag}{m:Env}{K:V->af O->Prop}{s1:af O}{k1:ag},m "well"=ae (.ref 1)->m "floors"=ae (.int ((fl+1:ag):aJ))->We s1 k1->k1+cP fl<=1000->43+12*fl<=n->(∀(p:Tm) s' k',p.H6->p.ht<=fl->E1 s1 s'->We s' k'->k'<=k1+cP fl->K p.enc s')->Wp ((run prog (n+1)).ev (.call "_law_pattern" [(.var "well"),(.bin .sub (.var "floors") (.int 1))]) m) K s1:=by intro n m K s1 k1 m1 m2 w1 Yn hn1 kk;obtain⟨n,rfl⟩:∃k,n=k+3:=⟨n-3,A7 ‹_› ac⟩;exact fT (aH (aN m1 (aH (gh (aN m2 (cS (xN (fJ (tB hf ac)) ac (aT<|az (show(((fl+1:ag):aJ)-1)=(fl:aJ) by lia) (ih s1 k1 _ K w1 Yn (bz ‹_›) (lT (IJ (lB ac) _) hn1) kk)))))))))
  by_cases j2:j<2
  ·refine az (aF (by exact dI ‹_›))<|bV (dZ (vZ (dT (aN ac (cS (dE ac ⟨_,ac,?_⟩))))));by_cases j0:j=0
   ·refine az (aF (by simp[j0]))<|eN (aH (ef (et (aH (gQ (aH (gQ (aT ⟨by decide,fT (aH (aN ac (aH (cS (aT (ik (many:=2) (w1.ext (bM.push s1 _)) (lT (eD (bc _ _) _) hk) (lB ac) (by exact lB ac) (by exact lB ac) λi s2 hi e2 _ w2=>?_))))))⟩))))))));have a2:=e2 _ _ (nE w1.len ac) (bF s1 _)
    match i,hi with
    |0,_=>exact fA (i:=0) a2 ac (by decide) (aT (q (.leaf (aB "?x")) s2 _ (.inl ac) (bR _) (e1.trans ((bM.push s1 _).e1.trans e2)) w2 (by lia)))
    |1,_=>exact fA (i:=1) a2 ac (by decide) (aT (q (.leaf (aB "?y")) s2 _ (.inr (.inl ac)) (bR _) (e1.trans ((bM.push s1 _).e1.trans e2)) w2 (by lia)))
   ·exact az (aG (by simp;assumption)) (eN (aH (gQ (aT (q (.leaf (aB "a")) s1 _ (.inr (.inr ac)) (bR _) e1 w1 (eD (bc _ _) _))))))
  ·refine az (aG (by simp;lia))<|bV (c6 (ic (dT (aN ac (cS (dE ac ⟨_,ac,?_⟩))))));by_cases j4:j<4
   ·exact az (aF (by exact dI ‹_›))<|bV (dZ (eN (aH (gQ (aH (again ac ac w1 (by lia) (by lia) λp s2 k2 hp hh e2 w2 Ui=>aT<|q (.f p) s2 k2 hp (by unfold Tm.ht;exact jF hh) (e1.trans e2) w2 (by lia)))))))
   ·exact az (aG (by simp;lia))<|bV (c6 (dZ (eN (aH (gQ (aH (again ac ac w1 (by lia) (by lia) λp s2 k2 hp hh e2 w2 Ui=>aH (again ac ac w2 (by lia) (by lia) λp' s3 k3 yi hh' e3 w3 hk3=>aT<|q (.g p p') s3 k3 ⟨hp,yi⟩ (by unfold Tm.ht;lia) (e1.trans (e2.trans e3)) w3 (by lia)))))))))
theorem rV:∀{p:Tm}{n:ag},p.ht+1<=n->p.enc.fq n=aj:=by
 have str:∀{z:aM}{n:ag},V.fq n (.str z)=aj:=λ{_ n}=>by induction n<;>rfl
 intro p;induction p with
 |leaf z=>exactλ{n} h=>by cases n with|zero=>exact aV h (fM _)|succ n=>exact(show(V.fq n (.str z)&&aj)=aj from bA str ac)
 |f p ih=>exactλ{n} h=>by cases n with|zero=>exact aV h (fM _)|succ n=>exact(show(V.fq n (.str (aB "f"))&&(p.enc.fq n&&aj))=aj from bA str (bA (ih (xM h)) ac))
 |g p q ip iq=>
  intro n h;cases n with
  |zero=>exact aV h (fM _)
  |succ n=>have h:=xM h;exact(show(V.fq n (.str (aB "g"))&&(p.enc.fq n&&(q.enc.fq n&&aj)))=aj from bA str (bA (ip (lT (jF (DQ _ _)) h)) (bA (iq (lT (jF (DR _ _)) h)) ac)))
theorem oJ{T:af Tm}(h:∀t∈T,t.ht<=7):V.eI (T.map Tm.enc)=aj:=i9 λt ht=>rV (by have j1:=h t ht;exact aR j1)
noncomputable def Over(T:af Tm)(t:Tm):Prop:=t=.leaf (aB "a")\/t=.leaf (aB "b")\/(∃u∈T,t=.f u)\/∃u∈T,∃v∈T,t=.g u v
theorem DX{T:af Tm}{ta k n:ag}{s:af O}{Q:V->af O->Prop}(w:We s k)(hk:k<=900)(oN:s[ta]?=ae (.list (T.map Tm.enc)))(h1:ta≠1)(hT:∀t∈T,t.ht<=7)(hl:T.length<=100)(hn:40<=n)(q:∀t s' k',Over T t->E1 s s'->We s' k'->k'<=k+3->Q t.enc s'):Wp ((run prog n).cl "" "_law_some_term" [.ref 1,.ref ta]) Q s:=by
 obtain⟨n,rfl⟩:∃k,n=k+40:=⟨n-40,fs ‹_› ac⟩;refine cN (pf:=lp) ac ac (c8 (fT (aH (aN ac (aH (cS (aT (ik (many:=4) w (tB hk ac) (lB ac) (by exact lB ac) (by exact lB ac) λj s1 hj e1 _ w1=>?_))))))))
 have Vt:∀{s2:af O}{K:Flow×Env->af O->Prop},E1 s s2->We s2 (k+1)->(∀v m s,Q v s->K (.ret v,m) s)->Wp ((run prog (n+38)).ex [.ret (.tup [(.idx (.str "ab") (.bin (.mod ()) (.var "way") (.int 2)))])] ((Env.empty.bind lp.params [.ref 1,.ref ta]).upd "way" (.int j))) K s2:=by
  intro s2 K e w2 hK;refine bV (dZ (eN (aH (ef (gQ (gh (aN ac (cS (DW (by trivial) ac ?_)))))))))
  match j,hj with
  |0,_=>exact ny (s:=s2) ac (aT (hK _ _ _ (q (.leaf (aB "a")) s2 _ (.inl ac) e w2 (eD (lB ac) _))))
  |1,_=>exact ny (s:=s2) ac (aT (hK _ _ _ (q (.leaf (aB "b")) s2 _ (.inr (.inl ac)) e w2 (bL (lB ac)))))
  |2,_=>exact ny (s:=s2) ac (aT (hK _ _ _ (q (.leaf (aB "a")) s2 _ (.inl ac) e w2 (bL (lB ac)))))
  |3,_=>exact ny (s:=s2) ac (aT (hK _ _ _ (q (.leaf (aB "b")) s2 _ (.inr (.inl ac)) e w2 (by exact bL (lB ac)))))
 refine ic (TX (dT (aN ac (cS (dE ac ⟨_,ac,?_⟩)))));by_cases j2:j<2
 ·exact az (aF (by exact dI ‹_›)) ⟨aj,ac,az (aF ac)<|Vt e1 w1 λv m s h=>h⟩
 ·refine az (aG (by simp;lia)) ?_;have Yo:=bM.push s1 (O.list []) _ _ (e1 _ _ h1 oN);refine dT (aN ac (et (aT ⟨by simp,ny (a:=.bool (V.oR (T.map Tm.enc) [])) (s:=s1++[.list []]) ?_ ⟨_,ac,?_⟩⟩)))
  ·show cI (load ta) _ _=_;unfold cI load;refine az Yo (?_:cI (load s1.length) _ _=_);unfold cI load;rw[bF];show(if V.eI (T.map Tm.enc)&&V.eI [] then _ else _:P V) _=_;exact az (oJ hT) ac
  have e2:=e1.trans (bM.push s1 (O.list [])).e1;have w2:=w1.ext (bM.push s1 (O.list []));have draw:∀{n:ag}{m:Env}{K:V->af O->Prop}{s2:af O}{k2:ag},T≠[]->m "well"=ae (.ref 1)->m "known"=ae (.ref ta)->We s2 k2->s2[ta]?=ae (.list (T.map Tm.enc))->k2<=1000->30<=n->(∀u s3,u∈T->E1 s2 s3->We s3 (k2+1)->K u.enc s3)->Wp ((run prog (n+1)).ev (.idx (.var "known") (.call "_law_number" [(.var "well"),(.bi "len" (.var "known"))])) m) K s2:=by
   intro n m K s2 k2 ne m1 m2 w2 ht Ui hn kk;obtain⟨n,rfl⟩:∃k,n=k+4:=⟨n-4,fs ‹_› ac⟩;refine ef (aN m2 (fT (aH (aN m1 (aH (fm (aN m2 (gJ ht (by rw[be];exact tB hl ac) (aT ?_)))))))));rw[be];refine ik w2 Ui (TF λq=>ne (dM.mp q)) (tB hl ac) (fK hn ac) λi s3 hi e3 _ w3=>?_;have hv:(T.map Tm.enc)[i]?=ae T[i].enc:=by simp[hi]
   exact fA (e3 _ _ h1 ht) hv (by rw[be];exact tB hl ac) (kk _ _ (dR hi) e3 w3)
  induction T with
  |nil=>exact Vt e2 w2 λv m s h=>h
  |cons t0 T=>
   refine bV (c6 (c8 (draw (by exact yj _ _) ac ac w2 Yo (tB (aR hk) ac) (lB ac) λu s3 hu e3 w3=>dZ (vZ (dT (aN ac (cS (dE ac ⟨_,ac,?_⟩))))))));by_cases j3:j=2
   ·exact az (aF (by simp;lia)) (eN (aH (gQ (aH (aN ac (aT (q (.f u) s3 _ (.inr (.inr (.inl ⟨u,hu,ac⟩))) (e2.trans e3) w3 (by lia))))))))
   ·exact az (aG (by simp;lia)) (eN (aH (gQ (aH (aN ac (aH (draw (by exact yj _ _) ac ac w3 (e3 _ _ h1 Yo) (tB (aR (aR hk)) ac) (lB ac) λv s4 hv e4 w4=>aT (q (.g u v) s4 _ (.inr (.inr (.inr ⟨u,hu,v,hv,ac⟩))) (e2.trans (e3.trans e4)) w4 (aP _)))))))))
theorem tu:∀{T:af Tm}{i:ag}{t:Tm},T.Nodup->T[i]?=ae t->indexOf t.enc (T.map Tm.enc)=ae i:=by
 intro T;induction T with
 |nil=>exactλ_ h=>eP h
 |cons u T ih=>
  intro i t n h;induction i with
  |zero=>exact aU h▸aF (V.beq_refl u.enc)
  |succ i=>have n:=eV.mp n;have h:T[i]?=ae t:=h;exact(aG λq=>n.1 ((DT (p:=u) (q:=t) (V.eq_of_beq _ _ q)).symm▸cw h)).trans (bf (jW (·+1)) (ih n.2 h))
structure Gr.zZ(g:Gr):Prop where
 ht:∀t∈g.T,t.ht<=6
theorem zg{g:Gr}{ta i:ag}{t:Tm}{s:af O}{Q:V->af O->Prop}(ok:g.Ok)(dp:g.zZ)(oN:s[ta]?=ae (.list (g.T.map Tm.enc)))(h:g.T[i]?=ae t)(q:Q (.int i) s):Wp (iJ (.ref ta) "index" [t.enc]) Q s:=by
 refine fz (f:=λ_ vs=>if V.pure t.enc&&V.eI vs&&bh (vs.length<=16777216) then bP (indexOf t.enc vs) λ(k:ag)=>ret (V.int k) else fail) oN ?_;have:=dp.ht t (cw h);rw[aF (by
  simp -iota only[cY,di];exact⟨⟨rV (tB (aR this) ac),oJ λt h=>by have:=dp.ht t h;exact tB this ac⟩,by rw[be];exact tB ok.small ac⟩)]
 exact bK (tu ok.once h) (bx q)
theorem DY{g:Gr}{ta i n:ag}{t:Tm}{y z:aA}{m:Env}{s:af O}{Q:V->af O->Prop}(ok:g.Ok)(dp:g.zZ)(m1:m y=ae (.ref ta))(m2:m z=ae t.enc)(oN:s[ta]?=ae (.list (g.T.map Tm.enc)))(h:g.T[i]?=ae t)(q:Q (.int i) s):Wp ((run prog (n+2)).ev (.cu (.var y) "index" [(.var z)]) m) Q s:=
 eG (aN m1 ⟨ta,_,ac,oN,.inl ac,aH (aN m2 (aT ⟨⟨_,oN,ac⟩,zg ok dp oN h q⟩))⟩)
noncomputable abbrev je(N:ag)(h:ag->ag):af V:=(c5 N).map λ(i:ag)=>.int (h i)
theorem zh{N i:ag}(h:ag->ag)(hi:i<N):(je N h)[i]?=ae (.int (h i)):=by simp[je,hi]
theorem vB{α β:Type}{R:α->β->Prop}{l:af α}{l':af β}(a:fb R l l'){b:β}(m:b∈l'):∃x∈l,R x b:=by
 induction a with
 |nil=>cases m
 |cons x _ ih=>
  rcases ci.mp m with rfl|m
  ·exact⟨_,.head _,x⟩
  ·exact bH (ih m) λy h1 h2=>⟨y,.tail _ h1,h2⟩
open Classical in
noncomputable def Gr.ix(g:Gr)(t:Tm):ag:=if h:∃i:ag,g.T[i]?=ae t then h.choose else 0
theorem Gr.Ok.ix{g:Gr}(ok:g.Ok){i:ag}{t:Tm}(h:g.T[i]?=ae t):g.ix t=i:=by have ex:∃i:ag,g.T[i]?=ae t:=⟨i,h⟩;unfold Gr.ix;refine(tO ex).trans ?_;have b:=tu ok.once h;injection (((tu ok.once ex.choose_spec))▸b)
theorem Gr.Ok.ixs{g:Gr}(ok:g.Ok){i:ag}{t:Tm}{l:af ag}(h:g.T[i]?=ae t)(k:g.ks[i]?=ae l):t.kids.map g.ix=l:=by
 have kk:=ok.Pu h k;clear k;generalize t.kids=us at kk;induction kk with
 |nil=>rfl
 |cons x _ ih=>(refine eL.trans ?_;refine az ih ?_;refine az (ok.ix x.2) ?_;rfl)
theorem pY{g:Gr}{h:ag->ag}{i ta ha n:ag}{t:Tm}{l:af ag}{m:Env}{s:af O}{Q:V->af O->Prop}(ok:g.Ok)(dp:g.zZ)(ne:s≠[])(ht:g.T[i]?=ae t)(hl:g.ks[i]?=ae l)(oN:s[ta]?=ae (.list (g.T.map Tm.enc)))(tw:s[ha]?=ae (.list (je g.T.length h)))(m1:m "terms"=ae (.ref ta))(m2:m "home"=ae (.ref ha)){se:PE}(hse:∀{n:ag} {K:V->af O->Prop},K (.tup (.str t.op::t.kids.map Tm.enc)) s->Wp ((run prog (n+5)).ev se m) K s)(hn:20<=n)(q:∀s' a,bM s s'->s.length<=a->s'[a]?=ae (.list (l.map λ(j:ag)=>V.int (h j)))->Q (.ref a) s'):Wp ((run prog n).ev (.comp (.idx (.var "home") (.cu (.var "terms") "index" [(.var "kid")])) [(.mk ["kid"] (.seq (.gB se)) [])]) m) Q s:=by
 refine qc hn ?_;have kl:=hU t;have sp:(t.kids.map Tm.enc).flatMap (λv=>[V.int (h (g.ix (iF v)))])=l.map λ(j:ag)=>V.int (h j):=by rewrite[kG λu=>[V.int (h (g.ix u))],bO];exact dm (ok.ixs ht hl)<|az iz ac
 refine fW Dv Dv.rM (v5 (lW (hse (kc (l:=t.kids.map Tm.enc) (by rw[be];exact tL kl ac) ⟨_,ac,bp,ne,λv=>[V.int (h (g.ix (iF v)))],?_,?_,?_⟩))))
 ·show((t.kids.map Tm.enc).flatMap _).length<=_;rw[bO,be,be];exact tB kl ac
 ·intro v hv s2 e2 pR;refine bH (bt.mp hv) λu hu z1=>?_;subst z1;refine jj (vB (ok.Pu ht hl) hu) λj hj hj1 hj2=>?_;rewrite[gj];refine az (ok.ix hj2) ?_;have hs:=ok.small;exact dj (λq=>ne (dM.mp q)) ac (dD ⟨bM.refl _,ef (aN m2 (DY ok dp m1 ac (e2 _ _ oN) hj2 (fA (e2 _ _ tw) (zh h (bq.mp hj2).1) (by simp;lia) ⟨bM.refl _,_,ac,λ_ _=>ac⟩)))⟩)
 ·intro s' rs e' ha al;have:=al.eq.trans sp;subst this;exact q s' _ e' (aP _) ha
noncomputable def GB(g:Gr)(q:ag->ag)(i j:ag):Prop:=∃t u l l',g.T[i]?=ae t/\g.T[j]?=ae u/\g.ks[i]?=ae l/\g.ks[j]?=ae l'/\t.op=u.op/\l.map q=l'.map q
noncomputable def gR(g:Gr)(td:af (ag×ag))(q:ag->ag):Prop:=(∀a b,(a,b)∈td->q a=q b)/\∀i j,GB g q i j->q i=q j
structure uW(g:Gr)(td:af (ag×ag))(h:ag->ag):Prop where
 le:∀i,h i<=i
 ji:∀i,h (h i)=h i
 sound:∀q,gR g td q->∀i,q (h i)=q i
noncomputable def glue(h:ag->ag)(low bY:ag):ag->ag:=λx=>if h x=bY then low else h x
theorem uW.glue{g:Gr}{td:af (ag×ag)}{h:ag->ag}(H:uW g td h){a b:ag}(zC:∀q,gR g td q->q a=q b){low bY:ag}(jE:low<bY)(hs:(h a=low/\h b=bY)\/(h a=bY/\h b=low)):uW g td (glue h low bY):=by
 have hl:h low=low:=by rcases hs with⟨x,_⟩|⟨_,x⟩<;>(refine dm x ?_;exact H.ji _)
 refine⟨λi=>?_,λi=>?_,λq Q i=>?_⟩
 ·unfold Internal.glue;have:=H.le i;split<;>lia
 ·unfold Internal.glue;by_cases c:h i=bY
  ·exact az (aF c)<|az hl (aG (b8 ‹_›))
  ·refine az (aG c) ?_;rewrite[H.ji];exact(aG c)
 ·have e:q low=q bY:=by
   have ab:=zC q Q;rcases hs with⟨x,y⟩|⟨x,y⟩
   ·refine dm x<|dm y ?_;rewrite[H.sound q Q,H.sound q Q];exact ab
   ·refine dm x<|dm y ?_;rewrite[H.sound q Q,H.sound q Q];exact az ab ac
  unfold Internal.glue;split
  ·rename_i c;rw[e,<-c];exact H.sound q Q i
  ·exact H.sound q Q i
noncomputable def cnt(h:ag->ag)(N:ag):ag:=(gV N λi=>h i==i).length
theorem F5{h:ag->ag}{low bY N:ag}(jE:low<bY)(hN:bY<N)(le:∀i,h i<=i)(hh:h bY=bY):cnt (glue h low bY) N+1<=cnt h N:=by
 have hx:glue h low bY bY≠bY:=by unfold glue;refine az (aF hh) ?_;exact b8 ‹_›
 refine gi (us:=bY::gV N λi=>glue h low bY i==i) (l:=gV N λi=>h i==i) (eV.mpr ⟨λm=>?_,tm _ _⟩) λv hv=>?_
 ·exact hx (by simpa using(ke.mp m).2)
 ·rcases ci.mp hv with rfl|hv
  ·exact ke.mpr ⟨hN,by simpa using hh⟩
  ·refine fB (ke.mp hv) λa b=>ke.mpr ⟨a,?_⟩;simp -iota only[jp] at b⊢;unfold glue at b;split at b
   ·rename_i c;have:=le v;lia
   ·exact b
noncomputable abbrev r6(p:ag×ag):V:=.tup [.int p.1,.int p.2]
structure Alike(g:Gr)(td:af (ag×ag))(h:ag->ag)(A:af (ag×ag)):Prop where
 vA:∀p∈td,p∈A
 lt:∀p∈A,p.1<g.T.length/\p.2<g.T.length
 ok:∀p∈A,∀q,gR g td q->q p.1=q p.2
theorem PN{q h:ag->ag}(k:∀i,q (h i)=q i){l l':af ag}(e:l.map h=l'.map h):l.map q=l'.map q:=by
 have j1:(l.map h).map q=(l'.map h).map q:=by(refine az e ?_;rfl)
 simpa[tj,k] using j1
theorem uW.cgr{g:Gr}{td:af (ag×ag)}{h:ag->ag}(H:uW g td h){i j:ag}(c:GB g h i j){q:ag->ag}(Q:gR g td q):q i=q j:=by exact KF c λt u l l' a b c d e f=>Q.2 i j ⟨t,u,l,l',a,b,c,d,e,PN (H.sound q Q) f⟩
theorem uX{f g:ag->ag}{l l':af ag}(e:(l.map λ(j:ag)=>V.int (f j))=l'.map λ(j:ag)=>V.int (g j)):l.map f=l'.map g:=by
 have j1:(l.map f).map (λ(j:ag)=>V.int j)=(l'.map g).map (λ(j:ag)=>V.int j):=by simpa[tj] using e
 exact(Rq λa b q=>iQ q).mp j1
theorem H8{a b:ag}{xs ys:af V}{s:af O}{Q:V->af O->Prop}(ha:s[a]?=ae (.list xs))(hb:s[b]?=ae (.list ys))(px:V.eI xs=aj)(py:V.eI ys=aj)(q:Q (.bool (V.oR xs ys)) s):Wp (mo .eq (.ref a) (.ref b)) Q s:=by refine aZ (wp_load ha (aZ (wp_load hb ((az px<|az py ?_):Wp (if V.eI xs&&V.eI ys then ret (.bool (V.oR xs ys)) else fail) Q s))));exact bx q
section
variable{g:Gr}{td:af (ag×ag)}{h:ag->ag}{ta ha aa n:ag}{s:af O}
structure E7(m:Env)(tl ta ha aa:ag):Prop where
 vA:m "told"=ae (.ref tl)
 Uj:m "goes_on"=ae (.bool aQ)
 ie:m "terms"=ae (.ref ta)
 BO:m "home"=ae (.ref ha)
 alike:m "alike"=ae (.ref aa)
noncomputable abbrev xQ:PS:=.iff (.and (.cmp .eq (.idx (.idx (.var "terms") (.var "k")) (.int 0)) (.idx (.idx (.var "terms") (.var "j")) (.int 0))) (.cmp .eq (.bi "len" (.idx (.var "terms") (.var "k"))) (.bi "len" (.idx (.var "terms") (.var "j"))))) [.iff (.cmp .eq (.comp (.idx (.var "home") (.cu (.var "terms") "index" [(.var "kid")])) [(.mk ["kid"] (.seq (.gB (.idx (.var "terms") (.var "k")))) [])]) (.comp (.idx (.var "home") (.cu (.var "terms") "index" [(.var "kid")])) [(.mk ["kid"] (.seq (.gB (.idx (.var "terms") (.var "j")))) [])])) [.expr (.cu (.var "alike") "append" [(.tup [(.var "j"),(.var "k")])])] []] []
theorem Xz{k j:ag}{A:af (ag×ag)}{m:Env}{s2:af O}{R:Flow×Env->af O->Prop}(ok:g.Ok)(dp:g.zZ)(ne:s≠[])(oN:s[ta]?=ae (.list (g.T.map Tm.enc)))(tw:s[ha]?=ae (.list (je g.T.length h)))(hk:k<g.T.length)(hj:j<g.T.length)(e:bM s s2){tl:ag}(E:E7 m tl ta ha s.length)(mk:m "k"=ae (.int k))(mj:m "j"=ae (.int j))(hA:s2[s.length]?=ae (.list (A.map r6)))(hz:A.length<=1000)(hn:40<=n)(q:∀s' A',bM s s'->s'[s.length]?=ae (.list (A'.map r6))->A'=A\/(A'=A++[(j,k)]/\GB g h k j)->(GB g h k j->(j,k)∈A')->R (.next,m) s'):Wp ((run prog n).ex [xQ] m) R s2:=by
 refine Pl hn<|Ed (ok.key (r:=h) hk) λt l t1 t2 t3 _=>Ed (ok.key (r:=h) hj) λu l' u1 u2 u3 _=>?_;have kt:=hU t;have ku:=hU u;have term:∀{y:aA}{i:ag}{v:Tm}{n:ag}{K:V->af O->Prop}{s3:af O},m y=ae (.int i)->g.T[i]?=ae v->bM s2 s3->K (.tup (.str v.op::v.kids.map Tm.enc)) s3->Wp ((run prog (n+2)).ev (.idx (.var "terms") (.var y)) m) K s3:=by intro y i v n K s3 my hv e3 kk;exact ef (aN E.ie (aN my (fA (e3 _ _ (e _ _ oN)) (v:=.tup (.str v.op::v.kids.map Tm.enc)) (by(refine az (gw) ?_;refine az hv ?_);exact bf ae (kg v)) (by rw[be];exact tB ok.small ac) kk)))
 have stop:∀{s3:af O}{R':Flow×Env->af O->Prop}{n:ag},(∀s',bM s2 s'->¬GB g h k j->R' (.next,m) s')->bM s2 s3->¬GB g h k j->Wp ((run prog (n+1)).ex [] m) R' s3:=λhR e3 hc=>bV (c6 (hR _ e3 hc));have qn:∀s',bM s2 s'->¬GB g h k j->R (.next,m) s':=λs' e' hc=>q s' A (e.trans e') (e' _ _ hA) (.inl ac) λc=>aV c hc;refine bV (ic (AJ (dT (ef (term mk t1 (bM.refl _) (cS (iE (i:=0) ac (by simp;lia) (ef (term mj u1 (bM.refl _) (cS (iE (i:=0) ac (by simp;lia) (dE ac ⟨_,ac,?_⟩))))))))))));by_cases ho:(t.op==u.op)=aj
 ·refine az (aF ho)<|dT (fm (term mk t1 (bM.refl _) (uO (by simp;lia) (fm (term mj u1 (bM.refl _) (uO (by simp;lia) (dE ac ⟨_,ac,?_⟩)))))));by_cases hl:l.length=l'.length
  ·refine az (aF (by simp;lia)) ?_;have ne2:s2≠[]:=λq=>by subst q;exact ne (dM.mp (kO.mp e.len))
   refine bV (ic (dT (pY ok dp ne2 t1 t2 (e _ _ oN) (e _ _ tw) E.ie E.BO (term mk t1 (bM.refl _)) (lB ac) λs3 a3 e3 l3 h3=>?_)));have ne3:s3≠[]:=λq=>by subst q;exact ne2 (dM.mp (kO.mp e3.len))
   refine pY ok dp ne3 u1 u2 (e3 _ _ (e _ _ oN)) (e3 _ _ (e _ _ tw)) E.ie E.BO (term mj u1 e3) (lB ac) λs4 a4 e4 l4 h4=>?_;have e24:=e3.trans e4;refine H8 (e4 _ _ h3) h4 (i9 λ_ _=>ac) (i9 λ_ _=>ac) ⟨_,ac,?_⟩;by_cases hq:V.oR (l.map λ(j:ag)=>V.int (h j)) (l'.map λ(j:ag)=>V.int (h j))=aj
   ·refine az (aF hq) ?_;have c:GB g h k j:=⟨t,u,l,l',t1,u1,t2,u2,gX ho,uX (V.tT.mp hq)⟩;have Fr:=e24 _ _ hA;refine bV (fE (eG (aN E.alike ⟨_,_,ac,Fr,.inl ac,aH (eN (aH (aN mj (aH (aN mk (aT (aT ⟨⟨_,Fr,ac⟩,fc Fr (λq=>ne (dM.mp q)) (by rw[be];exact tL hz ac) ⟨bp,c6 (c6 (c6<|q _ (A++[(j,k)]) ((e.trans e24).set (aP _) _) ?_ (.inr ⟨ac,c⟩) λ_=>i6 _ (.head _)))⟩⟩)))))))⟩)));rewrite[hO (bq.mp Fr).1];exact az iw ac
   ·refine az (aG hq)<|stop (λs' e' hc=>c6 (c6 (qn s' e' hc))) e24 λ⟨t',u',m1,m1',a1,a2,a3,a4,a5,a6⟩=>hq ?_;replace a3:=t2▸a3;replace a4:=u2▸a4;replace a3:=aU a3;subst a3;(replace a4:=aU a4;subst a4);have j1:=bf (List.map λ(j:ag)=>V.int j) a6;rw[iz,iz] at j1;exact V.tT.mpr j1
  ·refine az (aG (by simp;lia))<|stop (λs' e' hc=>c6 (qn s' e' hc)) (bM.refl _) λ⟨t',u',m1,m1',a1,a2,a3,a4,a5,a6⟩=>hl ?_;replace a3:=t2▸a3;replace a4:=u2▸a4;replace a3:=aU a3;subst a3;(replace a4:=aU a4;subst a4);simpa using bf t4 a6
 ·refine az (aG ho) ⟨aQ,ac,az (aG cE)<|stop (λs' e' hc=>c6 (qn s' e' hc)) (bM.refl _) λ⟨t',u',m1,m1',a1,a2,a3,a4,a5,a6⟩=>ho ?_⟩;replace a1:=t1▸a1;replace a2:=u1▸a2;replace a1:=aU a1;subst a1;(replace a2:=aU a2;subst a2);exact eu ‹_›
end
section
variable{g:Gr}{td:af (ag×ag)}{h:ag->ag}{ta ha aa n:ag}{s:af O}
noncomputable abbrev Told(g:Gr)(h:ag->ag)(A A':af (ag×ag)):Prop:=(∀p∈A,p∈A')/\∀p∈A',p∈A\/(p.1<g.T.length/\p.2<g.T.length/\GB g h p.2 p.1)
theorem Told.trans{A B C:af (ag×ag)}(x:Told g h A B)(y:Told g h B C):Told g h A C:=⟨λp hp=>y.1 p (x.1 p hp),λp hp=>(y.2 p hp).elim (x.2 p) .inr⟩
theorem H9{k tl:ag}{u4:af V}{R:Flow×Env->af O->Prop}(ok:g.Ok)(dp:g.zZ)(ne:s≠[])(oN:s[ta]?=ae (.list (g.T.map Tm.enc)))(tw:s[ha]?=ae (.list (je g.T.length h)))(hk:k<g.T.length)(hn:40<=n):∀(js:af ag)(m:Env)(s2:af O)(A:af (ag×ag)),(∀j∈js,j<g.T.length)->bM s s2->E7 m tl ta ha s.length->m "k"=ae (.int k)->s2[s.length]?=ae (.list (A.map r6))->A.length+js.length<=1000->(∀m' s' A',E7 m' tl ta ha s.length->bM s s'->s'[s.length]?=ae (.list (A'.map r6))->Told g h A A'->(∀j∈js,GB g h k j->(j,k)∈A')->A'.length<=A.length+js.length->R (.next,m') s')->Wp (c9 ⟨u4,.none⟩ (λv m=>bP (bindTo m ["j"] v) λm'=>(run prog n).ex [xQ] m') (nats js) m) R s2:=by
 intro l0;induction l0 with
 |nil=>exactλm s2 A _ e E mk hA _ K=>jB bp (K m s2 A E e hA ⟨λp h=>h,λp h=>.inl h⟩ (λj h=>by simp at h) (aP _))
 |cons j js ih=>
  intro m s2 A hj e E mk hA hz K;refine hV bp (bK ac (Xz ok dp ne oN tw hk (hj j (.head _)) e (m:=m.upd "j" (.int j)) ⟨E.vA,E.Uj,E.ie,E.BO,E.alike⟩ mk ac hA (lT (bc _ _) hz) hn λs' A' e' hA' Eg hc=>?_));have hl:A'.length<=A.length+1:=Eg.elim (λe=>e▸bc _ _) λe=>e.1▸bJ ct;have T1:Told g h A A':=by
   rcases Eg with rfl|⟨rfl,c⟩
   ·exact⟨λp h=>h,λp h=>.inl h⟩
   ·refine⟨λp h=>i5 _ h,λp hp=>?_⟩;rcases cR.mp hp with q|q
    ·exact .inl q
    ·simp at q;subst q;exact .inr ⟨hj j (.head _),hk,c⟩
  refine ih _ s' A' (λj h=>hj j (.tail _ h)) e' ⟨E.vA,E.Uj,E.ie,E.BO,E.alike⟩ mk hA' (lT (aR hl) (lT (bJ (Dp A.length 1 js.length)) hz)) λm3 s3 A3 E3 e3 h3 T3 c3 l3=>K m3 s3 A3 E3 e3 h3 (T1.trans T3) (λi hi c=>?_) (lT l3 (lT (aR hl) (bJ (Dp A.length 1 js.length))));rcases ci.mp hi with rfl|hi
  ·exact T3.1 _ (hc c)
  ·exact c3 i hi c
theorem Ia{tl:ag}{u4:af V}{R:Flow×Env->af O->Prop}(ok:g.Ok)(dp:g.zZ)(ne:s≠[])(oN:s[ta]?=ae (.list (g.T.map Tm.enc)))(tw:s[ha]?=ae (.list (je g.T.length h)))(hn:40<=n):∀(ks:af ag)(m:Env)(s2:af O)(A:af (ag×ag)),(∀k∈ks,k<g.T.length)->bM s s2->E7 m tl ta ha s.length->s2[s.length]?=ae (.list (A.map r6))->A.length+ks.length*5<=1000->(∀m' s' A',E7 m' tl ta ha s.length->bM s s'->s'[s.length]?=ae (.list (A'.map r6))->Told g h A A'->(∀k∈ks,∀j,j<k->GB g h k j->(j,k)∈A')->R (.next,m') s')->Wp (c9 ⟨u4,.none⟩ (λv m=>bP (bindTo m ["k"] v) λm'=>(run prog (n+2)).ex [.loop ["j"] (.range (.var "k")) [xQ]] m') (nats ks) m) R s2:=by
 intro l0;induction l0 with
 |nil=>exactλm s2 A _ e E hA _ K=>jB bp (K m s2 A E e hA ⟨λp h=>h,λp h=>.inl h⟩ (λj h=>by simp at h))
 |cons k ks ih=>
  intro m s2 A hk e E hA hz K;replace hz:=iD▸hz;rewrite[Nat.succ_mul] at hz;have hs:=ok.small;have hkk:=hk k (.head _);refine hV bp (bK ac (bV (jh (rN (aN ac ⟨_,ac,fJ (bz (lR hkk (tB hs ac))),H9 ok dp ne oN tw hkk (bT (aR hn) ac) (c5 k) _ s2 A (λj hj=>by simp at hj;exact lR hj (bz hkk)) e ⟨E.vA,E.Uj,E.ie,E.BO,E.alike⟩ ac hA (by simp;lia) λm3 s3 A3 E3 e3 h3 T3 c3 l3=>c6 ?_⟩)))));simp at l3;refine ih m3 s3 A3 (λk h=>hk k (.tail _ h)) e3 E3 h3 (by lia) λm4 s4 A4 E4 e4 h4 T4 c4=>K m4 s4 A4 E4 e4 h4 (T3.trans T4) λk' Ws j hj c=>?_;rcases ci.mp Ws with rfl|Ws
  ·exact T4.1 _ (c3 j (by simpa using hj) c)
  ·exact c4 k' Ws j hj c
end
section
variable{g:Gr}{td:af (ag×ag)}{ta aa n:ag}{s:af O}
noncomputable abbrev F6(n:ag)(v:V)(m:Env):P (Flow×Env):=bP (bindTo m ["k","j"] v) λm'=>(run prog n).ex [.iff (.cmp .ne (.idx (.var "home") (.var "k")) (.idx (.var "home") (.var "j"))) [.assign (.names ["low","high"]) (.bi "sorted" (.list [(.idx (.var "home") (.var "k")),(.idx (.var "home") (.var "j"))])),
  .assign (.name "home") (.comp (.ite (.cmp .eq (.var "one") (.var "high")) (.var "low") (.var "one")) [(.mk ["one"] (.seq (.var "home")) [])]),
  .assign (.name "goes_on") (.bool aj)] []] m'
theorem Mm{N low bY:ag}{h:ag->ag}{ha n:ag}{m:Env}{s:af O}{Q:V->af O->Prop}(ne:s≠[])(hN:N<=1000)(tw:s[ha]?=ae (.list (je N h)))(m1:m "home"=ae (.ref ha))(m2:m "low"=ae (.int low))(m3:m "high"=ae (.int bY))(hn:10<=n)(q:∀s',bM s s'->s'[s.length]?=ae (.list (je N (glue h low bY)))->Q (.ref s.length) s'):Wp ((run prog n).ev (.comp (.ite (.cmp .eq (.var "one") (.var "high")) (.var "low") (.var "one")) [(.mk ["one"] (.seq (.var "home")) [])]) m) Q s:=by
 refine qc hn ?_;have sp:(je N h).flatMap (λv=>[match v with|.int i=>if(i==(bY:aJ))=aj then V.int low else .int i|v=>v])=je N (glue h low bY):=by
  rw[bO];unfold je;refine iz.trans<|List.map_congr_left λi _=>(?_:(if((h i:aJ)==(bY:aJ))=aj then V.int low else .int (h i))=.int (glue h low bY i));unfold glue;by_cases c:h i=bY
  ·exact az (aF (by simp[c]))<|az (aF c) ac
  ·exact az (aG (by simp;lia))<|az (aG c) ac
 refine fW Dv Dv.rM (eS (aN m1 ⟨ha,_,ac,tw,tw,ne,λv=>[match v with|.int i=>if(i==(bY:aJ))=aj then V.int low else .int i|v=>v],?_,?_,?_⟩))
 ·show((je N h).flatMap _).length<=_;rewrite[bO,be,be];refine az lP ?_;exact tB hN ac
 ·intro v hv s2 e2 pR;refine bH (bt.mp hv) λi hi z1=>?_;subst z1;refine dj (λq=>ne (dM.mp q)) ac (dD ⟨bM.refl _,vZ (dT (aN ac (aN m3 (dE ac ⟨_,ac,?_⟩))))⟩);by_cases c:((h i:aJ)==(bY:aJ))=aj
  ·refine az (aF c)<|aN m2 ⟨bM.refl _,V.int low,?_,λ_ _=>ac⟩;show[if((h i:aJ)==(bY:aJ))=aj then V.int low else .int (h i)]=_;exact az (aF c) ac
  ·refine az (aG c)<|aN ac ⟨bM.refl _,V.int (h i),?_,λ_ _=>ac⟩;show[if((h i:aJ)==(bY:aJ))=aj then V.int low else .int (h i)]=_;exact az (aG c) ac
 ·intro s' rs e' ha al;have j1:=al.eq.trans sp;subst j1;exact q s' e' ha
theorem oK{x y:ag}:dh [V.int x,V.int y]=if x<y then[V.int x,V.int y] else[V.int y,V.int x]:=by
 show(if V.lt (V.int x) (V.int y) then _ else _)=_;by_cases c:x<y
 ·exact az (aF c) (aF (by exact dI ‹_›))
 ·exact az (aG c) (aG (by simpa[V.T7] using c))
theorem Mn{u4:af V}{n0:ag}{R:Flow×Env->af O->Prop}(ok:g.Ok)(ne:s≠[])(haa:s[aa]?=ae (.list u4)):∀(B:af (ag×ag))(m:Env)(s2:af O)(h:ag->ag)(ha:ag)(b:aY),(∀p∈B,(p.1<g.T.length/\p.2<g.T.length)/\∀q,gR g td q->q p.1=q p.2)->bM s s2->m "terms"=ae (.ref ta)->m "told"=ae (.ref n0)->m "home"=ae (.ref ha)->m "goes_on"=ae (.bool b)->s2[ha]?=ae (.list (je g.T.length h))->uW g td h->(∀m' s' h' zD b',m' "terms"=ae (.ref ta)->m' "told"=ae (.ref n0)->m' "home"=ae (.ref zD)->m' "goes_on"=ae (.bool b')->bM s s'->s'[zD]?=ae (.list (je g.T.length h'))->uW g td h'->(b'=aQ->b=aQ/\h'=h/\∀p∈B,h p.1=h p.2)->cnt h' g.T.length+b'.toNat<=cnt h g.T.length+b.toNat->R (.next,m') s')->Wp (c9 ⟨u4,.list aa u4⟩ (F6 (n+20)) (B.map r6) m) R s2:=by
 intro l0;induction l0 with
 |nil=>exactλm s2 h ha b _ e m1 m2 m3 m4 tw H K=>jB (e _ _ haa) (K m s2 h ha b m1 m2 m3 m4 e tw H (λq=>⟨q,ac,λp h=>by simp at h⟩) (aP _))
 |cons oo B ih=>
  obtain⟨k,j⟩:=oo;intro m s2 h ha b hB e m1 m2 m3 m4 tw H K;refine fB (hB (k,j) (.head _)) λz2 hq=>fB z2 λhk hj=>?_;have hs:=ok.small;have ne2:s2≠[]:=λq=>by subst q;exact ne (dM.mp (kO.mp e.len))
  have look:∀{y:aA}{i:ag}{n:ag}{m':Env}{K:V->af O->Prop},m' "home"=ae (.ref ha)->m' y=ae (.int i)->i<g.T.length->K (.int (h i)) s2->Wp ((run prog (n+2)).ev (.idx (.var "home") (.var y)) m') K s2:=λmh my hi kk=>
   ef (aN mh (aN my (fA tw (zh h hi) (by simp;lia) kk)))
  refine hV (e _ _ haa) (bK ac (bV (ic (dT (look m3 ac hk (look m3 ac hj (dE ac ⟨_,ac,?_⟩)))))));by_cases c:h k=h j
  ·refine az (aG (by simp[c]))<|bV (c6 (c6<|ih _ s2 h ha b (λp h=>hB p (.tail _ h)) e m1 m2 m3 m4 tw H λm' s' h2 zD b' a1 a2 a3 a4 a5 a6 a7 a8 a9=>K m' s' h2 zD b' a1 a2 a3 a4 a5 a6 a7 (λq=>⟨(a8 q).1,(a8 q).2.1,λp hp=>?_⟩) a9));rcases ci.mp hp with rfl|hp
   ·exact c
   ·exact(a8 q).2.2 p hp
  ·refine az (aF (by simp;lia)) ?_;have two:∀{low bY:ag},low<bY->dh [V.int (h k),V.int (h j)]=[.int low,.int bY]->(h k=low/\h j=bY)\/(h k=bY/\h j=low)->Wp ((run prog (n+19)).ex [.assign (.names ["low","high"]) (.bi "sorted" (.list [(.idx (.var "home") (.var "k")),(.idx (.var "home") (.var "j"))])),
     .assign (.name "home") (.comp (.ite (.cmp .eq (.var "one") (.var "high")) (.var "low") (.var "one")) [(.mk ["one"] (.seq (.var "home")) [])]),.assign (.name "goes_on") (.bool aj)] (m.bind ["k","j"] [.int k,.int j])) (After (run prog (n+19)) [] λr s'=>match r with|(.next,m')=>Wp (c9 ⟨u4,.list aa u4⟩ (F6 (n+20)) (B.map r6) m') R s'|(.ret v,m')=>R (.ret v,m') s') s2:=by
    intro low bY jE ZV Eg
    refine bV (uN (fm (et (aH (look m3 ac hk (aH (look m3 ac hj (aT ⟨by exact lB ac,pO (bF _ _) (qD (l:=[h k,h j]) (by simp[c]) (by exact lB ac))<|az ZV ?_⟩))))))))
    have e2:bM s2 (s2++[O.list [.int (h k),.int (h j)]]++[O.list [.int low,.int bY]]):=(bM.push _ _).trans (bM.push _ _)
    refine AN (bF _ _) ⟨ac,c8 (Mm (h:=h) (by simp) (tB hs ac) (e2 _ _ tw) m3 ac ac (lB ac) λs3 e3 h3=>c8 (th (c6 (c6 ?_))))⟩
    have hl:=H.le
    have hhl:h low=low/\h bY=bY:=by rcases Eg with⟨x,y⟩|⟨x,y⟩<;>exact⟨by first|(refine dm x ?_;exact H.ji _)|(refine dm y ?_;exact H.ji _),by first|(refine dm y ?_;exact H.ji _)|(refine dm x ?_;exact H.ji _)⟩
    have hN:bY<g.T.length:=by have:=hl k;have:=hl j;rcases Eg with⟨x,y⟩|⟨x,y⟩<;>lia
    refine ih _ s3 (glue h low bY) _ aj (λp h=>hB p (.tail _ h)) (e.trans (e2.trans e3)) m1 m2 ac ac h3 (H.glue hq jE Eg) λm' s' h2 zD b' a1 a2 a3 a4 a5 a6 a7 a8 a9=>K m' s' h2 zD b' a1 a2 a3 a4 a5 a6 a7 (λq=>by cases(a8 q).1) ?_
    simp at a9
    exact lT a9 (lT (F5 jE hN hl hhl.2) (bc _ _))
   refine(JW c).elim (λq=>?_) λq=>?_
   ·exact two q (by(refine az oK ?_;exact(aF q))) (.inl ⟨ac,ac⟩)
   ·exact two q (by(refine az oK ?_;exact(aG (cU (bz q))))) (.inr ⟨ac,ac⟩)
end
section
variable{g:Gr}{td:af (ag×ag)}{ta tl:ag}{s:af O}
theorem GB.symm{g:Gr}{q:ag->ag}{i j:ag}(c:GB g q i j):GB g q j i:=by exact KF c λt u l l' a b c d e f=>⟨u,t,l',l,b,a,d,c,e.symm,f.symm⟩
theorem GB.lt{g:Gr}{q:ag->ag}{i j:ag}(c:GB g q i j):i<g.T.length:=by exact bn c λt u l l' a _=>(bq.mp a).1
theorem DZ{R:Flow×Env->af O->Prop}(ok:g.Ok)(dp:g.zZ)(ne:s≠[])(oN:s[ta]?=ae (.list (g.T.map Tm.enc)))(htl:s[tl]?=ae (.list (td.map r6)))(htd:∀p∈td,p.1<g.T.length/\p.2<g.T.length)(hz:td.length<=100):∀(c:ag)(h:ag->ag)(m:Env)(s2:af O)(ha:ag)(b:aY)(n:ag),cnt h g.T.length+b.toNat<=c->70+c<=n->bM s s2->m "terms"=ae (.ref ta)->m "told"=ae (.ref tl)->m "home"=ae (.ref ha)->m "goes_on"=ae (.bool b)->s2[ha]?=ae (.list (je g.T.length h))->uW g td h->(b=aQ->gR g td h)->(∀m' s' h' zD,m' "home"=ae (.ref zD)->bM s s'->s'[zD]?=ae (.list (je g.T.length h'))->uW g td h'->gR g td h'->R (.next,m') s')->Wp ((run prog n).wl (.var "goes_on") [.assign (.name "goes_on") (.bool aQ),.assign (.name "alike") (.bi "list" (.var "told")),.loop ["k"] (.range (.bi "len" (.var "terms"))) [.loop ["j"] (.range (.var "k")) [xQ]],.loop ["k","j"] (.seq (.var "alike")) [.iff (.cmp .ne (.idx (.var "home") (.var "k")) (.idx (.var "home") (.var "j"))) [.assign (.names ["low","high"]) (.bi "sorted" (.list [(.idx (.var "home") (.var "k")),(.idx (.var "home") (.var "j"))])),.assign (.name "home") (.comp (.ite (.cmp .eq (.var "one") (.var "high")) (.var "low") (.var "one")) [(.mk ["one"] (.seq (.var "home")) [])]),.assign (.name "goes_on") (.bool aj)] []]] m) R s2:=by
 intro c;induction c with
 |zero=>
  intro h m s2 ha b n hc hn e m1 m2 m3 m4 tw H hb K;obtain⟨n,rfl⟩:∃k,n=k+60:=⟨n-60,fs ‹_› ac⟩;induction b with
  |true=>simp at hc
  |false=>exact vz (aN m4 ⟨aQ,ac,K m s2 h ha m3 e tw H (hb ac)⟩)
 |succ c ih=>
  intro h m s2 ha b n hc hn e m1 m2 m3 m4 tw H hb K;obtain⟨n,rfl⟩:∃k,n=k+61:=⟨n-61,A7 ‹_› ac⟩;induction b with
  |false=>exact vz (aN m4 ⟨aQ,ac,K m s2 h ha m3 e tw H (hb ac)⟩)
  |true=>
   have hs:=ok.small;have ne2:s2≠[]:=λq=>by subst q;exact ne (dM.mp (kO.mp e.len))
   refine vz (aN m4 ⟨aj,ac,az (aF ac)<|bV (c8 (th (c8 (fm (aN m2<|Pt (e _ _ htl) (by rw[be];exact tB hz ac) ?_)))))⟩);have f1:=bM.push s2 (O.list (td.map r6));refine jh (rN (fm (aN m1 (gJ (f1 _ _ (e _ _ oN)) (by rw[be];exact tB hs ac) ⟨_,ac,by rw[be];exact fJ (tB hs ac),?_⟩))));rw[be];refine Ia (tl:=tl) (h:=h) ok dp ne2 (e _ _ oN) tw (lB ac) (c5 g.T.length) _ _ td (λk hk=>by simpa using hk) f1 ⟨m2,ac,m1,m3,ac⟩ (bF s2 _) (by exact az lP (tB (aE hz (mR hs)) ac)) λm3' s3 A E3 e3 h3 T3 c3=>?_;have hA:∀p∈A,(p.1<g.T.length/\p.2<g.T.length)/\∀q,gR g td q->q p.1=q p.2:=λp hp=>by
    rcases T3.2 p hp with q|⟨a,b,q⟩
    ·exact⟨htd p q,λq' Q=>Q.1 p.1 p.2 q⟩
    ·exact⟨⟨a,b⟩,λq' Q=>(H.cgr q Q).symm⟩
   have ne3:s3≠[]:=λq=>by subst q;exact ne2 (dM.mp (kO.mp e3.len))
   refine jh (eS (aN E3.alike ⟨_,_,ac,h3,Mn (g:=g) (td:=td) (n:=n+39) ok ne3 h3 A m3' s3 h ha aQ hA (bM.refl _) E3.ie E3.vA E3.BO E3.Uj (e3 _ _ tw) H λm' s' h' zD b' a1 a2 a3 a4 a5 a6 a7 a8 a9=>c6<|ih h' m' s' zD b' _ (by simp at a9 hc;exact lT ‹_› ‹_›) (by lia) (e.trans (e3.trans a5)) a1 a2 a3 a4 a6 a7 (λZt=>qg (a8 Zt) λ_ z1 o6=>?_) K⟩));replace z1:=z1.symm;subst z1;refine⟨λa b zC=>o6 (a,b) (T3.1 _ zC),λi j cg=>?_⟩;have li:=cg.lt;rcases rB i j with q|q|q
   ·exact o6 (i,j) (c3 j (by simpa using cg.symm.lt) i q cg.symm)
   ·exact az q ac
   ·exact(o6 (j,i) (c3 i (by simpa using li) j q cg)).symm
theorem D0{N:aJ}:iV "listRange" (.int N)=(if fits N&&bh (N<=16777216) then newList ((c5 N.toNat).map λ(k:ag)=>.int k) else fail):=ac
theorem z0{N:aJ}{s:af O}{Q:V->af O->Prop}(h:0<=N/\N<=1000)(q:Q (.ref s.length) (s++[.list ((c5 N.toNat).map λ(k:ag)=>.int k)])):Wp (iV "listRange" (.int N)) Q s:=by
 rw[D0,aF (by
  simp -iota only[cY,di];exact⟨fits_of (by lia) (by lia),by lia⟩)]
 exact fD (by simp;lia) q
theorem D1{N:ag}{s:af O}{Q:V->af O->Prop}(h:N<=1000)(q:Q (.ref s.length) (s++[.list (je N id)])):Wp (iV "listRange" (.int N)) Q s:=by refine z0 (by lia) ?_;rw[vq];exact q
theorem Mp{pa n:ag}{ps:af (Tm×Tm)}{Q:V->af O->Prop}(ok:g.Ok)(dp:g.zZ)(ne:s≠[])(oN:s[ta]?=ae (.list (g.T.map Tm.enc)))(Kv:s[pa]?=ae (.list (ps.map λp=>.tup [p.1.enc,p.2.enc])))(PO:∀p∈ps,p.1∈g.T/\p.2∈g.T)(hz:ps.length<=100)(hn:90<=n)(q:∀s' a h,bM s s'->s'[a]?=ae (.list (je g.T.length h))->uW g (ps.map λp=>(g.ix p.1,g.ix p.2)) h->gR g (ps.map λp=>(g.ix p.1,g.ix p.2)) h->Q (.ref a) s'):Wp ((run prog n).cl "" "_law_closed" [.ref ta,.ref pa]) Q s:=by
 refine gc hn ?_;have hs:=ok.small;refine cN (pf:=tG) ac ac (uN (eN (aH (fm (fm (aN ac (gJ oN (by rw[be];exact tB hs ac) ?_)))))));rw[be];refine D1 (tB hs ac) (aH (th (aT (bx ⟨ac,c8 ?_⟩))));have e1:=bM.push s (O.list (je g.T.length id));have sp:(ps.map λp=>V.tup [p.1.enc,p.2.enc]).flatMap (λv=>match v with|.tup [x,y]=>[r6 (g.ix (iF x),g.ix (iF y))]|_=>[])=(ps.map λp=>(g.ix p.1,g.ix p.2)).map r6:=by
  rewrite[fj];refine az iz ?_;have j1:∀l:af (Tm×Tm),(l.flatMap λp=>[r6 (g.ix (iF p.1.enc),g.ix (iF p.2.enc))])=l.map (r6∘λp=>(g.ix p.1,g.ix p.2)):=λl=>by rw[bO];refine wH λp _=>?_;rw[gj,gj];rfl
  exact j1 ps
 refine fW Dv Dv.rM (eS (aN ac ⟨pa,_,ac,e1 _ _ Kv,e1 _ _ Kv,by simp,λv=>match v with|.tup [x,y]=>[r6 (g.ix (iF x),g.ix (iF y))]|_=>[],?_,?_,?_⟩))
 ·exact lT (bJ (bf t4 sp)) (by simp;lia)
 ·intro v hv s2 e2 pR;refine bH (bt.mp hv) λp hp z2=>?_;subst z2;rcases eX.mp (PO p hp).1 with⟨i,hi⟩;refine eh (eX.mp (PO p hp).2) λj hj=>?_;show FL Dv _ _ [r6 (g.ix (iF p.1.enc),g.ix (iF p.2.enc))] s2;rewrite[gj,gj];refine az (ok.ix hi)<|az (ok.ix hj) ?_;have Yo:=e2 _ _ (e1 _ _ oN);exact dj (by simp) ac (dD ⟨bM.refl _,eN (aH (DY ok dp ac ac Yo hi (aH (DY ok dp ac ac Yo hj (aT ⟨bM.refl _,_,ac,λ_ _=>ac⟩)))))⟩)
 ·intro s2 rs e2 ha al;have j2:=al.eq.trans sp;subst j2;have Uk:=e1.trans e2;have ne2:s2≠[]:=λq=>by subst q;exact ne (dM.mp (kO.mp Uk.len))
  refine DH (DZ ok dp ne2 (Uk _ _ oN) ha (λp hp=>?_) (by simpa using hz) 6 id _ s2 _ aj _ ?_ (lB ac) (bM.refl _) ac ac ac ac (e2 _ _ (bF s _)) ⟨λi=>aP i,λi=>ac,λq Q i=>ac⟩ (λh=>by cases h) λm' s' h' zD k1 k2 k3 k4 k5=>dZ (aN k1 (q s' zD h' (Uk.trans k2) k3 k4 k5)))
  ·refine bH (bt.mp hp) λp0 Ul z3=>?_;subst z3;exact eh (eX.mp (PO p0 Ul).1) λi hi=>eh (eX.mp (PO p0 Ul).2) λj hj=>⟨by refine az (ok.ix hi) ?_;exact(bq.mp hi).1,by refine az (ok.ix hj) ?_;exact(bq.mp hj).1⟩
  ·have j3:=oG g.T.length λi=>id i==i;unfold cnt;exact aR (lT j3 hs)
end
theorem il(k v u:V):∀es:af (V×V),bI u (du k v es)=if V.beq k u then ae v else bI u es:=by
 intro l0;induction l0 with
 |nil=>exact ac
 |cons oo es ih=>
  obtain⟨a,b⟩:=oo;refine az kj ?_;by_cases c:V.beq a k=aj
  ·refine az (aF c) ?_;have j1:=V.eq_of_beq _ _ c;subst j1;refine(?_:(if V.beq a u then ae v else bI u es)=if V.beq a u then ae v else(if V.beq a u then ae b else bI u es));split<;>rfl
  ·refine az (aG c) ?_;show(if V.beq a u then ae b else bI u (du k v es))=if V.beq k u then ae v else(if V.beq a u then ae b else bI u es)
   refine az ih ?_;by_cases d:V.beq a u=aj
   ·refine az (aF d)<|az (aF d) ?_;rewrite[aG];rfl;intro e;exact c (by(refine az (V.eq_of_beq _ _ d) ?_;refine az (V.eq_of_beq _ _ e) ?_);exact V.beq_refl u)
   ·exact az (aG d)<|az (aG d) ac
theorem Mq{k u:V}(h:k≠u):∀es:af (V×V),bI u (lm k es)=bI u es:=by
 intro l0;induction l0 with
 |nil=>exact ac
 |cons oo es ih=>
  obtain⟨a,b⟩:=oo;refine az qN ?_;by_cases c:V.beq a k=aj
  ·refine az (aF c) ?_;show _=if V.beq a u then ae b else bI u es
   rw[aG];intro e;exact h (by(refine dm (V.eq_of_beq _ _ c) ?_;exact(V.eq_of_beq _ _ e)))
  ·refine az (aG c) ?_;show(if V.beq a u then ae b else bI u (lm k es))=if V.beq a u then ae b else bI u es
   exact az ih ac
theorem F7{k:V}:∀{es:af (V×V)}{p:V×V},p∈lm k es->p∈es:=by
 intro es;induction es with
 |nil=>exact id
 |cons q es ih=>
  intro p h;replace h:=qN▸h;by_cases c:V.beq q.1 k=aj
  ·replace h:=(aF c)▸h;exact .tail _ h
  ·replace h:=(aG c)▸h;exact ci.mpr ((ci.mp h).imp id ih)
theorem PP{k v:V}:∀{es:af (V×V)},bI k es=ae v->(lm k es).length+1=es.length:=by
 intro l0;induction l0 with
 |nil=>exactλh=>eP h
 |cons oo es ih=>
  obtain⟨a,b⟩:=oo;intro h;replace h:=nV▸h;refine az qN ?_;split at h
  ·rename_i c;refine az (aF c) ?_;rfl
  ·rename_i c;refine az (aG c) ?_;show(lm k es).length+1+1=es.length+1;exact az (ih h) ac
theorem iT{k v:V}:∀{es:af (V×V)},bI k es=ae v->(k,v)∈es:=by
 intro l0;induction l0 with
 |nil=>exactλh=>eP h
 |cons oo es ih=>
  obtain⟨a,b⟩:=oo;intro h;replace h:=nV▸h;split at h
  ·rename_i c;replace h:=aU h;subst h;refine az (V.eq_of_beq _ _ c) ?_;exact .head _
  ·exact .tail _ (ih h)
theorem AW{k u v:V}:∀{es:af (V×V)},bI u (es++[(k,v)])=(bI u es).or (if V.beq k u then ae v else aC):=by
 intro l0;induction l0 with
 |nil=>exact ac
 |cons oo es ih=>
  obtain⟨a,b⟩:=oo;refine(?_:(if V.beq a u then ae b else bI u (es++[(k,v)]))=(if V.beq a u then ae b else bI u es).or _);split
  ·rfl
  ·exact ih
theorem PQ{a b:ag}(h:a≠b):V.int a≠V.int b:=λe=>h (iQ e)
theorem pZ{a b:ag}(h:a≠b)(v:V)(es:af (V×V)):bI (.int b) (du (.int a) v es)=bI (.int b) es:=by rw[il,aG];intro e;exact PQ h (V.eq_of_beq _ _ e)
theorem l9(k v:V)(es:af (V×V)):bI k (du k v es)=ae v:=by(rewrite[il];exact(aF (V.beq_refl k)))
section
variable{s:af O}{Q:V->af O->Prop}
theorem Um{a i:ag}{l:af V}{v:V}{K:cH->af O->Prop}(h:s[a]?=ae (.list l))(h0:a≠0)(hi:i<l.length)(hz:l.length<=16777216)(q:K () (s.set a (.list (l.set i v)))):Wp (yb (.ref a) (.int i) v) K s:=by
 refine aZ (wp_load h (?_:Wp (if bh (0<=(i:aJ))&&bh ((i:aJ)<l.length)&&fits (i:aJ) then store a (.list (l.set (i:aJ).toNat v)) else fail) K s));rw[aF (by
  simp only[cY,di];exact⟨⟨tq _,u5.mpr hi⟩,fJ (bz (lR hi (tB hz ac)))⟩)]
 exact jZ (bq.mp h).1 h0 q
theorem XA{a:ag}{l:af V}{v:V}(h:s[a]?=ae (.list (l++[v])))(h0:a≠0)(hz:l.length<16777216)(q:Q v (s.set a (.list l))):Wp (iJ (.ref a) "pop" []) Q s:=by refine fz (f:=λi vs=>if vs.length<=16777216 then bP (vs.getLast?) λv=>cI (store i (.list vs.dropLast)) λ_=>ret v else fail) h<|az (aF (by exact az ct hz))<|bK (a:=v) (by simp) (aZ (jZ (bq.mp h).1 h0 (bx ?_)));exact az XB (q)
theorem Uo{a:ag}{es:af (V×V)}{k:aJ}{v:V}(h:s[a]?=ae (.dict es))(h0:a≠0)(hv:bI (.int k) es=ae v)(hz:es.length<16777216)(q:Q v (s.set a (.dict (lm (.int k) es)))):Wp (iJ (.ref a) "pop" [.int k]) Q s:=by exact bK (a:=k) (f:=λk=>dictAt (.ref a) λi es=>if es.length<16777216 then bP (bI (.int k) es) λv=>cI (store i (.dict (lm (.int k) es))) λ_=>ret v else fail) ac (oz h<|az (aF hz) (bK hv (aZ (jZ (bq.mp h).1 h0 (bx q)))))
theorem Mu{a:ag}{es:af (V×V)}{k d:V}(h:s[a]?=ae (.dict es))(h0:a≠0)(pk:V.pure k=aj)(hz:es.length<16777216)(q:match bI k es with
  |some v=>Q v s
  |none=>Q d (s.set a (.dict (es++[(k,d)])))):Wp (iJ (.ref a) "setdefault" [k,d]) Q s:=by
 refine oz (f:=λi es=>if V.pure k&&bh (es.length<16777216) then match bI k es with
   |some v=>ret v
   |none=>cI (store i (.dict (es++[(k,d)]))) λ_=>ret d
   else fail) h ?_
 refine az (aF (by simpa using⟨pk,hz⟩)) ?_
 cases e:bI k es with
 |some v=>replace q:=e▸q;exact bx q
 |none=>replace q:=e▸q;exact aZ (jZ (bq.mp h).1 h0 (bx q))
end
theorem Ib(x y:ag):cZ [V.int x,V.int y]=aj:=by show(_&&(once [V.int x,V.int y]||true)&&_)=aj;rw[Bool.or_true];rfl
section
variable{x:St}{s:af O}{r:ag->ag}{N:ag}{Q:V->af O->Prop}{la:af ag}
theorem UF.glue{up:af V}(U:UF up N r){low bY:ag}(hl:r low=low)(hh:r bY=bY)(jE:low<bY):UF (up.set bY (.int low)) N (glue r low bY):=by
 refine⟨by refine az gK ?_;exact U.len,U.small,λi hi=>?_,λi=>?_,λi=>?_⟩
 ·by_cases c:i=bY
  ·subst c;refine⟨low,by(exact(Rg (by refine az U.len ?_;exact hi))),bz ‹_›,?_,?_⟩
   ·unfold Internal.glue;refine az (aF hh) ?_;rfl
   ·unfold Internal.glue;exact az (aF hh)<|az hl (aG (b8 ‹_›))
  ·refine xU (U.at_ i hi) λj h1 h2 h3 h4=>⟨j,by refine(cj (dK c)).trans ?_;exact h1,h2,?_,?_⟩
   ·refine h3.trans ?_;unfold Internal.glue;by_cases d:r i=bY
    ·exact az (aF d)<|az d<|⟨λe=>aV e.symm c,λe=>by
      replace d:=(km e)▸d;exact(hl▸d).symm.trans e⟩
    ·refine az (aG d) ?_;rfl
   ·unfold Internal.glue;exact az h4 ac
 ·unfold Internal.glue;exact if c:r i=bY then az (aF c) (lT (bz jE) (c▸U.le i)) else az (aG c) (U.le i)
 ·unfold Internal.glue;by_cases c:r i=bY
  ·exact az (aF c)<|az hl (aG (b8 ‹_›))
  ·refine az (aG c) ?_;rewrite[U.ji];exact(aG c)
theorem wz{a b n:ag}(h:bM x.L s)(U:UF x.up N r)(fU:x.fU=la.map V.ref)(Qs:la.Nodup)(vC:∀a∈la,22<=a/\a<s.length)(F8:la.length=N)(L:∀c a,r c=c->la[c]?=ae a->∃l,s[a]?=ae (.list (nats l))/\l.Nodup/\∀i,i∈l↔i<N/\r i=c)(ha:a<N)(hb:b<N)(hN:N<=5)(hmg:x.mg.length<=1000)(hn:40<=n)(q0:r a=r b->∀s',bM s s'->Q .none s')(q1:∀low bY,low<bY->((r a=low/\r b=bY)\/(r a=bY/\r b=low))->∀s' al ah l1 l2,la[low]?=ae al->la[bY]?=ae ah->s[al]?=ae (.list (nats l1))->s[ah]?=ae (.list (nats l2))->bM {x with up:=x.up.set bY (.int low),mg:=x.mg++[V.tup [V.int low,V.int bY]]}.L s'->s'[al]?=ae (.list (nats l1++nats l2))->(∀(b:ag) o,b≠14->b≠16->b≠al->s[b]?=ae o->s'[b]?=ae o)->s.length<=s'.length->Q (.tup [.int low,.int bY]) s'):Wp ((run prog n).cl "Unions" "merge" [.ref 13,.int a,.int b]) Q s:=by
 refine gc hn ?_;have start:∀{low bY:ag}{m:Env}{K:Flow×Env->af O->Prop}{ss:af PS},dh [V.int (r a),V.int (r b)]=[.int low,.int bY]->m "self"=ae (.ref 13)->m "a"=ae (.int a)->m "b"=ae (.int b)->(∀s',bM s s'->Wp (dY (run prog (38)) ss (m.bind ["kept","gone"] [.int low,.int bY])) K s')->Wp (dY (run prog (38)) (.assign (.names ["kept","gone"]) (.bi "sorted" (.list [(.cu (.var "self") "find" [(.var "a")]),(.cu (.var "self") "find" [(.var "b")])]))::ss) m) K s:=by intro low bY m K ss ZV m1 m2 m3 k;exact uN (fm (et (aH (kd m1 (h _ _ ac) (h _ _ ac) ac (aH (aN m2 (aT (nB h U _ a ha _ (eY (tB (bL (b9 (lR ha hN))) ac)) (aH (kd m1 (h _ _ ac) (h _ _ ac) ac (aH (aN m3 (aT (nB h U _ b hb _ (eY (tB (bL (b9 (lR hb hN))) ac)) (aT ⟨by exact lB ac,pO (bF _ _) (Ib _ _)<|az ZV (AN (bF _ _) ⟨ac,k _ ((bM.push _ _).trans (bM.push _ _))⟩)⟩)))))))))))))))
 by_cases c:r a=r b
 ·refine cN (pf:=mv) ac ac (start (by(refine az oK ?_;refine az c ?_;exact(aG (bS _)))) ac ac ac λs' e=>?_);exact ic (dT (aN ac (aN ac (dE ac ⟨_,ac,az (aF (by exact aF ac)) (bV (dZ (HN (q0 c s' e))))⟩))))
 ·have go:∀low bY,low<bY->((r a=low/\r b=bY)\/(r a=bY/\r b=low))->dh [V.int (r a),V.int (r b)]=[.int low,.int bY]->Wp ((run prog (40)).cl "Unions" "merge" [.ref 13,.int a,.int b]) Q s:=by
   intro low bY jE Eg ZV;have rl:r low=low:=Eg.elim (λh=>h.1▸U.ji a) λh=>h.2▸U.ji b;have rh:r bY=bY:=Eg.elim (λh=>h.2▸U.ji b) λh=>h.1▸U.ji a;have Vu:bY<N:=Eg.elim (λh=>h.2▸rL (U.le b) hb) λh=>h.1▸rL (U.le a) ha;have PR:la[low]?=ae la[low]:=dq (lR jE (bz (lR Vu (bJ F8.symm))));have Vv:la[bY]?=ae la[bY]:=dq (lR Vu (bJ F8.symm));generalize la[low]=al at PR;generalize la[bY]=ah at Vv;refine jj (L _ _ rl PR) λl1 a1 a2 a3=>jj (L _ _ rh Vv) λl2 b1 b2 b3=>?_;have nab:al≠ah:=λe=>by exact cU (bJ ((o9 (lR jE (F8▸bz Vu)) Qs).mp (PR.trans ((bf ae e).trans Vv.symm))).symm) jE
   have F9:=vC al (cw PR);have ll:∀{c a':ag}{l:af ag},(l.Nodup)->(∀i,i∈l↔i<N/\r i=c)->l.length<=5:=λnd mm=>lT (gi (l:=c5 N) nd λi hi=>jO.mpr ((mm i).mp hi).1) (by simp;assumption);have l1l:=ll (a':=0) a2 a3;have l2l:=ll (a':=0) b2 b3;refine cN (pf:=mv) ac ac (start ZV ac ac ac λs0 e0=>?_);have h0:=h.trans e0;refine ic (dT (aN ac (aN ac (dE ac ⟨_,ac,az (aG (by simp;lia)) ?_⟩))));have hul:=U.len;refine bV (c6 (v3 (aN ac (eU ac (h0 _ _ ac) (h0 _ _ ac) ac (aN ac (Um (h0 14 _ ac) (by decide) (lR Vu (bJ hul.symm)) (hul▸tB hN ac) ?_))))));have h1:bM {x with up:=x.up.set bY (.int low)}.L (s0.set 14 (.list (x.up.set bY (.int low)))):=fH h0 (show 14<22 by decide) _;have b0:=(e0.len);have p1:(s0.set 14 (.list (x.up.set bY (.int low))))[al]?=ae (.list (nats l1)):=by refine az (cj (b8 (lR (lB ac) F9.1))) ?_;exact e0 _ _ a1
   have p2:(s0.set 14 (.list (x.up.set bY (.int low))))[ah]?=ae (.list (nats l2)):=by refine az (cj ((nE (vC ah (cw Vv)).1 ac).symm)) ?_;exact e0 _ _ b1
   have x1:x.fU[low]?=ae (.ref al):=by(refine az fU ?_;refine az (gw) ?_;refine az PR ?_);rfl
   have x2:x.fU[bY]?=ae (.ref ah):=by(refine az fU ?_;refine az (gw) ?_;refine az Vv ?_);rfl
   have xl:x.fU.length<=16777216:=by(refine az fU ?_;rewrite[be]);exact F8▸tB hN ac
   refine fE (eG (ef (eU ac (h1 _ _ ac) (h1 _ _ ac) ac (aN ac (fA (h1 15 _ ac) x1 xl ⟨al,_,ac,p1,.inl ac,aH (ef (eU ac (h1 _ _ ac) (h1 _ _ ac) ac (aN ac (fA (h1 15 _ ac) x2 xl (aT ⟨⟨_,p1,ac⟩,rS p1 p2 nab (nE F9.1 ac) (by simp[nats];lia) ⟨bp,?_⟩⟩)))))⟩)))));have h2:bM {x with up:=x.up.set bY (.int low)}.L ((s0.set 14 (.list (x.up.set bY (.int low)))).set al (.list (nats l1++nats l2))):=h1.set F9.1 _;refine fE (eG (eU ac (h2 _ _ ac) (h2 _ _ ac) ac ⟨16,_,ac,h2 16 _ ac,.inl ac,aH (eN (aH (aN ac (aH (aN ac (aT (aT ⟨⟨_,h2 16 _ ac,ac⟩,fc (h2 16 _ ac) (by decide) (by show x.mg.length<_;exact tL hmg ac) ⟨bp,dZ (eN (aH (aN ac (aH (aN ac (aT<|q1 low bY jE Eg _ al ah l1 l2 PR Vv a1 b1 (fH h2 (by decide:16<22) _) ?_ (λb o n1 n2 n3 e=>?_) (by simpa using b0)))))))⟩⟩)))))))⟩))
   ·exact az (cj (b8 (lR (lB ac) F9.1))) (hO (by exact az gK (lR F9.2 b0)) _)
   ·refine az (cj (dK n2)) ?_;refine az (cj (dK n3)) ?_;exact az (cj (dK n1)) (e0 _ _ e)
  rcases JW c with d|d
  ·exact go _ _ d (.inl ⟨ac,ac⟩) (by(refine az oK ?_;exact(aF d)))
  ·exact go _ _ d (.inr ⟨ac,ac⟩) (by(refine az oK ?_;exact(aG (cU (bz d)))))
end
structure Us(g:Gr)(r:ag->ag)(c:ag)(l:af ag):Prop where
 all:∀{n k:ag}{ln:af ag},g.ks[n]?=ae ln->k∈ln->r k=c->n∈l
 lt:∀n∈l,n<g.T.length
 len:l.length<=g.ks.flatten.countP λk=>r k==c
structure aaz(g:Gr)(td:af (ag×ag))(p:V×V):Prop where
 ex:∃(o:ag)(t:Tm)(ln l:af ag),p=(.tup (.str t.op::nats l),.int o)/\g.T[o]?=ae t/\g.ks[o]?=ae ln/\∀q,gR g td q->l.map q=ln.map q
structure MI(g:Gr)(td:af (ag×ag))(x:St)(s:af O)(la:af ag)(r:ag->ag)(w:af ag):Prop where
 ok:g.Ok
 h:bM x.L s
 dz:pQ g x.dz
 U:UF x.up g.T.length r
 fU:x.fU=la.map V.ref
 F8:la.length=g.T.length
 Qs:la.Nodup
 vC:∀a∈la,22<=a/\a<s.length
 L:∀c a,r c=c->la[c]?=ae a->∃l,s[a]?=ae (.list (nats l))/\l.Nodup/\∀i,i∈l↔i<g.T.length/\r i=c
 sound:∀q,gR g td q->∀i,q (r i)=q i
 Ic:∀p∈x.ab,∃b,p.2=.ref b/\22<=b/\b<s.length/\b∉la
 Qt:x.ab.length<=5
 ab:∀c,c<g.T.length->r c=c->∃b l,bI (.int c) x.ab=ae (.ref b)/\s[b]?=ae (.list (nats l))/\Us g r c l
 wait:x.wait=nats w
 Yp:∀n∈w,n<g.T.length
 known:∀p∈x.known,aaz g td p
noncomputable def mf(x:St)(r:ag->ag)(w:af ag)(N:ag):ag:=x.eg.length+x.fo.length+x.mg.length+x.known.length+3*w.length+50*cnt r N
structure Aa(x:St)(la:af ag)(b:ag):Prop where
 la:b∉la
 ab:∀p∈x.ab,p.2≠.ref b
noncomputable def Kp(x:St)(la:af ag)(s:af O)(x':St)(Ab:af ag)(s':af O):Prop:=∀(b:ag)(o:O),(b<4\/22<=b)->Aa x la b->s[b]?=ae o->Aa x' Ab b/\s'[b]?=ae o
theorem Kp.trans{x1 x2 x3:St}{l1 l2 l3:af ag}{s1 s2 s3:af O}(a:Kp x1 l1 s1 x2 l2 s2)(b:Kp x2 l2 s2 x3 l3 s3):Kp x1 l1 s1 x3 l3 s3:=λc o h p e=>let⟨p',e'⟩:=a c o h p e;b c o h p' e'
structure Bk(x x':St):Prop where
 dz:x'.dz=x.dz
 nums:x'.nums=x.nums
 ws:x'.ws=x.ws
 ds:x'.ds=x.ds
theorem Bk.trans{x y z:St}(a:Bk x y)(b:Bk y z):Bk x z:=⟨b.dz.trans a.dz,b.nums.trans a.nums,b.ws.trans a.ws,b.ds.trans a.ds⟩
theorem Bk.refl(x:St):Bk x x:=⟨ac,ac,ac,ac⟩
section
variable{g:Gr}{td:af (ag×ag)}{x:St}{s:af O}{la:af ag}{r:ag->ag}{w:af ag}{Q:V->af O->Prop}
theorem MI.move(I:MI g td x s la r w){x':St}{s':af O}(n:x'.dz=x.dz)(u:x'.up=x.up)(lo:x'.fU=x.fU)(ab:x'.ab=x.ab)(wt:x'.wait=x.wait)(kn:x'.known=x.known)(h':bM x'.L s')(k:∀(b:ag) o,22<=b->¬Aa x la b->s[b]?=ae o->s'[b]?=ae o)(hl:s.length<=s'.length):MI g td x' s' la r w where
 ok:=I.ok
 h:=h'
 dz:=n▸I.dz
 U:=u▸I.U
 fU:=lo.trans I.fU
 F8:=I.F8
 Qs:=I.Qs
 vC:=λa ha=>⟨(I.vC a ha).1,lR (I.vC a ha).2 hl⟩
 L:=λc a h1 h2=>let⟨l,a1,a2⟩:=I.L c a h1 h2;⟨l,k _ _ (I.vC a (cw h2)).1 (λz=>z.la (cw h2)) a1,a2⟩
 sound:=I.sound
 Ic:=λp hp=>let⟨b,b1,b2,b3,b4⟩:=I.Ic p (ab▸hp);⟨b,b1,b2,lR b3 hl,b4⟩
 Qt:=ab▸I.Qt
 ab:=λc h1 h2=>by
  refine kS (I.ab c h1 h2) λb l b1 b2 b3=>jj (I.Ic _ (iT b1)) λ_ c1 c2 _=>?_
  replace c1:=Internal.V.ref.inj c1
  subst c1
  exact⟨_,l,ab▸b1,k _ _ c2 (λz=>z.ab _ (iT b1) ac) b2,b3⟩
 wait:=wt.trans I.wait
 Yp:=I.Yp
 known:=λp hp=>I.known p (kn▸hp)
theorem MI.ext(I:MI g td x s la r w){s':af O}(e:bM s s'):MI g td x s' la r w:=I.move ac ac ac ac ac ac (I.h.trans e) (λb o _ _ h=>e b o h) e.len
theorem PU(ok:g.Ok):g.ks.flatten.length<=10:=by
 have j1:=fF (f:=λl:af ag=>l) (k:=2) (l:=g.ks) λl hl=>by refine eh (eX.mp hl) λi hi=>?_;have h1:=(bq.mp hi).1;exact ok.lk (dq (ok.len▸h1)) hi
 replace j1:=List.flatMap_id'▸j1;have h2:=ok.small;exact lT j1 (mR (ok.len▸h2))
theorem Us.DL{c:ag}{l:af ag}(u:Us g r c l)(ok:g.Ok):l.length<=10:=lT u.len (lT List.countP_le_length (PU ok))
theorem zi(a b:af ag):nats a++nats b=nats (a++b):=by simp[nats]
theorem Ga{low bY:ag}(hl:r low=low)(tX:low≠bY):∀l:af ag,(l.countP λk=>glue r low bY k==low)=(l.countP λk=>r k==low)+l.countP λk=>r k==bY:=by
 intro l0;induction l0 with
 |nil=>exact ac
 |cons k l ih=>
  refine az PV<|az PV<|az PV<|az ih ?_;have j1:glue r low bY k=if r k=bY then low else r k:=ac
  by_cases c:r k=bY
  ·refine az j1<|az (aF c)<|az c<|az (jG.mpr (dK tX)) ?_;rewrite[gE,gE];rfl
  ·exact az j1<|az (aG c)<|az (jG.mpr c)<|Nat.add_right_comm _ _ _
theorem XC{e:V}{N:ag}:mf {x with eg:=x.eg++[e]} r w N<=mf x r w N+1:=by unfold mf;rewrite[ct];exact bJ (by simp only[Kz];lia)
theorem Mv{e:V×V}{N:ag}:mf {x with known:=x.known++[e]} r w N<=mf x r w N+1:=by unfold mf;rewrite[ct];exact bJ (by simp only[Kz];lia)
theorem Uq{z:af V}{i N:ag}:mf {x with wait:=z} r w N+3<=mf x r (w++[i]) N:=by unfold mf;rewrite[ct];exact bJ (Dp _ _ _)
theorem Vx{N:ag}:w.length<=mf x r w N:=lT (pU _ (lB ac)) (lT (gU (3*_) _) (bc _ _))
theorem Mw{N:ag}:x.eg.length<=mf x r w N/\x.fo.length<=mf x r w N/\x.mg.length<=mf x r w N/\w.length<=mf x r w N:=by have b {a d e f:ag} (h:a<=d):a<=d+e+f:=eY (eY h);have a:x.eg.length+x.fo.length<=mf x r w N:=b (b (aP _));exact⟨lT (bc _ _) a,lT (gU _ _) a,b (eY (gU _ _)),Vx⟩
theorem PW{x':St}{r':ag->ag}{w':af ag}{N:ag}(he:x'.eg.length=x.eg.length+1)(hf:x'.fo.length=x.fo.length+1)(hm:x'.mg.length=x.mg.length+1)(hk:x'.known=x.known)(hw:w'.length<=w.length+10)(c:cnt r' N+1<=cnt r N):16+mf x' r' w' N<=mf x r w N/\w'.length+10*cnt r' N<=w.length+10*cnt r N:=by unfold mf;rw[he,hf,hm,hk];refine⟨?_,lT (aR hw) (by rw[wC,oP 10];exact bL (mL c))⟩;lia
structure J(g:Gr)(a b:ag)(x:St)(s:af O)(la:af ag)(r:ag->ag)(w:af ag)(x':St)(s':af O)(r':ag->ag)(w':af ag):Prop where
 eq:r' a=r' b
 co:∀i j,r i=r j->r' i=r' j
 ne:r a≠r b->16+mf x' r' w' g.T.length<=mf x r w g.T.length/\w'.length+10*cnt r' g.T.length<=w.length+10*cnt r g.T.length
 any:mf x' r' w' g.T.length<=mf x r w g.T.length+1/\w'.length+10*cnt r' g.T.length<=w.length+10*cnt r g.T.length
 same:r a=r b->w'=w
 known:x'.known=x.known
 sub:∀n∈w,n∈w'
 key:∀{n:ag}{t:Tm}{l:af ag},g.T[n]?=ae t->g.ks[n]?=ae l->n∈w'\/cL r' t l=cL r t l
 XD:Bk x x'
 kp:Kp x la s x' la s'
section
variable{low bY c i:ag}
theorem nG:glue r low bY i=if r i=bY then low else r i:=ac
theorem AX(rh:r bY=bY)(e:glue r low bY c=c)(n:c≠low):r c=c/\c≠bY:=by
 rw[nG] at e;split at e
 ·exact aV e.symm n
 ·rename_i d;exact⟨e,λz=>d (z▸rh)⟩
theorem zj(n1:c≠low)(n2:c≠bY):glue r low bY i=c↔r i=c:=by
 rw[nG];split
 ·rename_i d;exact⟨λz=>aV z.symm n1,λz=>aV (z.symm.trans d) n2⟩
 ·exact yH
theorem Gb:glue r low bY i=low↔(r i=low\/r i=bY):=by
 rw[nG];split
 ·rename_i d;exact⟨λ_=>.inr d,λ_=>ac⟩
 ·rename_i d;exact⟨.inl,λz=>z.elim id λz=>aV z d⟩
end
theorem KA{a b n:ag}{R:af V}(I:MI g td x s la r w)(ha:a<g.T.length)(hb:b<g.T.length)(zC:∀q,gR g td q->q a=q b)(hp:mf x r w g.T.length<=900)(hn:60<=n)(q:∀x' s' r' w' v,MI g td x' s' la r' w'->J g a b x s la r w x' s' r' w'->Q (.bool v) s'):Wp ((run prog n).cl "Heap" "join" [.ref 5,.int a,.int b,.tup R]) Q s:=by
 refine gc hn ?_;have h:=I.h;have hs:=I.ok.small;have Yq:x.eg.length<=900/\x.fo.length<=900/\x.mg.length<=900/\w.length<=900:=X5 (Mw (x:=x) (r:=r) (w:=w)) λa b c d=>⟨lT a hp,lT b hp,lT c hp,lT d hp⟩;refine cN (pf:=vN) ac ac (fE (eG (eU ac (h _ _ ac) (h _ _ ac) ac ⟨17,_,ac,h 17 _ ac,.inl ac,aH (eN (aH (aN ac (aH (aN ac (aH (aN ac (aT (aT ⟨⟨_,h 17 _ ac,ac⟩,fc (h 17 _ ac) (by decide) (tL Yq.1 ac) ⟨bp,?_⟩⟩)))))))))⟩)));generalize XE:s.set 17 (.list (x.eg++[V.tup [V.int a,V.int b,V.tup R]]))=s1;have h1:bM {x with eg:=x.eg++[V.tup [V.int a,V.int b,V.tup R]]}.L s1:=XE▸fH h (by decide:17<22) _;have k1:∀(b:ag) o,b≠17->s[b]?=ae o->s1[b]?=ae o:=λb' o hb e=>by(refine dm XE ?_;refine az (cj (dK hb)) ?_);exact e
 have ls1:s1.length=s.length:=by refine dm XE ?_;exact gK
 have l1:=ls1;have I1:MI g td {x with eg:=x.eg++[V.tup [V.int a,V.int b,V.tup R]]} s1 la r w:=I.move ac ac ac ac ac ac h1 (λb o hb _ e=>k1 b o (bZ (lR (lB ac) hb)) e) (bJ l1.symm);refine c8 (iu (eU ac (h1 _ _ ac) (h1 _ _ ac) ac ⟨_,_,_,_,ac,h1 _ _ ac,h1 _ _ ac,ac,aH (aN ac (aH (aN ac (aT (wz h1 I1.U I1.fU I1.Qs I1.vC I1.F8 I1.L ha hb hs (by show x.mg.length<=_;exact tB Yq.2.2.1 ac) (lB ac) (λc s2 e2=>?_) (λlow bY jE Eg s2 al ah l1 l2 PR Vv a1 a2 h2 a3 k2 Ud=>?_))))))⟩))
 ·exact ic (dT (aN ac (HN (dE ac ⟨_,ac,az (aF ac)<|bV (dZ (th (q _ _ r w _ (I1.ext e2) ⟨c,λ_ _ e=>e,λd=>aV c d,⟨XC,aP _⟩,λ_=>ac,ac,λ_ h=>h,λ_ _=>.inr ac,⟨ac,ac,ac,ac⟩,λb o hb P e=>⟨⟨P.la,P.ab⟩,e2 _ _ (k1 _ _ (nO hb ac ac) e)⟩⟩)))⟩))))
 ·have I2:=I1;have H':=(⟨I.U.le,I.U.ji,I.sound⟩:uW g td r).glue zC jE Eg;have rl:r low=low:=Eg.elim (λh=>h.1▸I.U.ji a) λh=>h.2▸I.U.ji b;have rh:r bY=bY:=Eg.elim (λh=>h.2▸I.U.ji b) λh=>h.1▸I.U.ji a;have Vu:bY<g.T.length:=Eg.elim (λh=>h.2▸rL (I.U.le b) hb) λh=>h.1▸rL (I.U.le a) ha;refine kS (I1.ab low (lR jE (bz Vu)) rl) λbk lk k3 k4 k5=>kS (I1.ab bY Vu rh) λbg lg g3 g4 g5=>xU (I1.Ic _ (iT k3)) λ_ hbk KC aa0 aaA=>?_;replace hbk:=Internal.V.ref.inj hbk;subst hbk;refine xU (I1.Ic _ (iT g3)) λ_ hbg KD aa1 aaB=>?_;replace hbg:=Internal.V.ref.inj hbg;subst hbg;have hkl:=k5.DL I.ok;have dL:=g5.DL I.ok;have ZW:=cw PR;have XG:=I1.vC al ZW;have ng:bg≠al:=λe=>aaB (e▸ZW);have k6:=k2 bk _ (bZ (lR (lB ac) KC)) (bZ (lR (lB ac) KC)) (λe=>aaA (e▸ZW)) k4;have g6:=k2 bg _ (nE KD ac) (nE KD ac) ng g4;refine ic (dT (aN ac (HN (dE ac ⟨_,ac,az (aG cE)<|bV (c6 (uN (aN ac (bx ⟨ac,fE (eG (eU ac (h2 _ _ ac) (h2 _ _ ac) ac ⟨18,_,ac,h2 18 _ ac,.inl ac,aH (gh (fm (eU ac (h2 _ _ ac) (h2 _ _ ac) ac (gJ (h2 17 _ ac) (by simp;lia) (cS (xN (fJ (by simp;lia)) ac (aT ⟨⟨_,h2 18 _ ac,ac⟩,fc (h2 18 _ ac) (by decide) (by show x.fo.length<_;exact tL Yq.2.1 ac) ⟨bp,?_⟩⟩)))))))⟩))⟩))))⟩))));generalize hfo:V.int (((x.eg++[V.tup [V.int a,V.int b,V.tup R]]).length:aJ)-1)=fv;generalize Gc:s2.set 18 (.list (x.fo++[fv]))=s3;have l3:s3.length=s2.length:=by refine dm Gc ?_;exact gK
  have FB:∀(b:ag) o,b≠18->s2[b]?=ae o->s3[b]?=ae o:=λb' o hb e=>by(refine dm Gc ?_;refine az (cj (dK hb)) ?_);exact e
  have h3:bM {x with up:=x.up.set bY (.int low),mg:=x.mg++[V.tup [V.int low,V.int bY]],eg:=x.eg++[V.tup [V.int a,V.int b,V.tup R]],fo:=x.fo++[fv]}.L s3:=Gc▸fH h2 (by decide:18<22) _;have g7:=FB bg _ (bZ (lR (lB ac) KD)) g6;refine fE (eG (eU ac (h3 _ _ ac) (h3 _ _ ac) ac ⟨21,_,ac,h3 21 _ ac,.inl ac,aH (ef (eU ac (h3 _ _ ac) (h3 _ _ ac) ac (aN ac (lX (h3 20 _ ac) ac g3 (aT ⟨⟨_,h3 21 _ ac,ac⟩,rS (h3 21 _ ac) g7 (b8 ‹_›) (by decide) (by show x.wait.length+_<=_;refine az I.wait ?_;simp[nats];lia) ⟨bp,?_⟩⟩)))))⟩));generalize XH:s3.set 21 (.list (x.wait++nats lg))=s4;have l4:s4.length=s3.length:=by refine dm XH ?_;exact gK
  have FM:∀(b:ag) o,b≠21->s3[b]?=ae o->s4[b]?=ae o:=λb' o hb e=>by(refine dm XH ?_;refine az (cj (dK hb)) ?_);exact e
  have h4:bM {x with up:=x.up.set bY (.int low),mg:=x.mg++[V.tup [V.int low,V.int bY]],eg:=x.eg++[V.tup [V.int a,V.int b,V.tup R]],fo:=x.fo++[fv],wait:=x.wait++nats lg}.L s4:=XH▸fH h3 (by decide:21<22) _;have Qt:=I1.Qt;have g8:=FM bg _ (bZ ‹_›) g7;have d20:∀(b:ag)(o:O)(d:O),b≠20->s4[b]?=ae o->(s4.set 20 d)[b]?=ae o:=λb' o d hb e=>by refine az (cj (dK hb)) ?_;exact e
  refine v3 (gh (ef (eU ac (h4 _ _ ac) (h4 _ _ ac) ac (aN ac (lX (h4 20 _ ac) ac k3 (eG (eU ac (h4 _ _ ac) (h4 _ _ ac) ac ⟨20,_,ac,h4 20 _ ac,.inr ac,aH (aN ac (aT ⟨⟨_,h4 20 _ ac,ac⟩,Uo (h4 20 _ ac) (by decide) g3 (by show x.ab.length<_;exact rL Qt (by decide)) (rP (d20 _ _ _ (nE KC ac) (FM bk _ (bZ ‹_›) (FB bk _ (nE KC ac) k6))) (d20 _ _ _ (by exact nE KD ac) g8) (by simp[nats];lia) ?_)⟩))⟩)))))));generalize ZX:s4.set 20 (.dict (lm (.int bY) x.ab))=s5;have l5:s5.length=s4.length:=by refine dm ZX ?_;exact gK
  have k5':∀(b:ag) o,b≠20->s4[b]?=ae o->s5[b]?=ae o:=λb' o hb e=>ZX▸d20 b' o _ hb e;refine az l5 ?_;have h6:bM {x with up:=x.up.set bY (.int low),mg:=x.mg++[V.tup [V.int low,V.int bY]],eg:=x.eg++[V.tup [V.int a,V.int b,V.tup R]],fo:=x.fo++[fv],wait:=x.wait++nats lg,ab:=lm (.int bY) x.ab}.L (s5++[.list (nats lk++nats lg)]):=bM.trans (ZX▸fH h4 (by decide:20<22) _) (bM.push s5 _);have dl:(lm (.int bY) x.ab).length+1=x.ab.length:=PP g3;have aaC:x.ab.length<=5:=Qt;refine eU ac (h6 _ _ ac) (h6 _ _ ac) ac (aN ac (pT (h6 20 _ ac) (by decide) ac (by show(lm (.int bY) x.ab).length<_;exact tL (lT (bc _ _) (dl▸Qt)) ac) (dZ (th ?_))));generalize FS:(s5++[O.list (nats lk++nats lg)]).set 20 (.dict (du (.int low) (.ref s4.length) (lm (.int bY) x.ab)))=s7;have h7:bM {x with up:=x.up.set bY (.int low),mg:=x.mg++[V.tup [V.int low,V.int bY]],eg:=x.eg++[V.tup [V.int a,V.int b,V.tup R]],fo:=x.fo++[fv],wait:=x.wait++nats lg,ab:=du (.int low) (.ref s4.length) (lm (.int bY) x.ab)}.L s7:=FS▸fH h6 (by decide:20<22) _;have l7:s7.length=s4.length+1:=by refine dm FS ?_;simp[l5]
  have k7:∀(b:ag) o,b≠20->s4[b]?=ae o->s7[b]?=ae o:=λb o hb e=>by exact dm FS<|az (cj (dK hb)) (bM.push _ _ _ _ (k5' b o hb e))
  have aaD:s7[s4.length]?=ae (.list (nats lk++nats lg)):=by have h22:22<=s4.length:=h4.len;refine dm FS<|az (cj (b8 (lR (lB ac) h22))) ?_;exact dm l5 (bF _ _)
  have K:∀(b:ag) o,(b<14\/22<=b)->b≠al->s[b]?=ae o->s7[b]?=ae o:=λb o hb n e=>k7 _ _ (nO hb ac ac) (FM _ _ (nO hb ac ac) (FB _ _ (nO hb ac ac) (k2 _ _ (nO hb ac ac) (nO hb ac ac) n (k1 _ _ (nO hb ac ac) e))));have HL:s.length<=s4.length:=az l4 (az l3 (lT (bJ ls1.symm) Ud));have la1:∀c a',c≠low->la[c]?=ae a'->a'≠al:=λc a' n e z=>by have hc:=(bq.mp e).1;exact n ((o9 hc I.Qs).mp (e.trans ((bf ae z).trans PR.symm)))
  have laS:∀a'∈la,a'<s.length:=λa' h=>(I.vC a' h).2;have cl:=F5 (h:=r) jE Vu I.U.le rh;have pj:=PW (x:=x) (x':={x with up:=x.up.set bY (.int low),mg:=x.mg++[V.tup [V.int low,V.int bY]],eg:=x.eg++[V.tup [V.int a,V.int b,V.tup R]],fo:=x.fo++[fv],wait:=x.wait++nats lg,ab:=du (.int low) (.ref s4.length) (lm (.int bY) x.ab)}) (lS ac) (lS ac) (lS ac) ac (show(w++lg).length<=w.length+10 from ct▸bL dL) cl;refine q _ s7 (glue r low bY) (w++lg) aj ⟨I.ok,h7,I.dz,I.U.glue rl rh jE,I.fU,I.F8,I.Qs,λa' h=>⟨(I.vC a' h).1,by have j3:=laS a' h;exact lR j3 (lT HL (l7▸bc _ _))⟩,λc a' hc PJ=>?_,H'.sound,λp hp=>?_,?_,λc hc hrc=>?_,by show x.wait++nats lg=_;(refine az I.wait ?_;rewrite[zi];rfl),λn hn=>(cR.mp hn).elim (I.Yp n) (g5.lt n),I.known⟩ ⟨?_,λi j e=>by(rewrite[nG,nG];refine az e ?_;rfl),λd=>pj,⟨lT (gU _ 16) (lT pj.1 (bc _ _)),pj.2⟩,λe=>?_,ac,λn h=>i5 _ h,λ{n t l} ht hl=>?_,⟨ac,ac,ac,ac⟩,λb' o hb P e=>⟨⟨P.la,λp hp=>?_⟩,K _ _ (by lia) (λz=>P.la (z▸ZW)) e⟩⟩
  ·by_cases z:c=low
   ·replace z:=z.symm;subst z;cases PR.symm.trans PJ;refine jj (I1.L _ _ rl PR) λm1 b1 b2 b3=>jj (I1.L _ _ rh Vv) λm2 c1 c2 c3=>?_;replace b1:=a1▸b1;replace c1:=a2▸c1;have e1:nats l1=nats m1:=by injection b1 with b1;injection b1
    have e2:nats l2=nats m2:=by injection c1 with c1;injection c1
    refine⟨m1++m2,?_,?_,λi=>?_⟩
    ·rewrite[<-zi];exact dm e1<|dm e2 (k7 _ _ (bZ (lR (lB ac) XG.1)) (FM _ _ (bZ (lR (lB ac) XG.1)) (FB _ _ (bZ (lR (lB ac) XG.1)) a3)))
    ·refine lK.mpr ⟨b2,c2,λi hi j hj z=>?_⟩;subst z;have j4:=((b3 i).mp hi).2;have j5:=((c3 i).mp hj).2;exact b8 (j4▸jE) j5
    ·rw[cR,b3,c3,Gb];constructor
     ·rintro(⟨z1,z2⟩|⟨z1,z2⟩)
      ·exact⟨z1,.inl z2⟩
      ·exact⟨z1,.inr z2⟩
     ·rintro⟨z1,z2|z2⟩
      ·exact .inl ⟨z1,z2⟩
      ·exact .inr ⟨z1,z2⟩
   ·refine fB (AX rh hc z) λz1 z2=>jj (I.L c a' z1 PJ) λl b1 b2 b3=>⟨l,K _ _ (.inr (I.vC a' (cw PJ)).1) (la1 c a' z PJ) b1,b2,λi=>?_⟩;rw[b3,zj z z2]
  ·have nl:s4.length∉la:=λz=>by have j6:=laS _ z;exact cU HL j6
   have ZY:22<=s4.length:=h4.len;rcases qG hp with z|rfl|⟨a',w',z,rfl⟩
   ·exact xU (I.Ic p (F7 z)) λb b1 b2 b3 b4=>⟨b,b1,b2,lR b3 (lT HL (l7▸bc _ _)),b4⟩
   ·exact⟨_,ac,ZY,l7▸de _,nl⟩
   ·exact⟨_,ac,ZY,l7▸de _,nl⟩
  ·show(du _ _ (lm _ x.ab)).length<=5;have z:=mF (.int low) (.ref s4.length) (lm (.int bY) x.ab);exact lT z (dl▸aaC)
  ·by_cases z:c=low
   ·replace z:=z.symm;subst z;refine⟨s4.length,lk++lg,l9 _ _ _,by(refine az aaD ?_;rewrite[zi];rfl),λ{n k ln} a1 a2 a3=>?_,λn h=>(cR.mp h).elim (k5.lt n) (g5.lt n),?_⟩
    ·rcases Gb.mp a3 with z|z
     ·exact i5 _ (k5.all a1 a2 z)
     ·exact i6 _ (g5.all a1 a2 z)
    ·refine az ct ?_;rewrite[Ga rl (b8 ‹_›)];have j7:=k5.len;have j8:=g5.len;exact aE j7 j8
   ·refine fB (AX rh hrc z) λz1 z2=>kS (I.ab c hc z1) λb l b1 b2 b3=>xU (I.Ic _ (iT b1)) λ_ c1 c2 c3 c4=>?_;replace c1:=Internal.V.ref.inj c1;subst c1;refine⟨b,l,?_,K _ _ (.inr c2) (λe=>c4 (e▸ZW)) b2,λ{n k ln} a1 a2 a3=>b3.all a1 a2 ((zj z z2).mp a3),b3.lt,lT b3.len (bJ (List.countP_congr λk _=>?_))⟩
    ·show bI (.int c) (du _ _ (lm _ x.ab))=_;rw[pZ (dK z),Mq (PQ (dK z2))];exact b1
    ·simp only[jp];exact(zj z z2).symm
  ·rewrite[nG,nG];exact Eg.elim (λz=>az z.1 (az z.2 ((aG (b8 jE)).trans (aF ac).symm))) λz=>az z.1 (az z.2 ((aF ac).trans (aG (b8 jE)).symm))
  ·exact aV (Eg.elim (λz=>z.1.symm.trans (e.trans z.2)) λz=>z.2.symm.trans (e.symm.trans z.1)) (b8 jE)
  ·by_cases z:∃k∈l,r k=bY
   ·exact bH z λk z1 z2=>.inl (i6 _ (g5.all hl z1 z2))
   ·refine .inr ?_;unfold cL;refine bf (λz=>V.tup (.str t.op::z)) (wH λk hk=>?_);rewrite[nG];exact az (aG λe=>z ⟨k,hk,e⟩) ac
  ·rcases qG hp with z|rfl|⟨a',w',z,rfl⟩
   ·exact P.ab p (F7 z)
   ·intro e;injection e with e;have j9:=(bq.mp ‹s[b']?=some o›).1;exact rJ (e▸j9) HL
   ·intro e;injection e with e;exact cU (e▸HL) ((bq.mp ‹s[b']?=some o›).1)
end
noncomputable def Cp(g:Gr)(x:St)(r:ag->ag)(w:af ag)(e:ag->Prop):Prop:=∀{n:ag}{t:Tm}{l:af ag},g.T[n]?=ae t->g.ks[n]?=ae l->¬e n->n∈w\/∃o:ag,bI (cL r t l) x.known=ae (.int o)/\o<g.T.length/\r o=r n
structure Lk(g:Gr)(x:St)(s:af O)(la:af ag)(r:ag->ag)(w:af ag)(x':St)(s':af O)(r':ag->ag)(w':af ag):Prop where
 co:∀i j,r i=r j->r' i=r' j
 mf:mf x' r' w' g.T.length<=mf x r w g.T.length+1
 mu:w'.length+10*cnt r' g.T.length<=w.length+10*cnt r g.T.length
 same:(∀i j,r' i=r' j->r i=r j)->w'=w/\x'.ab=x.ab
 XD:Bk x x'
 kp:Kp x la s x' la s'
section
variable{g:Gr}{td:af (ag×ag)}{x:St}{s:af O}{la:af ag}{r:ag->ag}{w:af ag}{Q:V->af O->Prop}
theorem vD{r:ag->ag}{t u:Tm}{l l':af ag}(e:cL r t l=.tup (.str u.op::nats l')):t.op=u.op/\l.map r=l':=by unfold cL at e;injection e with e;injection e with e1 e2;injection e1 with e1;refine⟨e1,?_⟩;simpa using(uX (f:=r) (g:=λj=>j) (l:=l) (l':=l') e2)
theorem AY{q r:ag->ag}(k:∀i,q (r i)=q i)(l:af ag):(l.map r).map q=l.map q:=by simp[tj,k]
theorem zk{i n:ag}(I:MI g td x s la r w)(hi:i<g.T.length)(C:Cp g x r w (·=i))(hp:mf x r w g.T.length<=850)(hn:90<=n)(q:∀x' s' r' w',MI g td x' s' la r' w'->Cp g x' r' w' (λ_=>io)->Lk g x s la r w x' s' r' w'->Q .none s'):Wp ((run prog n).cl "Heap" "look_at" [.ref 5,.int i]) Q s:=by
 refine gc hn ?_;have h:=I.h;have hs:=I.ok.small;have hkn:x.known.length<=850:=by unfold mf at hp;exact lT (eY (eY (gU _ _))) hp
 refine Ed (I.ok.key (r:=r) hi) λt l ht hl _ _=>?_;have fin:∀(x2:St)(s2:af O)(o:ag)(m:Env),MI g td x2 s2 la r w->o<g.T.length->(∀q,gR g td q->q o=q i)->bI (cL r t l) x2.known=ae (.int o)->Cp g x2 r w (·=i)->mf x2 r w g.T.length<=mf x r w g.T.length+1->Bk x x2->Kp x la s x2 la s2->x2.ab=x.ab->m "self"=ae (.ref 5)->m "n"=ae (.int i)->m "other"=ae (.int o)->Wp (dY (run prog (88)) [.iff (.cmp .ne (.cu (.var "self") "find" [(.var "other")]) (.cu (.var "self") "find" [(.var "n")])) [.expr (.cu (.var "self") "join" [(.var "other"),(.var "n"),(.tup [(.str "like")])])] []] m) (λr s=>Q (yZ r.1) s) s2:=by
  intro x2 s2 o m I2 ho hq hd C2 R7 B2 K2 A2 m1 m2 m3;have h2:=I2.h;refine ic (dT (kd m1 (h2 _ _ ac) (h2 _ _ ac) ac (aH (aN m3 (aT (oE h2 I2.U ho (eY (tB (bL (b9 (lR ho hs))) ac)) (kd m1 (h2 _ _ ac) (h2 _ _ ac) ac (aH (aN m2 (aT (oE h2 I2.U hi (eY (tB (bL (b9 (lR hi hs))) ac)) (dE ac ⟨_,ac,?_⟩))))))))))));by_cases c:r o=r i
  ·refine az (aG (by simp[c]))<|bV (c6 (c6 (q x2 s2 r w I2 (λ{k t' l'} a b _=>?_) ⟨λ_ _ e=>e,R7,aP _,λ_=>⟨ac,A2⟩,B2,K2⟩)));by_cases z:k=i
   ·replace z:=z.symm;subst z;replace a:=ht▸a;replace b:=hl▸b;replace a:=aU a;subst a;(replace b:=aU b;subst b);exact .inr ⟨o,hd,ho,c⟩
   ·exact C2 a b z
  ·refine az (aF (by simp;lia))<|bV (fE (kd m1 (h2 _ _ ac) (h2 _ _ ac) ac (aH (aN m3 (aH (aN m2 (aH (eN (aH (gQ (aT (aT (KA I2 ho hi hq (tB (lT R7 (aR hp)) ac) (lB ac) λx3 s3 r3 w3 v I3 j=>⟨bp,c6 (c6 ?_)⟩)))))))))))));have jn:=j.ne c;refine q x3 s3 r3 w3 I3 (λ{k t' l'} a b _=>?_) ⟨j.co,lT (lT (gU _ _) jn.1) R7,jn.2,λinj=>aV (inj _ _ j.eq) c,B2.trans j.XD,K2.trans j.kp⟩;rcases j.key a b with z|z
   ·exact .inl z
   ·refine az z<|az j.known ?_;by_cases y:k=i
    ·replace y:=y.symm;subst y;replace a:=ht▸a;replace b:=hl▸b;replace a:=aU a;subst a;(replace b:=aU b;subst b);exact .inr ⟨o,hd,ho,j.eq⟩
    ·rcases C2 a b y with y|⟨o',y1,y2,y3⟩
     ·exact .inl (j.sub _ y)
     ·exact .inr ⟨o',y1,y2,j.co _ _ y3⟩
 refine cN (pf:=ql) ac ac (c8 (eG (eU ac (h _ _ ac) (h _ _ ac) ac ⟨19,_,ac,h 19 _ ac,.inr ac,aH (kd ac (h _ _ ac) (h _ _ ac) ac (aH (aN ac (aT (AP I.ok h I.dz I.U ht hl (lB ac) λs1 e1=>aH (aN ac (aT ⟨⟨_,(h.trans e1) 19 _ ac,ac⟩,Mu ((h.trans e1) 19 _ ac) (by decide) (md r t l) (by show x.known.length<_;exact tL hkn ac) ?_⟩)))))))⟩)));have I1:=I.ext e1;have K1:Kp x la s x la s1:=λb o _ P e=>⟨P,e1 _ _ e⟩;cases e:bI (cL r t l) x.known with
 |some v=>refine KB ((I.known _ (iT e)).ex) λo t' ln l' e2 a b c=>?_;injection e2 with e2 e3;subst e3;refine fB (vD e2) λe4 e5=>fin x s1 o _ I1 (bq.mp a).1 (λq Q=>(Q.2 i o ⟨t,t',l,ln,ht,a,hl,b,e4,?_⟩).symm) e C (pG _) (Bk.refl _) K1 ac ac ac ac;rewrite[<-AY (I.sound q Q)];exact az e5 (c q Q)
 |none=>
  have h1:=h.trans e1;refine fin {x with known:=x.known++[(cL r t l,.int i)]} _ i _ ?_ hi (λ_ _=>ac) ?_ (λ{k t' l'} a b z=>?_) ?_ ⟨ac,ac,ac,ac⟩ (λb o hb P e=>⟨⟨P.la,P.ab⟩,by refine az (cj ((nO hb ac ac).symm)) ?_;exact e1 _ _ e⟩) ac ac ac ac
  ·refine⟨I1.ok,fH h1 (by decide:19<22) _,I1.dz,I1.U,I1.fU,I1.F8,I1.Qs,λa ha=>⟨(I1.vC a ha).1,by refine az gK ?_;exact(I1.vC a ha).2⟩,λc a u v=>?_,I1.sound,λp hp=>?_,I1.Qt,λc u v=>?_,I1.wait,I1.Yp,λp hp=>?_⟩
   ·exact bH (I1.L c a u v) λl a1 a2=>⟨l,by refine az (cj (b8 (lR (lB ac) ((I1.vC a (cw v)).1)))) ?_;exact a1,a2⟩
   ·exact xU (I1.Ic p hp) λb b1 b2 b3 b4=>⟨b,b1,b2,by refine az gK ?_;exact b3,b4⟩
   ·refine kS (I1.ab c u v) λb l b1 b2 b3=>xU (I1.Ic _ (iT b1)) λ_ c1 c2 c3 c4=>?_;replace c1:=Internal.V.ref.inj c1;subst c1;exact⟨b,l,b1,by refine(cj ((nE c2 ac).symm)).trans ?_;exact b2,b3⟩
   ·rcases cR.mp hp with hp|hp
    ·exact I1.known p hp
    ·exact az (bX.mp hp) (⟨i,t,l,l.map r,by unfold cL nats;simp[tj],ht,hl,λq Q=>AY (I.sound q Q) l⟩)
  ·show bI _ (x.known++_)=_;exact az AW<|az e (aF (V.beq_refl _))
  ·rcases C a b z with y|⟨o,y1,y2,y3⟩
   ·exact .inl y
   ·exact .inr ⟨o,az AW<|az y1 ac,y2,y3⟩
  ·exact Mv
structure ZZ(g:Gr)(x:St)(s:af O)(la:af ag)(r:ag->ag)(x':St)(s':af O)(r':ag->ag):Prop where
 co:∀i j,r i=r j->r' i=r' j
 kp:Kp x la s x' la s'
noncomputable abbrev Ur:PE:=.cmp .gt (.bi "len" (.attr (.var "self") "waiting")) (.int 0)
noncomputable abbrev Ut:af PS:=[.expr (.cu (.var "self") "look_at" [(.cu (.attr (.var "self") "waiting") "pop" [])])]
theorem Gd{m:Env}{R:Flow×Env->af O->Prop}(ms:m "self"=ae (.ref 5)):∀(k:ag)(x:St)(s:af O)(r:ag->ag)(w:af ag)(n:ag),MI g td x s la r w->Cp g x r w (λ_=>io)->mf x r w g.T.length<=850->w.length+10*cnt r g.T.length<=k->k+100<=n->(∀x' s' r',MI g td x' s' la r' []->Cp g x' r' [] (λ_=>io)->ZZ g x s la r x' s' r'->R (.next,m) s')->Wp ((run prog n).wl Ur Ut m) R s:=by
 intro k;induction k with
 |zero=>intro x s r w n I C hp hk hn q;obtain⟨n,rfl⟩:∃k,n=k+6:=⟨n-6,fs ‹_› ac⟩;have h:=I.h;have j1:w=[]:=dM.mp (gT (lT (bc _ _) hk) (bR _));subst j1;have hw:x.wait=[]:=I.wait;refine vz (dT (fm (eU ms (h _ _ ac) (h _ _ ac) ac (gJ (h 21 _ ac) (by refine az hw ?_;decide) (cS (dE ac ⟨_,ac,?_⟩))))));exact az hw<|az (aG (by decide)) (q x s r I C ⟨λ_ _ e=>e,λb o _ P e=>⟨P,e⟩⟩)
 |succ k ih=>
  intro x s r w n I C hp hk hn q;obtain⟨n,rfl⟩:∃k,n=k+6:=⟨n-6,fs ‹_› ac⟩;have h:=I.h;have hw:=I.wait;have Do:w.length<=850:=lT Vx hp;refine vz (dT (fm (eU ms (h _ _ ac) (h _ _ ac) ac (gJ (h 21 _ ac) (by refine az hw ?_;simp[nats];lia) (cS (dE ac ⟨_,ac,?_⟩))))));rcases List.eq_nil_or_concat w with rfl|⟨w0,i,rfl⟩
  ·exact az (show x.wait=[] from hw)<|az (aG (by decide)) (q x s r I C ⟨λ_ _ e=>e,λb o _ P e=>⟨P,e⟩⟩)
  ·refine az hw<|az (aF (by simp[nats])) ?_;rw[List.concat_eq_append] at*;have hw':x.wait=nats w0++[.int i]:=by refine az hw ?_;exact iw
   have hL:s[21]?=ae (.list (nats w0++[.int i])):=by refine dm hw' ?_;exact h 21 _ ac
   refine bV (fE (kd ms (h _ _ ac) (h _ _ ac) ac (aH (eG (eU ms (h _ _ ac) (h _ _ ac) ac ⟨21,_,ac,hL,.inl ac,aT ⟨⟨_,hL,ac⟩,XA hL (by decide) (by simp[nats];simp at Do;exact tL Do ac) (aT ?_)⟩⟩)))));have h1:bM {x with wait:=nats w0}.L (s.set 21 (.list (nats w0))):=fH h (by decide:21<22) _;have I1:MI g td {x with wait:=nats w0} (s.set 21 (.list (nats w0))) la r w0:=by
    refine⟨I.ok,h1,I.dz,I.U,I.fU,I.F8,I.Qs,λa ha=>⟨(I.vC a ha).1,by refine az gK ?_;exact(I.vC a ha).2⟩,λc a u v=>?_,I.sound,λp hp=>?_,I.Qt,λc u v=>?_,ac,λj hj=>I.Yp j (i5 _ hj),I.known⟩
    ·refine bH (I.L c a u v) λl a1 a2=>?_;have:=(I.vC a (cw v)).1;exact⟨l,by refine az (cj (b8 ‹_›)) ?_;exact a1,a2⟩
    ·exact xU (I.Ic p hp) λb b1 b2 b3 b4=>⟨b,b1,b2,by refine az gK ?_;exact b3,b4⟩
    ·refine kS (I.ab c u v) λb l b1 b2 b3=>xU (I.Ic _ (iT b1)) λ_ c1 c2 c3 c4=>?_;replace c1:=Internal.V.ref.inj c1;subst c1;exact⟨b,l,b1,by refine az (cj (b8 ‹_›)) ?_;exact b2,b3⟩
   have C1:Cp g {x with wait:=nats w0} r w0 (·=i):=λ{j t l} a b z=>by
    rcases C a b id with y|y
    ·rcases cR.mp y with y|y
     ·exact .inl y
     ·exact aV (bX.mp y) z
    ·exact .inr y
   have Ul:mf {x with wait:=nats w0} r w0 g.T.length+3<=mf x r (w0++[i]) g.T.length:=by exact Uq
   refine zk I1 (I.Yp i (i6 _ (.head _))) C1 (lT (lT (bc _ _) Ul) hp) (by lia) λx2 s2 r2 w2 I2 C2 k2=>⟨bp,c6 ?_⟩;have hmu:=k2.mu;have Z0:=k2.mf;simp at hk;exact ih x2 s2 r2 w2 _ I2 C2 (by lia) (by lia) (by lia) λx3 s3 r3 I3 C3 S3=>q x3 s3 r3 I3 C3 ⟨λa b e=>S3.co a b (k2.co a b e),Kp.trans (x2:={x with wait:=nats w0}) (l2:=la) (s2:=s.set 21 (.list (nats w0))) (λb o hb P e=>⟨⟨P.la,P.ab⟩,az (cj ((nO hb ac ac).symm)) (e)⟩) (k2.kp.trans S3.kp)⟩
theorem Mx{n:ag}(I:MI g td x s la r w)(C:Cp g x r w (λ_=>io))(hp:mf x r w g.T.length<=850)(hk:w.length+10*cnt r g.T.length<=60)(hn:170<=n)(q:∀x' s' r',MI g td x' s' la r' []->Cp g x' r' [] (λ_=>io)->ZZ g x s la r x' s' r'->Q .none s'):Wp ((run prog n).cl "Heap" "settle" [.ref 5]) Q s:=by obtain⟨n,rfl⟩:∃k,n=k+2:=⟨n-2,fs ‹_› ac⟩;exact cN (pf:=sq) ac ac (DH (Gd ac 60 x s r w _ I C hp hk (fK (d:=0) hn ac) λx' s' r' a b c=>c6 (q x' s' r' a b c)))
theorem D2(I:MI g td x s la r [])(C:Cp g x r [] (λ_=>io))(T:∀p∈td,r p.1=r p.2):uW g td r/\gR g td r:=by
 refine⟨⟨I.U.le,I.U.ji,I.sound⟩,λa b h=>T (a,b) h,λi j ⟨t,u,l,l',a,b,c,d,e,f⟩=>?_⟩;rcases C a c id with z|⟨o,o1,o2,o3⟩
 ·cases z
 rcases C b d id with z|⟨p,p1,p2,p3⟩
 ·exact nomatch z
 have:cL r t l=cL r u l':=by unfold cL;refine az e ?_;have:=bf (List.map λ(j:ag)=>V.int j) f;replace this:=iz▸this;exact bf (λz=>V.tup (.str u.op::z)) (this.trans iz)
 replace o1:=this▸o1;replace o1:=p1▸o1;injection o1 with o1;exact dm o3<|dm p3<|az (iQ o1) ac
theorem Ge{h h':ag->ag}(a:uW g td h)(b:gR g td h)(a':uW g td h')(b':gR g td h'):h=h':=by funext i;have e1:h (h' i)=h i:=a'.sound h b i;have e2:h' (h i)=h' i:=a.sound h' b' i;have j1:=a.le (h' i);have j2:=a'.le (h i);exact gT (e1▸j1) (e2▸j2)
end
section
variable{G:sJ}{n:ag}{m:Env}{st:af O}{Q:V->af O->Prop}
theorem XI{op MZ:GD}{a b c:PE}(h:Wp ((run G n).ev a m) (λv s=>Wp ((run G n).ev b m) (λw s=>Wp (mo op v w) (λr s=>∃b,r=.bool b/\if b then Wp ((run G n).ev c m) (λx s=>Wp (mo MZ w x) Q s) s else Q (.bool aQ) s) s) s) st):Wp ((run G (n+1)).ev (.xX a op b MZ c) m) Q st:=
 aZ (wp_mono h λ_ _ h=>aZ (wp_mono h λ_ _ h=>aZ (wp_mono h λ_ _ h₀=>bH h₀ λb e q=>by
  subst e
  refine aZ (bx ?_)
  induction b
  ·exact bx q
  ·exact aZ q)))
theorem Gf{a:ag}{es:af (V×V)}{vs:af V}(h:st[a]?=ae (.dict es))(pk:V.pure (.tup vs)=aj)(q:Q (.bool (bI (.tup vs) es).isSome) st):Wp (mo .isin (.tup vs) (.ref a)) Q st:=by refine aZ (wp_load h ((az (aF pk) ?_):Wp (if V.pure (.tup vs) then ret (.bool (bI (.tup vs) es).isSome) else fail) Q st));exact bx q
theorem AZ{l:af V}(q:Q (.tup l) st):Wp (iV "tuple" (.tup l)) Q st:=bx q
end
structure Ig(z:aM):Prop where
 ex:∃c:ag,z=⟨#[c]⟩/\64<c/\c<128/\((aB "()[]{},:").cps.toList.any λd=>[d]==[c])=aQ
theorem Ig.a:Ig (aB "a"):=⟨97,ac,by decide,by decide,ac⟩
theorem Ig.b:Ig (aB "b"):=⟨98,ac,by decide,by decide,ac⟩
theorem Ig.f:Ig (aB "f"):=⟨102,ac,by decide,by decide,ac⟩
theorem Ig.g:Ig (aB "g"):=⟨103,ac,by decide,by decide,ac⟩
section
variable{x:St}{s:af O}{Q:V->af O->Prop}{g:Gr}
theorem Ih{c:ag}(h:64<c)(h':c<128):iJ (.str ⟨#[c]⟩) "isspace" [] s=ae (.bool aQ,s):=by
 show(if bh ((⟨#[c]⟩:aM).length=1)&&(⟨#[c]⟩:aM).cps.toList.all (λc=>bh (64<c)&&bh (c<128)) then ret (V.bool aQ) else fail) s=_;rw[aF (by
  show(aj&&((bh (64<c)&&bh (c<128))&&aj))=aj;exact bA ac (bA (bA (eu h) (eu h')) ac))]
 rfl
theorem PX{z:aM}{n:ag}(hz:Ig z)(ne:s≠[])(hn:12<=n)(q:∀s',bM s s'->Q (.bool aj) s'):Wp ((run prog n).cl "" "is_op" [.str z]) Q s:=by
 refine gc hn<|xU hz.ex λc z1 h1 h2 h3=>?_;subst z1;refine cN (pf:=IR) ac ac (dZ (AJ (dT (aN ac (gQ (dE ac ⟨_,ac,az (aF (ac))<|dT (fW Dv Dv.rM (ZN (aN ac ⟨_,ac,bp,ne,λ_=>[],by exact lB ac,?_,?_⟩)))⟩))))))
 ·intro v hv s2 e2 pR;refine bH (bt.mp hv) λd hd z2=>?_;subst z2;have:d=c:=bX.mp ‹_›;subst this;refine dj (λq=>ne (dM.mp q)) ac (oB (TX (TY (aN ac ⟨_,ac,aT (ny (Ih h1 h2) ⟨aQ,ac,?_⟩)⟩))));refine az (aG cE) ?_;refine dT (aN ac (gQ (ny (a:=.bool ((aB "()[]{},:").cps.toList.any λd'=>[d']==[d])) ac ⟨_,ac,bM.refl _,?_⟩)));refine az h3 ?_;refine az (aG cE) ?_;rfl
 ·intro s' rs e' ha al;have:rs=[]:=by have:=al.eq;trivial
  subst this;exact et (aT ⟨by simp,H8 (bM.push _ _ _ _ ha) (bF _ _) ac ac<|q _ (e'.trans (bM.push _ _))⟩)
theorem Ii{z:aM}{n:ag}(h:bM x.L s)(hz:Ig z)(hn:20<=n)(q:∀s',bM s s'->Q .none s'):Wp ((run prog n).cl "Bank" "require" [.ref 7,.str z]) Q s:=by
 refine gc hn<|xU hz.ex λc hc h1 h2 h3=>cN (pf:=qj) ac ac (ic (TX (Vr (fT (aH (aN ac (aT (PX hz (oD h) (lB ac) λs' e'=>⟨aj,ac,aQ,ac,az (aG cE) ?_⟩))))))));subst hc;refine dT (ef (aN ac (cS (ny (a:=.str ⟨#[c]⟩) (s:=s') ac (gQ (dE ac ⟨_,ac,?_⟩))))));rw[aG (by
  intro e;have j1:=bf (λz:aM=>z.cps.toList) (gX e);have j2:[c]=[63]:=j1;injection j2 with j2;exact cU (j2▸lB ac) h1)]
 exact bV (c6 (c6 (q s' e')))
theorem Uu{N n:ag}(h:bM x.L s)(Go:x.up.length=N)(zE:x.fU.length=N)(hN:N<=100)(hn:20<=n)(q:∀s',bM {x with up:=x.up++[V.int N],fU:=x.fU++[V.ref s.length]}.L s'->s'[s.length]?=ae (.list [.int N])->s'.length=s.length+1->(∀(b:ag) o,b≠14->b≠15->s[b]?=ae o->s'[b]?=ae o)->Q (.int N) s'):Wp ((run prog n).cl "Unions" "make" [.ref 13]) Q s:=by
 refine gc hn<|cN (pf:=si) ac ac (fE (eG (eU ac (h _ _ ac) (h _ _ ac) ac ⟨14,_,ac,h 14 _ ac,.inl ac,aH (fm (eU ac (h _ _ ac) (h _ _ ac) ac (gJ (h 14 _ ac) (Go▸tB hN ac) (aT ⟨⟨_,h 14 _ ac,ac⟩,fc (h 14 _ ac) (by decide) (Go▸tL hN ac) ⟨bp,az Go ?_⟩⟩))))⟩)));generalize XE:s.set 14 (.list (x.up++[V.int N]))=s1;have h1:bM {x with up:=x.up++[V.int N]}.L s1:=XE▸fH h (by decide:14<22) _;have l1:s1.length=s.length:=by refine dm XE ?_;exact gK
 have h1p:=h1.trans (bM.push s1 (.list [.int N]));refine fE (eG (eU ac (h1 _ _ ac) (h1 _ _ ac) ac ⟨15,_,ac,h1 15 _ ac,.inl ac,aH (et (aH (fm (eU ac (h1 _ _ ac) (h1 _ _ ac) ac (gJ (h1 15 _ ac) (by show x.fU.length<=_;exact zE▸tB hN ac) (aT ⟨by exact lB ac,aT ?_⟩))))))⟩));show Mr _ _ _ _ _ _ (s1++[O.list [.int x.fU.length]]);refine az zE ⟨⟨_,h1p 15 _ ac,ac⟩,fc (h1p 15 _ ac) (by decide) (by show x.fU.length<_;exact zE▸tL hN ac) ⟨bp,?_⟩⟩;generalize MW:(s1++[O.list [.int N]]).set 15 (.list (x.fU++[V.ref s1.length]))=s2;have h2:bM {x with up:=x.up++[V.int N],fU:=x.fU++[V.ref s1.length]}.L s2:=MW▸fH h1p (show 15<22 by decide) _;have b1:=MX h1;refine dZ (gh (fm (eU ac (h2 _ _ ac) (h2 _ _ ac) ac (gJ (h2 14 _ ac) (by simp;lia) (cS (xN (fJ (by simp;lia)) ac ?_))))));replace h2:=l1▸h2;have j1:((((x.up++[V.int N]).length:ag):aJ)-1)=N:=by simp[Go]
 refine az (show(({x with up:=x.up++[V.int N],fU:=x.fU++[V.ref s1.length]}:St).up).length=(x.up++[V.int N]).length from ac)<|az j1<|q s2 h2 ?_ (by refine dm MW ?_;simp[l1]) λb o n1 n2 e=>?_
 ·refine dm MW<|az (cj (b8 (l1▸lR (lB ac) b1))) ?_;exact dm l1<|bF _ _
 ·refine dm MW<|az (cj (dK n2)) ?_;exact bM.push _ _ _ _ ((λb' o hb e=>by(refine dm XE ?_;refine az (cj (dK hb)) ?_);exact e) b o n1 e)
structure Sm(N:ag)(l:af V):Prop where
 len:l.length=N
 small:∀v∈l,∃w:ag,v=.int w/\w<2^N
structure BK(g:Gr)(x:St):Prop where
 nums:∀{i:ag}{t:Tm}{l:af ag},g.T[i]?=ae t->g.ks[i]?=ae l->bI (cL id t l) x.nums=ae (.int i)
 PY:∀{v u:V},bI v x.nums=ae u->∃(i:ag)(t:Tm)(l:af ag),g.T[i]?=ae t/\g.ks[i]?=ae l/\v=cL id t l
 XJ:x.nums.length<=g.T.length
 abn:x.ab.length<=g.T.length
 ws:Sm g.T.length x.ws
 ds:Sm g.T.length x.ds
 abI:∀{c c' b:ag},bI (.int c) x.ab=ae (.ref b)->bI (.int c') x.ab=ae (.ref b)->c=c'
theorem Gg{i n:ag}{t:Tm}{l:af ag}(h:bM x.L s)(B:BK g x)(ok:g.Ok)(ht:g.T[i]?=ae t)(hl:g.ks[i]?=ae l)(hn:12<=n)(q:Q (.int i) s):Wp ((run prog n).cl "Bank" "take" [.ref 7,.str t.op,.tup (nats l)]) Q s:=by refine gc hn ?_;have hk:=ok.lk ht hl;have d:=B.nums ht hl;refine cN (pf:=qi) ac ac (c8 (gh (eN (aH (aN ac (aT (fm (aN ac (AZ (rO (by simp[nats];lia)<|ic (dT (aN ac (eU ac (h _ _ ac) (h _ _ ac) ac (Gf (h 9 _ ac) (md id t l) ⟨_,ac,?_⟩))))))))))))));rw[aF (by refine az (ac:V.tup ([.str t.op]++nats l)=cL id t l) ?_;show(bI _ x.nums).isSome=aj;refine az d ?_;rfl)];exact bV (dZ (ef (eU ac (h _ _ ac) (h _ _ ac) ac (aN ac (lX (h 9 _ ac) (md id t l) d q)))))
end
section
variable{x:St}{s:af O}{Q:V->af O->Prop}{g:Gr}
noncomputable abbrev Dw(B:ag):af O->V->cH->Prop:=λ_ v _=>∃w:ag,v=.int w/\w<B
theorem Dw.rM{B:ag}:Xp (Dw B):=λ_ _ _ _ _ _ h=>h
theorem PZ{B:ag}{s:af O}{rs:af V}{us:af cH}(a:fb (Dw B s) rs us)(h:us.length<=2):∃ws:af ag,rs=nats ws/\ws.length<=2/\∀w∈ws,w<B:=by
 have hl:=a.len;induction a with
 |nil=>exact⟨[],ac,by decide,λ_ h=>(gu h).elim⟩
 |cons x a ih=>
  refine bH x λw z1 hw=>?_;subst z1;refine jj (ih (by simp at h;exact tB h ac) a.len) λws z2 _ h2=>?_;subst z2;refine⟨w::ws,ac,by simp[nats] at hl;simp at h;exact aR (hl▸h),λv hv=>?_⟩;rcases ci.mp hv with rfl|hv
  ·exact hw
  ·exact h2 v hv
theorem D3:∀ws:af ag,allInts (nats ws)=ae (ws.map λ(w:ag)=>(w:aJ)):=by
 intro l0;induction l0 with
 |nil=>exact ac
 |cons w ws ih=>refine((az ih ?_):(allInts (nats ws)).map ((w:aJ)::·)=_);rfl
theorem XK{a B:ag}{ws:af ag}(h:s[a]?=ae (.list (nats ws)))(hl:ws.length<=2)(hB:∀w∈ws,w<B)(hb:B<=1000)(q:∀v:ag,v<2*B+1->v+2<=2*B\/v=0->Q (.int v) s):Wp (iV "sum" (.ref a)) Q s:=by
 refine fz (f:=λ_ vs=>bP (allInts vs) λis=>if is.all fits&&bh (is.length<1000) then ret (V.int (is.foldl (·+·) 0)) else fail) h<|bK (D3 ws) ?_;rw[aF (by
  simp only[cY,di,eH,be];refine⟨λi hi=>bH (bt.mp hi) λw hw z3=>?_,tL hl ac⟩;subst z3;exact fJ (bz (lR (hB w hw) (tB hb ac))))]
 match ws,hl,hB with
 |[],_,_=>exact bx (q 0 (lB ac) (.inr ac))
 |[w],_,hB=>have:=hB w (.head _);refine bx ?_;show Q (.int (0+(w:aJ))) s;rw[NN];exact q w (by lia) (.inl (by lia))
 |[w,w'],_,hB=>have:=hB w (.head _);have:=hB w' (.tail _ (.head _));refine bx ?_;show Q (.int (0+(w:aJ)+w')) s;rewrite[NN];exact az (ac:(w:aJ)+w'=((w+w':ag):aJ))<|q (w+w') (by lia) (.inl (by lia))
theorem XM{a B:ag}{ws:af ag}(h:s[a]?=ae (.list (nats ws++[.int 0])))(hl:ws.length<=2)(hB:∀w∈ws,w<B)(hb:0<B)(q:∀v:ag,v<B->Q (.int v) s):Wp (iV "max" (.ref a)) Q s:=by
 refine fz (f:=λ_ vs=>bP (allInts vs) λis=>bP (maxOf is) λi=>ret (V.int i)) h ?_;rcases Eh hl with z|z|z
 ·subst z;exact bx (q 0 hb)
 ·refine eh z λw z=>?_;subst z;refine bx ?_;show Q (.int (max (w:aJ) 0)) s;exact az (CC (tq _))<|q w (hB w (.head _))
 ·refine sE z λw w' z=>?_;subst z;have:=hB w (.head _);have:=hB w' (.tail _ (.head _));refine bx ?_;show Q (.int (max (max (w:aJ) w') 0)) s;rcases Nat.le_total w w' with c|c
  ·exact az (WM (xV.mpr c:(w:aJ)<=w'))<|az (CC (tq _)) (q w' (by assumption))
  ·exact az (CC (xV.mpr c:(w':aJ)<=w))<|az (CC (tq _)) (q w (by assumption))
theorem v9{y:aA}{a N n:ag}{l:af ag}{ws:af V}{z:V}{m:Env}(h:bM x.L s)(Xr:Sm N ws)(hN:N<=100)(jE:∀j∈l,j<N)(hl:l.length<=2)(m1:m "self"=ae (.ref 7))(m2:m "node"=ae (.tup (z::nats l)))(hy:rX y [("nodes",V.ref 8),("numbers",.ref 9),("weights",.ref 10),("depths",.ref 11)]=ae (.ref a))(ha:x.L[a]?=ae (.list ws))(hn:10<=n)(q:∀us s',bM s s'->us.length<=2->(∀w∈us,w<2^N)->s'[s.length]?=ae (.list (nats us))->Q (.ref s.length) s'):Wp ((run prog n).ev (.comp (.idx (.attr (.var "self") y) (.var "kid")) [(.mk ["kid"] (.seq (.gB (.var "node"))) [])]) m) Q s:=by
 refine qc hn<|fW (Dw (2^N)) Dw.rM (v5 (lW (aN m2 (kc (l:=nats l) (by simp[nats];lia) ⟨_,ac,bp,oD h,λ_=>[()],?_,?_,?_⟩))))
 ·show((nats l).flatMap λ_=>[()]).length<=_;rw[bO,be];simp[nats];lia
 ·intro v hv s2 e2 pR;refine bH (eO hv) λj hj z4=>?_;subst z4;have h2:=h.trans e2;have MR:ws[j]?=ae (ws[j]'(by refine az Xr.len ?_;exact(jE j hj))):=dq _;exact bH (Xr.small _ (cw MR)) λw hw hb=>dj (DI h) ac (dD ⟨bM.refl _,ef (eU (m1) (h2 _ _ ac) (h2 _ _ ac) hy (aN ac (fA (h2 a _ ha) (hw▸MR) (by refine az Xr.len ?_;exact tB hN ac) ⟨bM.refl _,(),ac,λ_ _=>⟨w,ac,hb⟩⟩)))⟩)
 ·intro s' rs e' zD al;refine jj (PZ al (by show((nats l).flatMap λ_=>[()]).length<=_;rw[bO,be];simp[nats];assumption)) λus z5 u1 u2=>?_;subst z5;exact q us s' e' u1 u2 zD
theorem Gh{n:ag}{t:Tm}{l:af ag}(h:bM x.L s)(B:BK g x)(ok:g.Ok)(hN:pQ g x.dz)(h4:g.T.length<=4)(hz:Ig t.op)(hl:∀j∈l,j<g.T.length)(Gy:l.length<=2)(LJ:bI (cL id t l) x.nums=aC)(hn:40<=n)(q:∀s' (w d:ag),w<2^(g.T.length+1)->d<2^(g.T.length+1)->bM {x with dz:=x.dz++[cL id t l],nums:=du (cL id t l) (.int g.T.length) x.nums,ws:=x.ws++[V.int w],ds:=x.ds++[V.int d]}.L s'->s.length<=s'.length->(∀(b:ag) o,b<4\/22<=b->s[b]?=ae o->s'[b]?=ae o)->Q (.int g.T.length) s'):Wp ((run prog n).cl "Bank" "take" [.ref 7,.str t.op,.tup (nats l)]) Q s:=by
 refine gc hn ?_;have nl:(nats l).length<=2:=by simpa[nats] using Gy
 have Z1:=hN.1;have m0:cL id t l=V.tup (.str t.op::nats l):=ac;have pk:=md id t l;refine cN (pf:=qi) ac ac (c8 (gh (eN (aH (aN ac (aT (fm (aN ac (AZ (rO (by exact tB (bL nl) ac)<|az (ac:V.tup ([.str t.op]++nats l)=cL id t l)<|ic (dT (aN ac (eU ac (h _ _ ac) (h _ _ ac) ac (Gf (h 9 _ ac) pk ⟨_,ac,az (aG (by show¬(bI (cL id t l) x.nums).isSome=aj;refine az LJ ?_;exact cE)) ?_⟩))))))))))))));refine bV (c6 (fE (kd ac (h _ _ ac) (h _ _ ac) ac (aH (aN ac (aT (Ii h hz (lB ac) λs1 e1=>⟨bp,?_⟩)))))));have h1:=h.trans e1;refine jh (v5 (lW (aN ac (kc (l:=nats l) (tL nl ac) ⟨_,ac,HO (it:=⟨nats l,.none⟩) (λvs m s2=>(∃js,vs=nats js/\∀j∈js,j<g.T.length)/\s2=s1/\m "self"=ae (.ref 7)/\m "node"=ae (cL id t l)) (λ_ _ _ _=>bp) ?_ ?_ _ _ _ ⟨⟨l,ac,hl⟩,ac,ac,ac⟩⟩))))
 ·rintro v vs m s2 ⟨⟨js,hjs,jE⟩,rfl,m1,m2⟩;induction js with
  |nil=>exact nomatch hjs
  |cons j js=>injection hjs with ST SZ;subst ST;refine bK (a:=m.upd "kid" (.int j)) ac (bV (ic (Vr (XI (cS (aN ac (dE (r:=aj) (by show ae (V.bool (bh (0<=(j:aJ))),s2)=_;(refine az (eu (tq _)) ?_;rfl)) ⟨aj,ac,?_⟩)))))));refine az (aF ac)<|fm (eU m1 (h1 _ _ ac) (h1 _ _ ac) ac (gJ (h1 8 _ ac) (Z1▸tB h4 ac) (dE (r:=aj) (by show ae (V.bool (bh ((j:aJ)<x.dz.length)),s2)=_;(refine az (eu (u5.mpr (Z1▸(jE j (.head _))))) ?_;rfl)) ⟨aj,ac,_,ac,?_⟩)));exact az (aG (by decide)) (bV (c6 (c6 ⟨⟨js,SZ,λi hi=>jE i (.tail _ hi)⟩,ac,m1,m2⟩)))
 rintro m s2 ⟨-,rfl,m1,m2⟩;refine v3 (fm (eU m1 (h1 _ _ ac) (h1 _ _ ac) ac (gJ (h1 8 _ ac) (tB (Z1▸h4) ac) (eU m1 (h1 _ _ ac) (h1 _ _ ac) ac (aN m2 (pT (h1 9 _ ac) (by decide) pk (rL B.XJ (tL h4 ac))<|az Z1 ?_))))));generalize Gc:s2.set 9 (.dict (du (cL id t l) (.int g.T.length) x.nums))=s3;have h3:bM {x with nums:=du (cL id t l) (.int g.T.length) x.nums}.L s3:=Gc▸fH h1 (by decide:9<22) _;have l3:s3.length=s2.length:=by refine dm Gc ?_;exact gK
 have k3:∀(b:ag) o,b≠9->s2[b]?=ae o->s3[b]?=ae o:=λb' o hb e=>by(refine dm Gc ?_;refine az (cj (dK hb)) ?_);exact e
 refine fE (eG (eU m1 (h3 _ _ ac) (h3 _ _ ac) ac ⟨8,_,ac,h3 8 _ ac,.inl ac,aH (aN m2 (aT ⟨⟨_,h3 8 _ ac,ac⟩,fc (h3 8 _ ac) (by decide) (by show x.dz.length<_;exact Z1▸tL h4 ac) ⟨bp,?_⟩⟩))⟩));generalize XH:s3.set 8 (.list (x.dz++[cL id t l]))=s4;have XN:bM {x with dz:=x.dz++[cL id t l],nums:=du (cL id t l) (.int g.T.length) x.nums}.L s4:=XH▸fH h3 (by decide:8<22) _;have l4:s4.length=s3.length:=by refine dm XH ?_;exact gK
 have k4:∀(b:ag) o,b≠8->s3[b]?=ae o->s4[b]?=ae o:=λb' o hb e=>by(refine dm XH ?_;refine az (cj (dK hb)) ?_);exact e
 have p2:0<2^g.T.length:=Nat.two_pow_pos _;have p16:2^g.T.length<=16:=jy (by decide) h4;replace m2:=m0▸m2;refine fE (eG (eU m1 (XN _ _ ac) (XN _ _ ac) ac ⟨10,_,ac,XN 10 _ ac,.inl ac,aH (gh (cS (fm (v9 XN B.ws (tB h4 ac) hl Gy m1 m2 ac ac (lB ac) λus s5 e5 u1 u2 u3=>XK u3 u1 u2 (tB p16 ac) λv v1 v2=>pP ac (fJ (tB (b9 (lR v1 (aR (mL p16)))) ac)) (aT ⟨⟨_,(XN.trans e5) 10 _ ac,ac⟩,fc ((XN.trans e5) 10 _ ac) (by decide) (by show x.ws.length<_;refine az B.ws.len ?_;exact tL h4 ac) ⟨bp,?_⟩⟩)))))⟩));have h5:=XN.trans e5;refine az (show(1:aJ)+v=((1+v:ag):aJ) from ac) ?_;generalize hs6:s5.set 10 (.list (x.ws++[V.int (1+v:ag)]))=s6;have h6:bM {x with dz:=x.dz++[cL id t l],nums:=du (cL id t l) (.int g.T.length) x.nums,ws:=x.ws++[V.int (1+v:ag)]}.L s6:=hs6▸fH h5 (by decide:10<22) _;have l6:s6.length=s5.length:=by refine dm hs6 ?_;exact gK
 have k6:∀(b:ag) o,b≠10->s5[b]?=ae o->s6[b]?=ae o:=λb' o hb e=>by(refine dm hs6 ?_;refine az (cj (dK hb)) ?_);exact e
 refine fE (eG (eU m1 (h6 _ _ ac) (h6 _ _ ac) ac ⟨11,_,ac,h6 11 _ ac,.inl ac,aH (gh (cS (fm (gh (v9 h6 B.ds (tB h4 ac) hl Gy m1 m2 ac ac (lB ac) λsv s7 e7 u1' u2' u3'=>et (aH (cS (aT ⟨by decide,rP (bM.push _ _ _ _ u3') (bF _ _) (by simp[nats];lia) (XM (bF _ _) u1' u2' p2 λd d1=>pP ac (fJ (tB (b9 (lR d1 p16)) ac)) (aT ?_))⟩))))))))⟩));have e8:=e7.trans ((bM.push s7 (.list [.int 0])).trans (bM.push _ (.list (nats sv++[.int 0]))));generalize s7++[O.list [.int 0]]++[.list (nats sv++[.int 0])]=s8 at e8;have h8:=h6.trans e8;refine⟨⟨_,h8 11 _ ac,ac⟩,fc (h8 11 _ ac) (by decide) (by show x.ds.length<_;refine az B.ds.len ?_;exact tL h4 ac) ⟨bp,?_⟩⟩;refine az (show(1:aJ)+d=((1+d:ag):aJ) from ac) ?_;generalize hs9:s8.set 11 (.list (x.ds++[V.int (1+d:ag)]))=s9;have h9:bM {x with dz:=x.dz++[cL id t l],nums:=du (cL id t l) (.int g.T.length) x.nums,ws:=x.ws++[V.int (1+v:ag)],ds:=x.ds++[V.int (1+d:ag)]}.L s9:=hs9▸fH h8 (by decide:11<22) _;have XO:(x.dz++[cL id t l]).length=g.T.length+1:=by exact lS ‹_›
 refine dZ (gh (fm (eU m1 (h9 _ _ ac) (h9 _ _ ac) ac (gJ (h9 8 _ ac) (by refine az XO ?_;exact tB (aR h4) ac) (cS (xN (fJ (by refine az XO ?_;exact tB (aR h4) ac)) ac ?_))))));refine az XO<|az (show(((g.T.length+1:ag):aJ)-1)=(g.T.length:aJ) by lia)<|q s9 (1+v) (1+d) (by lia) (by lia) h9 ?_ λb o hb e=>(λb' o hb e=>by(refine dm hs9 ?_;refine az (cj (dK hb)) ?_);exact e:∀(b:ag) o,b≠11->s8[b]?=ae o->s9[b]?=ae o) _ _ (nO hb ac ac) (e8 _ _ (k6 _ _ (nO hb ac ac) (e5 _ _ (k4 _ _ (nO hb ac ac) (k3 _ _ (nO hb ac ac) (e1 _ _ e))))));have j1:=e1.len;have j2:=e5.len;have j3:=e8.len;exact dm hs9<|az gK<|lT j1 (l3▸l4▸lT j2 (l6▸j3))
end
noncomputable def Gr.add(g:Gr)(t:Tm)(l:af ag):Gr:=⟨g.T++[t],g.ks++[l]⟩
theorem p4{α:Type}{l:af α}{a b:α}{i:ag}(h:(l++[a])[i]?=ae b):(i<l.length/\l[i]?=ae b)\/(i=l.length/\a=b):=by
 by_cases q:i<l.length
 ·exact .inl ⟨q,((pg q)▸h)⟩
 ·have e:=(bq.mp h).1;replace e:=ct▸e;have e:=gT (b9 e) (nh.mp q);replace h:=e▸h;exact .inr ⟨e,aU ((Qz)▸h)⟩
theorem iG{α:Type}{l:af α}{a b:α}{i:ag}(h:l[i]?=ae b):(l++[a])[i]?=ae b:=by refine(pg (bq.mp h).1).trans ?_;exact h
theorem XP{t u:Tm}(h:t.op=u.op)(k:t.kids=u.kids):t=u:=by cases t<;>cases u<;>simp_all [Tm.op,Tm.kids]
theorem P0{α β:Type}{R:α->β->Prop}(f:∀a b c,R a b->R a c->b=c){l:af α}{x y:af β}(h:fb R l x)(k:fb R l y):x=y:=by
 induction h generalizing y with
 |nil=>cases k;rfl
 |cons a _ ih=>
  cases k with
  |cons b k=>(refine az (ih k) ?_;refine az (f _ _ _ a b) ?_;rfl)
structure Qu(g:Gr)(t:Tm)(l:af ag):Prop where
 kids:fb (λj u=>j<g.T.length/\g.T[j]?=ae u) l t.kids
 new:t∉g.T
 DL:g.T.length<=4
 op:Ig t.op
section
variable{g:Gr}{t:Tm}{l:af ag}
theorem Qu.lt(w:Qu g t l){j:ag}(h:j∈l):j<g.T.length:=jj (w.kids.mem h) λ_ _ b _=>b
theorem Qu.len(w:Qu g t l):l.length<=2:=by refine az w.kids.len ?_;exact hU t
theorem Qu.ok(w:Qu g t l)(ok:g.Ok):(g.add t l).Ok where
 len:=by show(g.ks++[l]).length=(g.T++[t]).length;simp[ok.len]
 Pu:=λ{i u k} a b=>by
  rcases p4 a with⟨h1,a⟩|⟨h1,rfl⟩
  ·rcases p4 b with⟨h2,b⟩|⟨h2,_⟩
   ·exact(ok.Pu a b).mono λj v h₀=>fB h₀ λp q=>⟨p,iG q⟩
   ·have j1:=ok.len;exact aV h1 (cU (j1▸bJ h2.symm))
  ·rcases p4 b with⟨h2,b⟩|⟨h2,rfl⟩
   ·have j2:=ok.len;exact aV h2 (cU (j2▸bJ h1.symm))
   ·exact w.kids.mono λj v h₀=>fB h₀ λp q=>⟨lR p (bJ h1.symm),iG q⟩
 once:=lK.mpr ⟨ok.once,by exact jQ _ _,λa ha b hb e=>w.new (by(refine dm (bX.mp hb) ?_;refine dm e ?_);exact ha)⟩
 small:=by have:=w.DL;show(g.T++[t]).length<=5;simp;assumption
theorem iH:(g.add t l).T.length=g.T.length+1:=by show(g.T++[t]).length=_;exact ct
theorem Ij{i:ag}{u:Tm}{k:af ag}(a:(g.add t l).T[i]?=ae u)(b:(g.add t l).ks[i]?=ae k)(ok:g.Ok):(i<g.T.length/\g.T[i]?=ae u/\g.ks[i]?=ae k)\/(i=g.T.length/\t=u/\l=k):=by
 have j1:=ok.len;rcases p4 a with⟨h1,a⟩|⟨h1,rfl⟩<;>rcases p4 b with⟨h2,b⟩|⟨h2,rfl⟩
 ·exact .inl ⟨h1,a,b⟩
 ·exact aV h1 (cU (j1▸bJ h2.symm))
 ·exact aV h2 (cU (j1▸bJ h1.symm))
 ·exact .inr ⟨h1,ac,ac⟩
theorem gR.old{q:ag->ag}{td:af (ag×ag)}(Q:gR (g.add t l) td q):gR g td q:=⟨Q.1,λi j h₀=>KF h₀ λa b c d h1 h2 h3 h4 h5 h6=>Q.2 i j ⟨a,b,c,d,iG h1,iG h2,iG h3,iG h4,h5,h6⟩⟩
theorem A0(ok:g.Ok){i j:ag}{t u:Tm}{l k:af ag}(a:g.T[i]?=ae t)(b:g.ks[i]?=ae l)(c:g.T[j]?=ae u)(d:g.ks[j]?=ae k)(e:cL id t l=cL id u k):t=u:=by refine fB (vD (l':=k) e) λe1 e2=>?_;rw[Bq] at e2;subst e2;have x:=(ok.Pu a b).mono (S:=λj u=>g.T[j]?=ae u) λ_ _ h=>h.2;refine XP e1 (P0 (λ_ _ _ p q=>?_) x ((ok.Pu c d).mono (S:=λj u=>g.T[j]?=ae u) λ_ _ h=>h.2));injection (p▸q)
theorem Uv(ok:g.Ok):gR g [] id:=⟨λ_ _ h=>by simp at h,λi j ⟨t,u,k,k',a,b,c,d,e,f⟩=>by
 have j1:cL id t k=cL id u k':=by
  rw[Bq,Bq] at f
  unfold cL
  exact az e<|az f ac
 have j2:=A0 ok a c b d j1
 subst j2
 exact(o9 (bq.mp a).1 ok.once).mp (a.trans b.symm)⟩
theorem Qu.KE(w:Qu g t l)(ok:g.Ok){i:ag}{u:Tm}{k:af ag}(a:g.T[i]?=ae u)(b:g.ks[i]?=ae k):cL id u k≠cL id t l:=λe=>by have z:=A0 (w.ok ok) (i:=i) (j:=g.T.length) (iG a) (iG b) (show(g.T++[t])[g.T.length]?=ae t by exact nK) (by refine dm ok.len ?_;simp:(g.ks++[l])[g.T.length]?=some l) e;subst z;exact w.new (cw a)
theorem Ik(N:ag):cnt id N=N:=by unfold cnt gV;exact az (List.filter_eq_self.mpr (by simp)) (lP)
end
theorem zm{vs:af V}(h:∀v∈vs,∃j:ag,v=.int j):∃cs,vs=nats cs:=by
 induction vs with
 |nil=>exact⟨[],ac⟩
 |cons v vs ih=>refine eh (h v (.head _)) λj z1=>?_;subst z1;exact eh (ih λu hu=>h u (.tail _ hu)) λcs z2=>z2▸⟨j::cs,ac⟩
theorem tv{l:af ag}(h:(nats l).Nodup):l.Nodup:=by
 induction l with
 |nil=>exact fh
 |cons a l ih=>have h':(V.int a::nats l).Nodup:=h;rw[eV] at h';exact eV.mpr ⟨λm=>h'.1 (bt.mpr ⟨a,m,ac⟩),ih h'.2⟩
theorem Gi(l:af ag)(hl:l.length<64):setOk (nats l)=aj/\cZ (cF (nats l))=aj/\∃cs,dh (cF (nats l))=nats cs/\cs.Nodup/\cs.length<=l.length/\∀j,j∈cs↔j∈l:=by
 have al:∀v∈cF (nats l),∃j:ag,v=.int j:=λv hv=>bH (eO (bU.mp hv)) λj _ e=>⟨j,e⟩;refine eh (zm al) λds hd=>?_;have hle:(nats ds).length<=l.length:=by refine dm hd ?_;exact lT (lZ _) (by simp[nats])
 have aaE:ds.length<=l.length:=by simpa[nats] using hle
 refine⟨?_,?_,?_⟩
 ·unfold setOk;simp only[cY,qC,eH];refine⟨i9 λ_ _=>ac,.inl (.inl λv hv=>bH (eO hv) λj _ z3=>?_)⟩;subst z3;rfl
 ·refine az hd ?_;exact qD (tv (hd▸cq)) (rL ‹_› ‹_›)
 ·refine eh (zm (vs:=dh (cF (nats l))) λv hv=>al v ((cz _).subset hv)) λcs hc=>?_;have pe:(nats cs).Perm (cF (nats l)):=hc▸cz _;refine⟨cs,hc,tv (pe.nodup_iff.mpr cq),?_,λj=>?_⟩
  ·have j1:=pe.length_eq;replace j1:=hd▸j1;simp[nats] at j1;exact j1▸aaE
  ·have h1:∀l:af ag,j∈l↔V.int j∈nats l:=λl=>⟨λh=>bt.mpr ⟨j,h,ac⟩,λh=>by
    refine bH (eO h) λk hk e=>az (iQ e) ?_;exact hk⟩
   rw[h1 cs,h1 l,pe.mem_iff,bU]
section
variable{x:St}{s:af O}{Q:V->af O->Prop}
theorem Im{N n M:ag}{u4:af V}{ra:ag}{R:Flow×Env->af O->Prop}(aI:∀{c c' b:ag},bI (.int c) x.ab=ae (.ref b)->bI (.int c') x.ab=ae (.ref b)->c=c')(a22:∀{c b:ag},bI (.int c) x.ab=ae (.ref b)->22<=b)(hex:∀c,c<M->∃b,bI (.int c) x.ab=ae (.ref b))(Ef:∀c:ag,bI (.int c) x.ab≠ae (.ref ra)):∀(cs:af ag)(m:Env)(s:af O)(L:ag->af ag),cs.Nodup->(∀c∈cs,c<M)->bM x.L s->s[ra]?=ae (.list u4)->m "self"=ae (.ref 5)->m "n"=ae (.int N)->(∀c b:ag,bI (.int c) x.ab=ae (.ref b)->c<M->s[b]?=ae (.list (nats (L c))))->(∀c,(L c).length+cs.length<=100)->(∀(m':Env)(s':af O)(L':ag->af ag),m' "self"=ae (.ref 5)->m' "n"=ae (.int N)->bM x.L s'->s'.length=s.length->(∀(b:ag) o,(∀c:ag,bI (.int c) x.ab≠ae (.ref b))->s[b]?=ae o->s'[b]?=ae o)->(∀c b:ag,bI (.int c) x.ab=ae (.ref b)->c<M->s'[b]?=ae (.list (nats (L' c))))->(∀c,L' c=if c∈cs then L c++[N] else L c)->R (.next,m') s')->Wp (c9 ⟨u4,.list ra u4⟩ (λv m=>bP (bindTo m ["c"] v) λm'=>(run prog (n+10)).ex [.expr (.cu (.idx (.attr (.var "self") "above") (.var "c")) "append" [(.var "n")])] m') (nats cs) m) R s:=by
 intro l0;induction l0 with
 |nil=>exactλm s L _ _ h hr m1 m2 hL _ K=>jB hr (K m s L m1 m2 h ac (λ_ _ _ e=>e) hL λc=>by rfl)
 |cons c cs ih=>
  intro m s L nd hc h hr m1 m2 hL hz K;rw[eV] at nd;rcases hex c (hc c (.head _)) with⟨b,hb⟩;have Ye:=hL c b hb (hc c (.head _));have b22:=a22 hb;have hzc:=hz c;refine hV hr (bK (a:=m.upd "c" (.int c)) ac (bV (fE (eG (ef (eU m1 (h _ _ ac) (h _ _ ac) ac (aN ac (lX (h 20 _ ac) ac hb ⟨b,_,ac,Ye,.inl ac,aH (aN m2 (aT ⟨⟨_,Ye,ac⟩,fc Ye (bZ (lR (lB ac) b22)) (by simp[nats];simp at hzc;exact tL (lT (bc _ _) hzc) ac) ⟨bp,c6 ?_⟩⟩))⟩))))))));have hs:∀(b':ag) o,b'≠b->s[b']?=ae o->(s.set b (.list (nats (L c)++[.int N])))[b']?=ae o:=λb' o n e=>by refine az (cj (dK n)) ?_;exact e
  have bl:=(bq.mp Ye).1;refine ih _ _ (λi=>if i=c then L c++[N] else L i) nd.2 (λi hi=>hc i (.tail _ hi)) (h.set b22 _) (hs _ _ (λe=>Ef c (e▸hb)) hr) m1 m2 (λi b' hi hM=>?_) (λi=>?_) λm' s' L' k1 k2 k3 k4 k5 k6 k7=>K m' s' L' k1 k2 k3 (by refine az k4 ?_;exact gK) (λb' o n e=>k5 b' o n (hs b' o (λe=>n c (e▸hb)) e)) k6 λi=>?_
  ·by_cases z:i=c
   ·replace z:=z.symm;subst z;rw[hb] at hi;replace hi:=Internal.V.ref.inj (aU hi);subst hi;refine az (aF ac) ?_;rewrite[hO bl];exact bf (λl=>ae (O.list l)) VE
   ·exact az (aG z) (hs _ _ (λe=>z (aI (e▸hi) hb)) (hL i b' hi hM))
  ·show(if i=c then L c++[N] else L i).length+cs.length<=100;have j1:=hz i;simp at j1 hzc;split
   ·simp;lia
   ·exact bz ‹_›
  ·rw[k7];by_cases z:i=c
   ·replace z:=z.symm;subst z;exact az (aG nd.1)<|az (aF ac)<|az (aF (.head _)) ac
   ·simp[z]
end
section
variable{g:Gr}{t:Tm}{l:af ag}{x:St}{s:af O}{la:af ag}{Q:V->af O->Prop}
theorem KG{n:ag}(h:bM x.L s)(hz:x.up.length<=1000)(hn:6<=n)(q:Q (.int x.up.length) s):Wp ((run prog n).cl "Unions" "size" [.ref 13]) Q s:=by exact gc hn<|cN (pf:=sj) ac ac (dZ (fm (eU ac (h _ _ ac) (h _ _ ac) ac (gJ (h 14 _ ac) (tB hz ac) q))))
theorem Io{i n:ag}(h:bM x.L s)(U:UF x.up g.T.length id)(B:BK g x)(ok:g.Ok)(ht:g.T[i]?=ae t)(hl:g.ks[i]?=ae l)(hn:30<=n)(q:Q (.int i) s):Wp ((run prog n).cl "Heap" "add" [.ref 5,.str t.op,.tup (nats l)]) Q s:=by refine gc hn ?_;have hs:=ok.small;have hi:=(bq.mp ht).1;have hu:=U.len;exact cN (pf:=sM) ac ac (c8 (iu (eU ac (h _ _ ac) (h _ _ ac) ac ⟨_,_,_,_,ac,h _ _ ac,h _ _ ac,ac,aH (aN ac (aH (aN ac (aT (Gg h B ok ht hl (lB ac)<|ic (dT (aN ac (iu (eU ac (h _ _ ac) (h _ _ ac) ac ⟨_,_,_,_,ac,h _ _ ac,h _ _ ac,ac,aT (KG h (hu▸tB hs ac) (lB ac) (dE ac ⟨_,ac,az (aF (by exact dI (hu▸hi)))<|bV (dZ (aN ac q))⟩))⟩)))))))))⟩)))
theorem P1{N:ag}:mf x id [] (N+1)=mf x id [] N+50:=by unfold mf;rw[Ik,Ik];rfl
structure Bd(g:Gr)(x:St)(s:af O)(la:af ag):Prop where
 I:MI g [] x s la id []
 B:BK g x
 C:Cp g x id [] (λ_=>io)
 P:mf x id [] g.T.length<=60*g.T.length
theorem Bd.ext(b:Bd g x s la){s':af O}(e:bM s s'):Bd g x s' la:=⟨b.I.ext e,b.B,b.C,b.P⟩
theorem P5{ab:af (V×V)}{N b0 c b:ag}(e:bI (.int c) (du (.int N) (.ref b0) ab)=ae (.ref b)):(c=N/\b=b0)\/(c≠N/\bI (.int c) ab=ae (.ref b)):=by
 by_cases z:c=N
 ·exact .inl ⟨z,(Internal.V.ref.inj (aU ((z▸l9 _ _ _:bI (.int c) (du (.int N) (.ref b0) ab)=ae (.ref b0)).symm.trans e))).symm⟩
 ·exact .inr ⟨z,(pZ (dK z) _ _).symm.trans e⟩
theorem Ip{n:ag}(b:Bd g x s la)(w:Qu g t l)(hn:130<=n)(q:∀x' s' Ab,Bd (g.add t l) x' s' Ab->Kp x la s x' Ab s'->Q (.int g.T.length) s'):Wp ((run prog n).cl "Heap" "add" [.ref 5,.str t.op,.tup (nats l)]) Q s:=by
 refine gc hn ?_;obtain⟨I,B,C,P⟩:=b;have ok:=I.ok;have h:=I.h;have h4:=w.DL;have OO:=w.ok ok;have hu:=I.U.len;have kk:=w.len;have nl:(nats l).length<=2:=by simpa[nats] using kk
 have zE:x.fU.length=g.T.length:=by(refine az I.fU ?_;rewrite[be];refine az I.F8 ?_;rfl)
 have Z2:bI (cL id t l) x.nums=aC:=by
  cases e:bI (cL id t l) x.nums with
  |none=>rfl
  |some u=>exact Qk (B.PY e) λi u' k a b c=>aV c.symm (w.KE ok a b)
 refine cN (pf:=sM) ac ac (c8 (iu (eU ac (h _ _ ac) (h _ _ ac) ac ⟨_,_,_,_,ac,h _ _ ac,h _ _ ac,ac,aH (aN ac (aH (aN ac (aT (Gh h B ok I.dz h4 w.op (λj hj=>w.lt hj) kk Z2 (lB ac) λs1 w1 d1 hw1 Jo h1 l1 k1=>ic (dT (aN ac (iu (eU ac (h1 _ _ ac) (h1 _ _ ac) ac ⟨_,_,_,_,ac,h1 _ _ ac,h1 _ _ ac,ac,aT (KG h1 (by show x.up.length<=_;exact hu▸tB h4 ac) (lB ac) (dE ac ⟨_,ac,az (aG (by show¬bh ((g.T.length:aJ)<x.up.length)=aj;exact nD (nI (bJ hu))))<|bV (c6 (fE (iu (eU ac (h1 _ _ ac) (h1 _ _ ac) ac ⟨_,_,_,_,ac,h1 _ _ ac,h1 _ _ ac,ac,aT (Uu (N:=g.T.length) h1 hu zE (tB h4 ac) (lB ac) λs2 h2 a2 l2 k2=>⟨bp,?_⟩)⟩))))⟩))⟩)))))))))⟩)));have GE:=h2.trans (bM.push s2 (.list []));refine v3 (et (aT ⟨by simp,eU ac (GE _ _ ac) (GE _ _ ac) ac (aN ac (pT (GE 20 _ ac) (by decide) ac (rL I.Qt (by decide)) ?_))⟩));show Wp (dY _ _ _) _ ((s2++[O.list []]).set 20 (.dict (du (.int g.T.length) (.ref s2.length) x.ab)));generalize Gc:(s2++[O.list []]).set 20 (.dict (du (.int g.T.length) (.ref s2.length) x.ab))=s3;have h3:bM {x with dz:=x.dz++[cL id t l],nums:=du (cL id t l) (.int g.T.length) x.nums,ws:=x.ws++[V.int w1],ds:=x.ds++[V.int d1],up:=x.up++[V.int g.T.length],fU:=x.fU++[V.ref s1.length],ab:=du (.int g.T.length) (.ref s2.length) x.ab}.L s3:=Gc▸fH GE (show 20<22 by decide) _;have b1:=MX h1;have l3:s3.length=s2.length+1:=by refine dm Gc ?_;simp
 have k3:∀(b:ag) o,b≠20->s2[b]?=ae o->s3[b]?=ae o:=λb o hb e=>by(refine dm Gc ?_;refine az (cj (dK hb)) ?_);exact bM.push _ _ _ _ e
 have n3:s3[s2.length]?=ae (.list []):=by(refine dm Gc ?_;refine az (cj ((nE (l2▸aR b1) ac).symm)) ?_);exact bF _ _
 generalize My:({x with dz:=x.dz++[cL id t l],nums:=du (cL id t l) (.int g.T.length) x.nums,ws:=x.ws++[V.int w1],ds:=x.ds++[V.int d1],up:=x.up++[V.int g.T.length],fU:=x.fU++[V.ref s1.length],ab:=du (.int g.T.length) (.ref s2.length) x.ab}:St)=x3 at h3;have U3:UF x3.up (g.T.length+1) id:=by
  refine dm My ⟨by show(x.up++[V.int g.T.length]).length=_;exact lS ‹_›,tB (aR h4) ac,λi hi=>⟨i,?_,aP _,⟨λ_=>ac,λ_=>ac⟩,ac⟩,λ_=>aP _,λ_=>ac⟩;show(x.up++[V.int g.T.length])[i]?=_;by_cases z:i=g.T.length
  ·refine az z<|dm hu ?_;exact nK
  ·exact xU (I.U.at_ i (nj (b9 hi) z)) λj j1 j2 j3 _=>az (iG j1)<|az (j3.mpr ac) ac
 have sp:(nats l).flatMap (λv=>[v])=nats l:=by rw[bO];simp
 obtain⟨Z3,Z4,cs,c1,c2,c3,c4⟩:=Gi l (tL kk ac);refine jh (eS (fm (fW Dv Dv.rM (v5 (aN ac ⟨_,ac,bp,oD h3,λv=>[v],by show((nats l).flatMap λv=>[v]).length<=_;refine az sp ?_;exact tB nl ac,?_,?_⟩)))))
 ·intro v hv s' e' lt';refine bH (eO hv) λj hj z1=>?_;subst z1;have h':=h3.trans e';have WQ:=w.lt hj;exact dj (DI h3) ac (dD ⟨bM.refl _,kd ac (h' _ _ ac) (h' _ _ ac) ac (aH (aN ac (aT (oE h' U3 (lR WQ (bc _ _)) (eY (tB (bL (b9 (lR WQ h4))) ac)) ⟨bM.refl _,_,ac,λ_ _=>ac⟩))))⟩)
 intro s4 rs e4 ha4 al4;have Qr:=al4.eq.trans sp;subst Qr;refine lY ha4 Z3 Z4<|az c1 ⟨_,_,ac,bF _ _,?_⟩;have e5:=e4.trans (bM.push s4 (.list (nats cs)));have l5:=e5.len;have aaF:s3.length<=s4.length:=e4.len;generalize ZX:s4++[O.list (nats cs)]=s5 at e5 l5;have h5:bM x3.L s5:=h3.trans e5;have n5:s5[s4.length]?=ae (.list (nats cs)):=by refine dm ZX ?_;exact bF _ _
 have XQ:x3.ab=du (.int g.T.length) (.ref s2.length) x.ab:=by(refine dm My ?_;rfl)
 have abN:bI (.int g.T.length) x3.ab=ae (.ref s2.length):=by(refine az XQ ?_;rewrite[l9];rfl)
 have abO:∀c:ag,c≠g.T.length->bI (.int c) x3.ab=bI (.int c) x.ab:=λc hc=>by(refine az XQ ?_;rewrite[pZ (dK hc)];rfl)
 have abS:∀{c b:ag},bI (.int c) x.ab=ae (.ref b)->22<=b/\b<s.length/\b∉la:=λe=>by refine xU (I.Ic _ (iT e)) λ_ z1 z2 z3 z4=>?_;replace z1:=Internal.V.ref.inj z1;subst z1;exact⟨z2,z3,z4⟩
 have Uw:∀{c b:ag},bI (.int c) x3.ab=ae (.ref b)->(c=g.T.length/\b=s2.length)\/(c≠g.T.length/\(22<=b/\b<s.length/\b∉la)/\bI (.int c) x.ab=ae (.ref b)):=λe=>(P5 (XQ▸e)).imp id λh=>⟨h.1,abS h.2,h.2⟩;have aI:∀{c c' b:ag},bI (.int c) x3.ab=ae (.ref b)->bI (.int c') x3.ab=ae (.ref b)->c=c':=λe e'=>(Uw e).elim (λh=>(Uw e').elim (λh'=>h.1.trans h'.1.symm) λh'=>by have Qr:=h.2;have:=h'.2.1.2.1;lia) λh=>(Uw e').elim (λh'=>by have:=h'.2;have:=h.2.1.2.1;lia) λh'=>B.abI h.2.2 h'.2.2;have a22:∀{c b:ag},bI (.int c) x3.ab=ae (.ref b)->22<=b:=λe=>(Uw e).elim (λh=>h.2▸lT b1 (l2▸bc _ _)) λh=>h.2.1.1;have aL:∀{c b:ag},bI (.int c) x3.ab=ae (.ref b)->b<s3.length:=λe=>(Uw e).elim (λh=>h.2▸l3▸de _) λh=>by have j6:=h.2.1.2.1;exact lR j6 (lT l1 (l3▸eY (l2▸bc _ _)))
 have hex:∀c,c<g.T.length+1->∃b,bI (.int c) x3.ab=ae (.ref b):=λc hc=>by
  by_cases z:c=g.T.length
  ·exact⟨_,z▸abN⟩
  ·exact lC (I.ab c (by exact nj (b9 hc) z) ac) λb _ z1 _=>⟨b,by refine az (abO _ z) ?_;exact z1⟩
 have ls:∀c,∃L:af ag,(L.length<=10)/\(c<g.T.length->∃b,bI (.int c) x.ab=ae (.ref b)/\s[b]?=ae (.list (nats L))/\Us g id c L)/\(¬c<g.T.length->L=[]):=λc=>by
  by_cases z:c<g.T.length
  ·exact kS (I.ab c z ac) λb L z1 z2 z3=>⟨L,z3.DL ok,λ_=>⟨b,z1,z2,z3⟩,λq=>aV z q⟩
  ·exact⟨[],by simp,λq=>aV q z,λ_=>ac⟩
 let L:ag->af ag:=λc=>(ls c).choose
 have hL:∀c,((L c).length<=10)/\(c<g.T.length->∃b,bI (.int c) x.ab=ae (.ref b)/\s[b]?=ae (.list (nats (L c)))/\Us g id c (L c))/\(¬c<g.T.length->L c=[]):=λc=>(ls c).choose_spec
 clear_value L
 have keep:∀(b:ag) o,b<4\/22<=b->s[b]?=ae o->s5[b]?=ae o:=λb o hb e=>e5 _ _ (k3 _ _ (nO hb ac ac) (k2 _ _ (nO hb ac ac) (nO hb ac ac) (k1 _ _ hb e)));refine Im (M:=g.T.length+1) aI a22 hex (λc e=>by have j7:=aL e;exact cU aaF j7) cs _ _ L c2 (λc hc=>by have j8:=w.lt ((c4 c).mp hc);exact lR j8 (bc _ _)) h5 n5 ac ac (λc b e hc=>?_) (λc=>by have j9:=(hL c).1;exact tB (aE j9 (lT c3 kk)) ac) λm6 s6 L' m1 m2 h6 l6 k6 a6 L6=>?_
 ·refine(Uw e).elim (λh=>?_) λh=>?_
  ·exact az ((hL c).2.2 (cU (bJ h.1.symm)))<|h.2▸e5 _ _ n3
  ·exact jj ((hL c).2.1 (by have j10:=h.1;exact nj (b9 hc) j10)) λb' z1 z2 _=>keep _ _ (.inr h.2.1.1) (Internal.V.ref.inj (aU (z1.symm.trans h.2.2))▸z2)
 have Vy:∀(b:ag) o,b<4\/22<=b->(∀c:ag,bI (.int c) x3.ab≠ae (.ref b))->s[b]?=ae o->s6[b]?=ae o:=λb o hb hn e=>k6 b o hn (keep b o hb e);have nla:∀a∈la,a<s.length/\∀c:ag,bI (.int c) x3.ab≠ae (.ref a):=λa ha=>⟨(I.vC a ha).2,λc e=>(Uw e).elim (λh=>cU (lT l1 (l2▸bc _ _)) (h.2▸(I.vC a ha).2)) λh=>h.2.1.2.2 ha⟩;have news:∀c:ag,bI (.int c) x3.ab≠ae (.ref s1.length):=λc e=>(Uw e).elim (λh=>b8 (de _) (h.2.trans l2)) λh=>cU l1 h.2.1.2.1;have n6:s6[s1.length]?=ae (.list (nats [g.T.length])):=k6 _ _ news (e5 _ _ (k3 _ _ (bZ (lR (lB ac) b1)) a2));have I6:MI (g.add t l) [] x3 s6 (la++[s1.length]) id []:=by
  have fl:(g.add t l).ks.flatten=g.ks.flatten++l:=by show(g.ks++[l]).flatten=_;simp
  refine⟨OO,h6,?_,iH▸U3,by refine dm My ?_;show x.fU++_=_;refine az I.fU ?_;exact VE,by refine az iH ?_;simp[I.F8],?_,λa ha=>?_,λc a _ PJ=>?_,λq Q i=>ac,λp hp=>?_,?_,λc hc _=>?_,by refine dm My ?_;exact I.wait,(λn h=>by cases h),λp hp=>?_⟩
  ·refine dm My ⟨by refine az iH ?_;show(x.dz++[_]).length=_;simp[I.dz.1],λ{i u k} a b=>?_⟩;show(x.dz++[cL id t l])[i]?=_;rcases Ij a b ok with⟨_,a,b⟩|⟨rfl,rfl,rfl⟩
   ·exact iG (I.dz.2 a b)
   ·refine dm I.dz.1 ?_;exact nK
  ·refine lK.mpr ⟨I.Qs,by exact jQ _ _,λa ha b hb e=>?_⟩;replace e:=(bX.mp hb)▸e;have j11:=(I.vC a ha).2;exact rJ (e▸j11) l1
  ·rcases cR.mp ha with ha|ha
   ·have j12:=I.vC a ha;exact⟨j12.1,by lia⟩
   ·exact az (bX.mp ha) ⟨b1,l6▸lR (l3▸rU _ (l2▸de _)) l5⟩
  ·refine az iH ?_;rcases p4 PJ with⟨z1,z2⟩|⟨rfl,rfl⟩
   ·refine jj (I.L c a ac z2) λk y1 y2 y3=>?_;have ha:=cw z2;refine⟨k,Vy _ _ (.inr (I.vC a ha).1) (nla a ha).2 y1,y2,λi=>?_⟩;rw[y3];have:=I.F8;show i<_/\i=c↔i<_/\i=c;lia
   ·refine⟨_,n6,by exact jQ _ _,λi=>?_⟩;have:=I.F8;show i∈[g.T.length]↔i<_/\i=la.length;simp;lia
  ·have nn:s2.length∉la++[s1.length]:=λz=>by
    rcases cR.mp z with z|z
    ·have j15:=(I.vC _ z).2;exact cU (lT l1 (l2▸bc _ _)) j15
    ·have j16:=bX.mp z;exact b8 (j16▸de _) l2
   replace hp:=XQ▸hp;rcases qG hp with z|rfl|⟨a',w',z,rfl⟩
   ·refine xU (I.Ic p z) λb y1 y2 y3 y4=>⟨b,y1,y2,by lia,λy=>?_⟩;rcases cR.mp y with y|y
    ·exact y4 y
    ·have j17:=bX.mp y;exact rJ (j17▸y3) l1
   ·exact⟨_,ac,lT b1 (l2▸bc _ _),l6▸lR (l3▸de _) l5,nn⟩
   ·exact⟨_,ac,bT (l2▸aR b1) ac,l6▸lR (l3▸de _) l5,nn⟩
  ·refine az XQ ?_;have j18:=mF (.int g.T.length) (.ref s2.length) x.ab;have j19:=B.abn;exact lT j18 (aR (lT j19 h4))
  ·replace hc:=iH▸hc;refine eh (hex c hc) λb hb=>⟨b,L' c,hb,a6 c b hb hc,?_⟩;rw[L6];have Qm:c∈cs↔c∈l:=c4 c;refine⟨λ{n' k ln} a b e=>?_,λn' Js=>?_,?_⟩
   ·have e:c=k:=e.symm;subst e;rcases p4 a with⟨a1,a⟩|⟨a1,rfl⟩
    ·have i1:n'<g.T.length:=by refine dm ok.len ?_;exact a1
     obtain⟨u,Gx⟩:∃u,g.T[n']?=ae u:=⟨_,dq i1⟩;have kN:=ok.lt Gx a b;refine jj ((hL c).2.1 kN) λ_ z1 z2 z3=>?_;have j20:=z3.all a b ac;split
     ·exact i5 _ j20
     ·exact j20
    ·refine az (aF (Qm.mpr b))<|az (show n'=g.T.length by(refine az a1 ?_;refine az ok.len ?_;rfl)) ?_;exact i6 _ (.head _)
   ·refine az iH ?_;by_cases y:c<g.T.length
    ·refine jj ((hL c).2.1 y) λ_ z1 z2 z3=>?_;split at Js
     ·rcases cR.mp Js with z|z
      ·have j21:=z3.lt _ z;exact rU _ j21
      ·have j22:=bX.mp z;exact j22▸de _
     ·have j23:=z3.lt _ Js;exact rU _ j23
    ·replace Js:=((hL c).2.2 y)▸Js;replace Js:=(aG λz=>y (w.lt (Qm.mp z)))▸Js;cases Js
   ·refine az fl<|az List.countP_append ?_;by_cases y:c<g.T.length
    ·refine jj ((hL c).2.1 y) λ_ z1 z2 z3=>?_;have j24:=z3.len;split
     ·rename_i z;have pos:0<l.countP λk=>id k==c:=List.countP_pos_iff.mpr ⟨c,Qm.mp z,by exact aF ac⟩;refine az ct ?_;simp only[Kz];exact aE j24 pos
     ·exact lT j24 (bc _ _)
    ·exact az ((hL c).2.2 y)<|az (aG λz=>y (w.lt (Qm.mp z)))<|Nat.zero_le _
  ·replace hp:=(km My)▸hp;exact KB ((I.known p hp).ex) λo u ln k e1 e2 e3 e4=>⟨o,u,ln,k,e1,iG e2,iG e3,λq Q=>e4 q Q.old⟩
 have C6:Cp (g.add t l) x3 id [] (·=g.T.length):=λ{i u k} a b z=>by
  rcases Ij a b ok with⟨_,a,b⟩|⟨y,_,_⟩
  ·rcases C a b id with y|⟨o,y1,y2,y3⟩
   ·exact .inl y
   ·refine .inr ⟨o,?_,by refine az iH ?_;exact rU _ y2,y3⟩;exact dm My y1
  ·exact aV y z
 have P6:mf x3 id [] (g.add t l).T.length+1<=60*(g.add t l).T.length:=by exact az iH<|az P1<|dm My (aE (c:=51) (d:=60) P (lB ac))
 have B6:∀x',Bk x3 x'->x'.ab=x3.ab->BK (g.add t l) x':=λx' bk eab=>by
  have pw:2^g.T.length<=2^(g.T.length+1):=jy (by decide) (bc _ _);have sm:∀{ws:af V}{w:ag},Sm g.T.length ws->w<2^(g.T.length+1)->Sm (g.T.length+1) (ws++[V.int w]):=λ{ws w'} a hw=>⟨by simp[a.len],λv hv=>by
   rcases cR.mp hv with hv|hv
   ·exact bH (a.small v hv) λw e1 e2=>⟨w,e1,lR ‹_› ‹_›⟩
   ·exact⟨w',bX.mp hv,hw⟩⟩
  refine⟨λ{i u k} a b=>?_,λ{v u} e=>?_,?_,?_,?_,?_,λ{c c' b} e e'=>aI (eab▸e) (eab▸e')⟩
  ·refine az bk.nums<|dm My ?_;show bI _ (du _ _ x.nums)=_;rw[il];rcases Ij a b ok with⟨_,a,b⟩|⟨rfl,rfl,rfl⟩
   ·exact az (aG λz=>w.KE ok a b (V.eq_of_beq _ _ z).symm)<|B.nums a b
   ·exact az (aF (V.beq_refl _)) ac
  ·replace e:=bk.nums▸e;replace e:=(km My)▸e;have e:bI v (du (cL id t l) (.int g.T.length) x.nums)=ae u:=e;rw[il] at e;split at e
   ·rename_i z;exact⟨g.T.length,t,l,(by show(g.T++[t])[_]?=_;exact nK),(by show(g.ks++[l])[_]?=_;refine dm ok.len ?_;exact nK),(V.eq_of_beq _ _ z).symm⟩
   ·exact Qk (B.PY e) λi u' k a b c=>⟨i,u',k,iG a,iG b,c⟩
  ·refine az bk.nums<|dm My<|az iH ?_;have:=mF (cL id t l) (.int g.T.length) x.nums;have:=B.XJ;show(du _ _ x.nums).length<=_;lia
  ·refine az eab<|az XQ<|az iH ?_;have:=mF (.int g.T.length) (.ref s2.length) x.ab;have:=B.abn;lia
  ·refine az bk.ws<|dm My<|az iH ?_;exact sm B.ws hw1
  ·refine az bk.ds<|dm My<|az iH ?_;exact sm B.ds Jo
 refine fE (kd m1 (h6 _ _ ac) (h6 _ _ ac) ac (aH (aN m2 (aT (zk I6 (by refine az iH ?_;exact de _) C6 (by rw[iH] at P6⊢;exact tB (lT (bc _ _) (lT P6 (mL (aR h4)))) ac) (lB ac) λx7 s7 r7 w7 I7 C7 K7=>⟨bp,dZ (aN m2 ?_)⟩)))));have aaG:r7=id:=by funext i;exact I7.sound id (Uv OO) i
 subst aaG;refine fB (K7.same λi j e=>e) λw7e ab7=>?_;subst w7e;refine q x7 s7 (la++[s1.length]) ⟨I7,B6 x7 K7.XD ab7,C7,lT K7.mf P6⟩ λb o hb Pr e=>?_;have GT:=(bq.mp e).1;refine K7.kp b o hb ⟨λz=>?_,λp hp=>?_⟩ (Vy b o hb (λc z=>?_) e)
 ·rcases cR.mp z with z|z
  ·exact Pr.la z
  ·have j29:=bX.mp z;exact rJ (j29▸GT) l1
 ·replace hp:=XQ▸hp;rcases qG hp with z|rfl|⟨a',w',z,rfl⟩
  ·exact Pr.ab p z
  ·intro z;injection z with z;exact cU (lT l1 (z▸l2▸bc _ _)) GT
  ·intro z;injection z with z;exact cU (lT l1 (z▸l2▸bc _ _)) GT
 ·exact(Uw z).elim (λh=>cU (lT l1 (l2▸bc _ _)) (h.2▸GT)) λh=>Pr.ab _ (iT h.2.2) ac
end
section
variable{g:Gr}{x:St}{la:af ag}
theorem Gj{t:Tm}{l:af ag}{n:ag}{m:Env}{s:af O}{Q:V->af O->Prop}(b:Bd g x s la)(al:fb (λj u=>g.T[j]?=ae u) l t.kids)(m1:m "self"=ae (.ref 5))(m2:m "term"=ae t.enc)(IH:∀u∈t.kids,∀i:ag,g.T[i]?=ae u->∀(s1:af O) (Q:V->af O->Prop),Bd g x s1 la->(∀s',bM s1 s'->Q (.int i) s')->Wp ((run prog (n+1)).cl "Heap" "put" [.ref 5,u.enc]) Q s1)(q:∀s',bM s s'->Q (.tup (nats l)) s'):Wp ((run prog (n+4)).ev (.bi "tuple" (.comp (.cu (.var "self") "put" [(.var "part")]) [(.mk ["part"] (.seq (.gB (.var "term"))) [])])) m) Q s:=by
 have h:=b.I.h;have ok:=b.I.ok;have kl:=hU t
 have ix:t.kids.map g.ix=l:=by
  clear IH q;generalize t.kids=us at al;induction al with
  |nil=>rfl
  |cons x _ ih=>(refine az eL ?_;refine az ih ?_;refine az (ok.ix x) ?_;rfl)
 have sp:(t.kids.map Tm.enc).flatMap (λv=>[V.int (g.ix (iF v))])=nats l:=by rewrite[kG λu=>[V.int (g.ix u)],bO];refine dm ix ?_;rewrite[nats];exact az iz ac
 refine fm (fW Dv Dv.rM (v5 (lW (aN (m2.trans (bf ae (kg t))) (kc (l:=t.kids.map Tm.enc) (by rw[be];exact tL kl ac) ⟨_,ac,bp,oD h,λv=>[V.int (g.ix (iF v))],?_,?_,?_⟩)))))
 ·show((t.kids.map Tm.enc).flatMap _).length<=_;rw[bO,be,be];exact tB kl ac
 ·intro v hv s2 e2 pR;refine bH (bt.mp hv) λu hu z1=>?_;subst z1;refine bH (vB al hu) λi _ hi=>?_;have h2:=h.trans e2;rewrite[gj];exact az (ok.ix hi)<|dj (DI h) ac (dD ⟨bM.refl _,kd (m1) (h2 _ _ ac) (h2 _ _ ac) ac (aH (aN ac (aT (IH u hu i hi s2 _ (b.ext e2) λs' e'=>⟨e',_,ac,λ_ _=>ac⟩))))⟩)
 ·intro s' rs e' ha al;have:=al.eq.trans sp;subst this;have:=al.len;exact kF ha (by
   have:(nats l).length=(t.kids.map Tm.enc).length:=by(refine dm sp ?_;rewrite[bO,be];rfl)
   refine az this ?_;rewrite[be];exact tB kl ac) (q s' e')
theorem zo:∀(k:ag)(t:Tm),t.ht<k->∀(i:ag),g.T[i]?=ae t->∀(s:af O)(n:ag)(Q:V->af O->Prop),Bd g x s la->40+8*t.ht<=n->(∀s',bM s s'->Q (.int i) s')->Wp ((run prog n).cl "Heap" "put" [.ref 5,t.enc]) Q s:=by
 intro l0;induction l0 with
 |zero=>exactλt hk _ _ _ _ _ _ _ _=>aV hk (fM _)
 |succ k ih=>
  intro t hk i hi s n Q b hn q;obtain⟨n,rfl⟩:∃k,n=k+20:=⟨n-20,A7 ‹_› ac⟩;have h:=b.I.h;have ok:=b.I.ok;refine eh (ok.Px hi) λl hl=>?_;have Ui:=hU t;refine cN (pf:=sN) ac ac (dZ (kd ac (h _ _ ac) (h _ _ ac) ac (aH (ef (aN (bf ae (kg t)) (cS (iE (i:=0) ac (by simp;lia) (aH (Gj b ((ok.Pu hi hl).mono λ_ _ h=>h.2) ac ac (λu hu j hj s1 Q b1 q1=>?_) λs' e'=>aT ?_)))))))))
  ·have:=qH hu;exact ih u (lR this.1 (b9 hk)) j hj s1 _ Q b1 (by lia) q1
  ·exact Io (h.trans e') b.I.U b.B ok hi hl (fK (d:=17) (lT (bc _ _) hn) ac) (q s' e')
theorem Iq{t:Tm}{l:af ag}{s:af O}{n:ag}{Q:V->af O->Prop}(b:Bd g x s la)(w:Qu g t l)(hn:150+8*t.ht<=n)(q:∀x' s' Ab v,Bd (g.add t l) x' s' Ab->Kp x la s x' Ab s'->Q (.int v) s'):Wp ((run prog n).cl "Heap" "put" [.ref 5,t.enc]) Q s:=by
 obtain⟨n,rfl⟩:∃k,n=k+20:=⟨n-20,A7 ‹_› ac⟩;have h:=b.I.h;have Ui:=hU t;refine cN (pf:=sN) ac ac (dZ (kd ac (h _ _ ac) (h _ _ ac) ac (aH (ef (aN (bf ae (kg t)) (cS (iE (i:=0) ac (by simp;lia) (aH (Gj b (w.kids.mono λ_ _ h=>h.2) ac ac (λu hu j hj s1 Q b1 q1=>?_) λs' e'=>aT ?_)))))))))
 ·have:=qH hu;exact zo (u.ht+1) u (de _) j hj s1 _ Q b1 (by lia) q1
 ·exact Ip (b.ext e') w (fK (d:=17) (lT (bc _ _) hn) ac) λx' s2 Ab b2 k2=>q x' s2 Ab _ b2 λc o hc p e=>k2 c o hc p (e' _ _ e)
end
noncomputable def Iu:PS->af PS
 |.loop _ _ b=>b
 |_=>[]
noncomputable abbrev Z5:af PS:=Iu (vO.body.getD 2 .fail)
theorem vE(p:Tm):p.parts.length+1<=2^(p.ht+1):=by
 induction p with
 |leaf _=>exact aP 2
 |f p ih=>refine az ct ?_;rewrite[rI,CP];exact aE ih Ux
 |g p q ih PD=>refine az ct<|az ct ?_;rewrite[rI,CP];exact lT (bJ (IL p.parts.length q.parts.length 1 1)) (aE (lT ih (jy (by decide) (jF (DQ _ _)))) (lT PD (jy (by decide) (jF (DR _ _)))))
theorem P7{g:Gr}(ok:g.Ok):∀(k:ag)(t:Tm),t.ht<k->t∈g.T->∀p∈t.parts,p∈g.T:=by
 intro l0;induction l0 with
 |zero=>exactλ_ h _ _ _=>aV h (fM _)
 |succ k ih=>
  intro t hk ht p hp;refine eh (eX.mp ht) λi hi=>eh (ok.Px hi) λl hl=>?_;rw[mJ] at hp;rcases cR.mp hp with h|h
  ·exact bH (dg.mp h) λu hu h=>jj (vB (ok.Pu hi hl) hu) λj _ _ hj=>ih u (lR ((qH hu).1) (b9 hk)) (cw hj) p h
  ·refine az (bX.mp h) ?_;exact ht
theorem Mz{T:af Tm}{t:Tm}(h:Over T t):(∀u∈t.kids,u∈T)/\Ig t.op:=by
 rcases h with rfl|rfl|⟨u,hu,rfl⟩|⟨u,hu,v,hv,rfl⟩
 ·exact⟨λ_ h=>by simp[Tm.kids] at h,.a⟩
 ·exact⟨λ_ h=>by simp[Tm.kids] at h,.b⟩
 ·exact⟨λ_ h=>by simp[Tm.kids] at h;refine az h ?_;exact hu,.f⟩
 ·exact⟨λ_ h=>by simp[Tm.kids] at h;rcases h with rfl|rfl<;>assumption,.g⟩
theorem Uy{g:Gr}:∀us:af Tm,(∀u∈us,u∈g.T)->∃l,fb (λ(j:ag) u=>j<g.T.length/\g.T[j]?=ae u) l us:=by
 intro l0;induction l0 with
 |nil=>exactλ_=>⟨[],.nil⟩
 |cons u us ih=>intro h;refine eh (ih λv hv=>h v (.tail _ hv)) λl hl=>?_;rcases eX.mp (h u (.head _)) with⟨i,hi⟩;exact⟨i::l,.cons ⟨(bq.mp hi).1,hi⟩ hl⟩
theorem uY{v:V}{vs:af V}:has v vs=aj↔v∈vs:=by unfold has;exact GX.trans ⟨λh=>h.elim λu h=>V.eq_of_beq _ _ h.2▸h.1,λh=>⟨v,h,V.beq_refl v⟩⟩
theorem xR{t:Tm}{T:af Tm}:has t.enc (T.map Tm.enc)=aj↔t∈T:=uY.trans ⟨λh=>by
 refine bH (bt.mp h) λu hu e=>dm (DT e) ?_;exact hu,λh=>bt.mpr ⟨t,h,ac⟩⟩
section
variable{s:af O}{Q:V->af O->Prop}
theorem MA{a:ag}{l:af V}(h:s[a]?=ae (.list l))(so:setOk l=aj)(hd:(cF l).length<=64)(q:Q (.int (cF l).length) s):Wp (iV "lenSet" (.ref a)) Q s:=by refine fz (f:=λ_ vs=>if setOk vs&&bh ((cF vs).length<=64) then ret (V.int (cF vs).length) else fail) h<|az so<|az (eu hd) ?_;exact bx q
theorem A1{v:V}{a:ag}{ys:af V}(h:s[a]?=ae (.list ys))(pv:v.pure=aj)(py:V.eI ys=aj)(q:Q (.bool (!has v ys)) s):Wp (mo .mP v (.ref a)) Q s:=by refine aZ (wp_load h ((az pv<|az py ?_):Wp (if V.pure v&&V.eI ys then ret (V.bool (!has v ys)) else fail) Q s));exact bx q
theorem zq{a k:ag}{l:af V}(h:s[a]?=ae (.list l))(hk:k<=1000000)(hl:l.length<=16777216)(q:Q (.ref s.length) (s++[.list (l.take k)])):Wp (x6 (.ref a) (.int k)) Q s:=by
 refine aZ (wp_load h<|bK (a:=l) ac ?_);rw[aF (by
  simp -iota only[cY,di];exact⟨⟨tq _,fJ (tB hk ac)⟩,hl⟩)]
 exact fD (az rx (lT (SP _ _) hl)) q
end
theorem MI.small{g:Gr}{td:af (ag×ag)}{x:St}{s:af O}{la:af ag}{r:ag->ag}{w:af ag}(I:MI g td x s la r w){b:ag}(h:b<22):Aa x la b:=⟨λz=>by have:=(I.vC b z).1;exact rJ h this,λp hp e=>by
 refine jj (I.Ic p hp) λc e' h' _=>?_
 rw[e] at e'
 replace e':=Internal.V.ref.inj e'
 subst e'
 exact rJ h h'⟩
theorem MI.fresh{g:Gr}{td:af (ag×ag)}{x:St}{s:af O}{la:af ag}{r:ag->ag}{w:af ag}(I:MI g td x s la r w){b:ag}(h:s.length<=b):Aa x la b:=⟨λz=>by have:=(I.vC b z).2;exact cU h this,λp hp e=>by
 refine xU (I.Ic p hp) λc e' _ h' _=>?_
 rw[e] at e'
 replace e':=Internal.V.ref.inj e'
 subst e'
 exact cU h h'⟩
theorem Uz{x:St}{s s':af O}{k':ag}(h:bM x.L s)(e:E1 s s')(w:We s' k'):bM {x with k:=k'}.L s':=by
 have:({x with k:=k'}:St).L=x.L.set 1 (lA k'):=ac;refine az this ?_;intro b o hb;by_cases c:b=1
 ·subst c;rw[hO (by decide:1<22)] at hb;replace hb:=aU hb;subst hb;exact w.well
 ·exact e _ _ c (h _ _ ((cj (dK c))▸hb))
theorem Bd.e1{g:Gr}{x:St}{s s':af O}{la:af ag}{k k':ag}(b:Bd g x s la)(w:We s k)(e:E1 s s')(w':We s' k'):Bd g {x with k:=k'} s' la:=
 ⟨b.I.move ac ac ac ac ac ac (Uz b.I.h e w') (λc o hc _ h=>e c o (bZ (lR (lB ac) hc)) h) (e.len w w'),⟨b.B.nums,b.B.PY,b.B.XJ,b.B.abn,b.B.ws,b.B.ds,b.B.abI⟩,b.C,b.P⟩
theorem We.kp{g:Gr}{td:af (ag×ag)}{x x':St}{s s':af O}{la Ab:af ag}{r:ag->ag}{w:af ag}{k:ag}(I:MI g td x s la r w)(u:We s k)(h:Kp x la s x' Ab s'):We s' k:=
 ⟨(h 1 _ (.inl (by decide)) (I.small (by decide)) u.well).2,bH (u.cells) λcs a b=>⟨cs,(h 3 _ (.inl (by decide)) (I.small (by decide)) a).2,b⟩⟩
structure Lw(g:Gr)(x:St)(s:af O)(la:af ag)(ta k:ag):Prop where
 b:Bd g x s la
 we:We s k
 p:Aa x la ta
 zr:22<=ta
 at_:s[ta]?=ae (.list (g.T.map Tm.enc))
 ht:∀t∈g.T,t.ht+1<=g.T.length
 op:∀t∈g.T,Ig t.op
theorem Lw.ext{g:Gr}{x:St}{s s':af O}{la:af ag}{ta k:ag}(h:Lw g x s la ta k)(e:bM s s'):Lw g x s' la ta k:=⟨h.b.ext e,h.we.ext e,h.p,h.zr,e _ _ h.at_,h.ht,h.op⟩
theorem Lw.e1{g:Gr}{x:St}{s s':af O}{la:af ag}{ta k k':ag}(h:Lw g x s la ta k)(e:E1 s s')(w':We s' k'):Lw g {x with k:=k'} s' la ta k':=⟨h.b.e1 h.we e w',w',⟨h.p.la,h.p.ab⟩,h.zr,e _ _ (by have:=h.zr;exact bZ (lR (lB ac) this)) h.at_,h.ht,h.op⟩
theorem Lw.ne{g:Gr}{x:St}{s:af O}{la:af ag}{ta k:ag}(h:Lw g x s la ta k):s≠[]:=oD h.b.I.h
theorem MB{n:ag}{ta:ag}{T:af Tm}{t:Tm}{m:Env}{s:af O}{Q:V->af O->Prop}(ne:s≠[])(hT:∀u∈T,u.ht<=7)(h5:t.ht<=5)(oN:s[ta]?=ae (.list (T.map Tm.enc)))(m1:m "late"=ae t.enc)(m2:m "terms"=ae (.ref ta))(hn:80<=n)(q:∀s' a,bM s s'->s'[a]?=ae (.list ((t.parts.filter λp=>!has p.enc (T.map Tm.enc)).map Tm.enc))->Q (.ref a) s'):Wp ((run prog n).ev (.comp (.var "part") [(.mk ["part"] (.seq (.call "_law_all_parts" [(.var "late")])) [(.cmp .mP (.var "part") (.var "terms"))])]) m) Q s:=by
 refine qc hn ?_;have pl:=vE t;have pw:2^(t.ht+1)<=64:=jy (n:=2) (by decide) (aR h5:t.ht+1<=6);have hp:∀p∈t.parts,p.ht<=5:=by
  have:∀(k:ag)(t:Tm),t.ht<k->∀p∈t.parts,p.ht<=t.ht:=by
   intro k;induction k with
   |zero=>intro t h;trivial
   |succ k ih=>
    intro t hk p hp;rw[mJ] at hp;rcases cR.mp hp with h|h
    ·refine bH (dg.mp h) λu hu h=>?_;have:=(qH hu).1;have:=ih u (lR this (b9 hk)) p h;lia
    ·refine az (bX.mp h) ?_;exact aP _
  exactλp h=>lT (this _ t (de _) p h) h5
 have sp:(t.parts.map Tm.enc).flatMap (λv=>if has v (T.map Tm.enc) then[] else[v])=(t.parts.filter λp=>!has p.enc (T.map Tm.enc)).map Tm.enc:=by
  generalize t.parts=ps;induction ps with
  |nil=>rfl
  |cons p ps ih=>refine az eL<|az eZ<|az ih<|az Km ?_;cases has p.enc (T.map Tm.enc)<;>rfl
 refine fW Dv Dv.rM (eS (fT (aH (aN m1 (aT (pX (t.ht+1) t (de _) (tB (lT (bc _ _) (lT pl pw)) ac) s _ _ ne (tB (bL (mL h5)) ac) λs1 a e1 l1 h1=>⟨a,_,ac,h1,h1,λq=>ne (dM.mp (kO.mp (by replace e1:=q▸e1;exact e1.len))),λv=>if has v (T.map Tm.enc) then[] else[v],?_,?_,?_⟩))))))
 ·show((t.parts.map Tm.enc).flatMap _).length<=_;refine az sp ?_;rewrite[be];exact lT (DJ _ _) (tB (lT (bc _ _) (lT pl pw)) ac)
 ·intro v hv s2 e2 pR;refine bH (bt.mp hv) λp yi z1=>?_;subst z1;have h2:=e2 _ _ (e1 _ _ oN);refine dj (λq=>by have z:=e1.len;exact ne (dM.mp (gT (lT z (bJ q)) (bR _)))) ac (oB (dT (aN ac (aN (m2) (A1 h2 (rV (by have:=hp p yi;exact tB (aR this) ac)) (oJ hT) ⟨_,ac,bM.refl _,?_⟩)))));cases has p.enc (T.map Tm.enc) with
  |true=>exact ac
  |false=>exact aN ac ⟨bM.refl _,p.enc,ac,λ_ _=>ac⟩
 ·intro s' rs e' ha al;have:=al.eq.trans sp;subst this;exact q s' _ (e1.trans e') ha
theorem UA{n:ag}{ta:ag}{T:af Tm}{m:Env}{s:af O}{Q:V->af O->Prop}(ne:s≠[])(hT:∀u∈T,u.ht<=7)(hl:T.length<=100)(nd:T.Nodup)(oN:s[ta]?=ae (.list (T.map Tm.enc)))(m2:m "terms"=ae (.ref ta))(hn:20<=n)(q:∀s' a,bM s s'->s.length<=a->s'[a]?=ae (.list (T.map Tm.enc))->Q (.ref a) s'):Wp ((run prog n).ev (.comp (.var "part") [(.mk ["k","part"] (.nW (.var "terms")) [(.cmp .mP (.var "part") (.gV (.var "terms") (.var "k")))])]) m) Q s:=by
 refine qc hn ?_
 have sp:∀(us:af V)(k:ag),((us.zipIdx k).map λp=>V.tup [.int p.2,p.1]).flatMap (λv=>match v with|.tup [_,u]=>[u]|_=>[])=us:=by
  intro us;induction us with
  |nil=>intro k;rfl
  |cons u us ih=>intro k;refine az JK<|az eL<|az eZ ?_;rewrite[ih];rfl
 refine fW Dv Dv.rM (Pp (aN m2 ⟨ta,_,ac,oN,oN,ne,λv=>match v with|.tup [_,u]=>[u]|_=>[],?_,?_,?_⟩))
 ·show(((T.map Tm.enc).zipIdx.map _).flatMap _).length<=_;rw[sp,be];exact tB hl ac
 ·intro v hv s2 e2 pR;refine bH (bt.mp hv) λz2 hp z3=>?_;obtain⟨u,k⟩:=z2;subst z3;have hk:=UB hp;simp at hk;refine fB hk λh1 h2=>?_;have h3:=e2 _ _ oN;have hu:T[k].enc=u:=h2.symm;have aaH:T[k]∈T:=dR h1;refine dj (λq=>ne (dM.mp q)) ac (oB (dT (aN (v:=u) ac (vy (aN (m2) (aN ac (zq h3 (bz (lR h1 (tB hl ac))) (by rw[be];exact tB hl ac) (A1 (bF _ _) (by refine dm hu ?_;exact rV (by have:=hT _ aaH;exact aR this)) (by refine dm JR ?_;exact oJ λt ht=>hT t (QL ht)) ⟨_,ac,bM.push _ _,?_⟩))))))));rw[aF]
  ·exact aN ac ⟨bM.refl _,_,ac,λ_ _=>ac⟩
  ·refine dm hu<|dm JR ?_;have:¬has T[k].enc ((T.take k).map Tm.enc)=aj:=λe=>by rcases List.mem_iff_getElem.mp (xR.mp e) with⟨j,hj,e⟩;rw[List.getElem_take] at e;replace hj:=rx▸hj;have:=(SK nd).mp e;lia
   simpa using this
 ·intro s' rs e' ha al;have:=al.eq.trans (sp _ 0);subst this;exact q s' _ e' (aP _) ha
structure E8(m:Env)(ta:ag):Prop where
 well:m "well"=ae (.ref 1)
 heap:m "heap"=ae (.ref 5)
 ie:m "terms"=ae (.ref ta)
theorem UC{T W:af Tm}{t:Tm}(hT:∀u∈T,u.ht<=7)(ht:t.ht<=7)(hl:T.length<=4)(hW:∀p∈W,p∈T):setOk ((T++(W++[t])).map Tm.enc)=aj/\(cF ((T++(W++[t])).map Tm.enc)).length<=5:=by
 have al:∀u∈T++(W++[t]),u∈T++[t]:=λu hu=>by
  simp only[cR] at hu⊢;rcases hu with h|h|h
  ·exact .inl h
  ·exact .inl (hW u h)
  ·exact .inr h
 have b:∀u∈T++(W++[t]),u.ht<=7:=λu hu=>by
  rcases cR.mp (al u hu) with h|h
  ·exact hT u h
  ·refine az (bX.mp h) ?_;exact ht
 constructor
 ·unfold setOk;simp only[cY,qC,di,eH];refine⟨oJ b,.inr ⟨λv hv=>?_,?_⟩⟩
  ·refine bH (bt.mp hv) λu _ z1=>?_;subst z1;rw[kg];rfl
  ·rewrite[<-mx];refine az iw<|az List.map_singleton<|az XB<|lT (gi (l:=T.map Tm.enc) cq λv hv=>bH (bt.mp (bU.mp hv)) λu hu z2=>?_) (by rw[be];exact hl);subst z2;refine bt.mpr ⟨u,?_,ac⟩;rcases cR.mp hu with h|h
   ·exact h
   ·exact hW u h
 ·refine lT (gi (l:=(T++[t]).map Tm.enc) cq λv hv=>bH (bt.mp (bU.mp hv)) λu hu z3=>?_) (by simp;assumption);subst z3;exact bt.mpr ⟨u,al u hu,ac⟩
theorem XR{g:Gr}{x:St}{s:af O}{la:af ag}{ta k n:ag}{m:Env}{R:Flow×Env->af O->Prop}(w:Lw g x s la ta k)(E:E8 m ta)(hN:g.T.length<=4)(hk:k<=800)(hn:187<=n)(q:∀m' s' g' x' Ab MY k',Lw g' x' s' Ab MY k'->E8 m' MY->g'.T.length<=g.T.length+1->1<=g'.T.length->k'<=k+3->R (.next,m') s'):Wp ((run prog n).ex Z5 m) R s:=by
 refine Pl hn ?_;have zr:=w.zr;have hT7:∀u∈g.T,u.ht<=7:=λu hu=>by have:=w.ht u hu;exact tB (lT (bc _ _) (lT this hN)) ac
 refine bV (c8 (fT (aH (aN E.well (aH (aN E.ie (aT (DX w.we (tB hk ac) w.at_ (bZ (lR (lB ac) zr)) hT7 (tB hN ac) (lB ac) λt s1 k1 ov e1 w1 Yn=>?_))))))));have W1:=w.e1 e1 w1;refine fB (Mz ov) λkin opt=>?_;have XS:t.ht<=g.T.length:=by
  rcases ov with rfl|rfl|⟨u,hu,rfl⟩|⟨u,hu,v,hv,rfl⟩
  ·exact bR _
  ·exact bR _
  ·exact w.ht u hu
  ·have:=w.ht u hu;have:=w.ht v hv;show max u.ht v.ht+1<=_;lia
 have pe:=mJ t;have hW:∀p∈t.kids.flatMap Tm.parts,p∈g.T:=λp hp=>by exact bH (dg.mp hp) λu hu h=>P7 W1.b.I.ok (u.ht+1) u (de _) (kin u hu) p h
 have pl:=vE t;have pw:2^(t.ht+1)<=32:=jy (n:=2) (by decide) (aR (lT XS hN):t.ht+1<=5);refine fB (UC hT7 (lT XS (tB hN ac)) hN hW) λso sd=>ic (dT (fm (gh (aN E.ie (fT (aH (aN ac (aT (pX (t.ht+1) t (de _) (tB (lT (bc _ _) (lT pl pw)) ac) s1 _ _ W1.ne (tB (bL (mL (lT XS hN))) ac) λs2 a2 e2 l2 h2=>rP (e2 _ _ W1.at_) h2 (by rw[be,be];exact tB (aE hN (lT (bc _ _) (lT pl pw))) ac) (MA (bF _ _) (by(refine dm iw ?_;refine az pe ?_);exact so) (by(refine dm iw ?_;refine az pe ?_);exact tB sd ac) (cS (dE ac ⟨_,ac,?_⟩))))))))))));refine az (aF (by(refine dm iw ?_;refine az pe ?_);exact eu (xV.mpr (tB sd ac)))) ?_;have W2:=W1.ext (e2.trans (bM.push s2 (.list (g.T.map Tm.enc++t.parts.map Tm.enc))));generalize s2++[O.list (g.T.map Tm.enc++t.parts.map Tm.enc)]=s3 at W2;have h3:=W2.b.I.h;have fin:∀(g':Gr)(x':St)(s4:af O)(Ab:af ag)(F:af Tm)(m:Env),Bd g' x' s4 Ab->We s4 k1->s4[ta]?=ae (.list (g.T.map Tm.enc))->g'.T=g.T++F->(t.parts.filter λp=>!has p.enc (g.T.map Tm.enc))=F->F.length<=1->(∀u∈F,u=t)->t∈g'.T->E8 m ta->m "late"=ae t.enc->Wp (dY (run prog (185)) [.assign (.name "terms") (.bin .add (.var "terms") (.comp (.var "part") [(.mk ["part"] (.seq (.call "_law_all_parts" [(.var "late")])) [(.cmp .mP (.var "part") (.var "terms"))])])),
   .assign (.name "terms") (.comp (.var "part") [(.mk ["k","part"] (.nW (.var "terms")) [(.cmp .mP (.var "part") (.gV (.var "terms") (.var "k")))])])] m) (After (run prog (186)) [] R) s4:=by
  intro g' x' s4 Ab F m b u h4 eT eF Fl Ft tin E m1
  have ne4:s4≠[]:=oD b.I.h
  refine c8 (gh (aN E.ie (MB ne4 hT7 (lT XS (tB hN ac)) h4 m1 E.ie (lB ac) λs5 a5 e5 h5=>?_)))
  replace h5:=eF▸h5
  refine rP (e5 _ _ h4) h5 (by rw[be,be];exact tB (aE hN Fl) ac)<|dm iw<|dm eT ?_
  have e6:=e5.trans (bM.push s5 (.list (g'.T.map Tm.enc)))
  have hT':∀u∈g'.T,u.ht+1<=g'.T.length:=λu hu=>by
   have Gx:u∈g.T++F:=eT▸hu;have len:g'.T.length=g.T.length+F.length:=by(refine az eT ?_;exact ct)
   rcases cR.mp Gx with h|h
   ·have:=w.ht u h;exact lT this (len▸bc _ _)
   ·have:=Ft u h;have:=UD h
    subst_vars
    exact len▸aE XS this
  have len:g'.T.length=g.T.length+F.length:=by(refine az eT ?_;exact ct)
  refine c8 (UA (λq=>ne4 (dM.mp (kO.mp (by have:=e6.len;replace this:=q▸this;exact this)))) (λu hu=>by have:=hT' u hu;exact tB (lT (bc _ _) (lT this (len▸aE hN Fl))) ac) (tB (len▸aE hN Fl) ac) b.I.ok.once (bF _ _) ac (lB ac) λs7 a7 e7 l7 h7=>c6 (c6 ?_))
  have e47:=e6.trans e7
  have l4:=e6.len
  refine q _ s7 g' x' Ab a7 k1 ⟨b.ext e47,u.ext e47,b.I.fresh (lT ‹_› ‹_›),lT (MX b.I.h) (lT l4 l7),h7,hT',λu hu=>?_⟩ ⟨E.well,E.heap,ac⟩ (len▸eD Fl _) (UD tin) Yn
  rcases cR.mp (eT▸hu) with h|h
  ·exact w.op u h
  ·refine az (Ft u h) ?_;exact opt
 have f0:((t.kids.flatMap Tm.parts).filter λp=>!has p.enc (g.T.map Tm.enc))=[]:=QK.mpr λp hp=>by simp[xR.mpr (hW p hp)]
 by_cases c:t∈g.T
 ·exact eh (eX.mp c) λi hi=>bV (fE (kd E.heap (h3 _ _ ac) (h3 _ _ ac) ac (aH (aN ac (aT (zo (t.ht+1) t (de _) i hi s3 _ _ W2.b (eY (tB (bL (mL (lT XS hN))) ac)) λs4 e4=>⟨bp,fin g _ s4 la [] _ (W2.b.ext e4) (W2.we.ext e4) (e4 _ _ W2.at_) (by simp) (by(refine az pe ?_;rewrite[xS];refine az f0 ?_);simp[xR.mpr c]) (by simp) (by simp) c ⟨E.well,E.heap,E.ie⟩ ac⟩))))))
 ·exact eh (Uy t.kids kin) λl hl=>bV (fE (kd E.heap (h3 _ _ ac) (h3 _ _ ac) ac (aH (aN ac (aT (Iq W2.b (⟨hl,c,hN,opt⟩) (eY (tB (bL (mL (lT XS hN))) ac)) λx4 s4 la4 v b4 k4=>⟨bp,fin (g.add t l) x4 s4 la4 [t] _ b4 (W2.we.kp W2.b.I k4) (k4 _ _ (.inr zr) W2.p W2.at_).2 ac (by(refine az pe ?_;rewrite[xS];refine az f0 ?_);simp[show has t.enc (g.T.map Tm.enc)=aQ from yO.mpr λe=>c (xR.mp e)]) (aP _) (by simp) (by show t∈g.T++[t];exact i6 _ (.head _)) ⟨E.well,E.heap,E.ie⟩ ac⟩))))))
theorem UE{n:ag}{u4:af V}{R:Flow×Env->af O->Prop}(hn:188<=n):∀(vs:af V)(m:Env)(s:af O)(g:Gr)(x:St)(la:af ag)(ta k:ag),Lw g x s la ta k->E8 m ta->g.T.length+vs.length<=5->k+3*vs.length<=800->(vs=[]->1<=g.T.length)->(∀m' s' g' x' Ab MY k',Lw g' x' s' Ab MY k'->E8 m' MY->1<=g'.T.length->k'<=k+3*vs.length->R (.next,m') s')->Wp (c9 ⟨u4,.none⟩ (λv m=>bP (bindTo m ["lap"] v) λm'=>(run prog n).ex Z5 m') vs m) R s:=by
 intro l0;induction l0 with
 |nil=>exactλm s g x la ta k w E _ _ h1 K=>jB bp (K m s g x la ta k w E (h1 ac) (bc _ _))
 |cons v vs ih=>intro m s g x la ta k w E h5 hk _ K;simp at h5 hk;exact hV bp (bK (a:=m.upd "lap" v) ac (XR w ⟨E.well,E.heap,E.ie⟩ (by lia) (lT (bc _ _) hk) (bz ‹_›) λm' s' g' x' Ab MY k' w' E' l1 l2 l3=>ih m' s' g' x' Ab MY k' w' E' (by lia) (by lia) (λ_=>l2) λm2 s2 g2 x2 la2 ta2 k2 w2 E2 p2 r2=>K m2 s2 g2 x2 la2 ta2 k2 w2 E2 p2 (by simp;lia)))
noncomputable abbrev Vz:af PS:=Iu (vO.body.getD 4 .fail)
noncomputable abbrev Gk(p:Tm×Tm):V:=.tup [p.1.enc,p.2.enc]
noncomputable def MC(g:Gr)(ps:af (Tm×Tm)):af (ag×ag):=ps.map λp=>(g.ix p.1,g.ix p.2)
theorem gR.sub{g:Gr}{td Z6:af (ag×ag)}{q:ag->ag}(Q:gR g Z6 q)(h:∀p∈td,p∈Z6):gR g td q:=⟨λa b m=>Q.1 a b (h _ m),Q.2⟩
theorem MI.more{g:Gr}{td Z6:af (ag×ag)}{x:St}{s:af O}{la:af ag}{r:ag->ag}{w:af ag}(I:MI g td x s la r w)(h:∀p∈td,p∈Z6):MI g Z6 x s la r w:=
 {I with sound:=λq Q=>I.sound q (Q.sub h),known:=λp hp=>KB ((I.known p hp).ex) λo t a b e1 e2 e3 e4=>⟨o,t,a,b,e1,e2,e3,λq Q=>e4 q (Q.sub h)⟩}
structure E9(m:Env)(ta pa:ag):Prop where
 well:m "well"=ae (.ref 1)
 heap:m "heap"=ae (.ref 5)
 ie:m "terms"=ae (.ref ta)
 pairs:m "pairs"=ae (.ref pa)
structure Pw(g:Gr)(x:St)(s:af O)(la:af ag)(r:ag->ag)(w:af ag)(ta pa k:ag)(ps:af (Tm×Tm)):Prop where
 I:MI g (MC g ps) x s la r w
 C:Cp g x r w (λ_=>io)
 T:∀p∈MC g ps,r p.1=r p.2
 we:We s k
 pt:Aa x la ta
 pp:Aa x la pa
 ne:ta≠pa
 zr:22<=ta
 MD:22<=pa
 at_:s[ta]?=ae (.list (g.T.map Tm.enc))
 ap:s[pa]?=ae (.list (ps.map Gk))
 ht:∀t∈g.T,t.ht+1<=g.T.length
 op:∀t∈g.T,Ig t.op
 pos:1<=g.T.length
 mem:∀p∈ps,p.1∈g.T/\p.2∈g.T
 mf:mf x r w g.T.length<=310+ps.length
 mu:w.length+10*cnt r g.T.length<=50
section
variable{g:Gr}{x:St}{s:af O}{la:af ag}{r:ag->ag}{w:af ag}{ta pa k n:ag}{ps:af (Tm×Tm)}{Q:V->af O->Prop}{m:Env}
theorem Pw.UG(p:Pw g x s la r w ta pa k ps):g.zZ:=⟨λt h=>by have j1:=p.ht t h;have j2:=p.I.ok.small;exact tB (lT (bc _ _) (lT j1 j2)) ac⟩
theorem KH(we:We s k)(hk:k<=900)(m1:m "well"=ae (.ref 1))(m2:m "terms"=ae (.ref ta))(oN:s[ta]?=ae (.list (g.T.map Tm.enc)))(zr:22<=ta)(pos:1<=g.T.length)(small:g.T.length<=5)(hn:40<=n)(q:∀(i:ag) (t:Tm) s',g.T[i]?=ae t->E1 s s'->We s' (k+1)->Q t.enc s'):Wp ((run prog n).ev (.idx (.var "terms") (.call "_law_number" [(.var "well"),(.bi "len" (.var "terms"))])) m) Q s:=by refine qc hn<|ef (aN m2 (fT (aH (aN m1 (aH (fm (aN m2 (gJ oN (by rw[be];exact tB small ac) (aT ?_)))))))));rw[be];refine ik we (tB hk ac) (by assumption) (tB small ac) (lB ac) λi s1 hi e1 _ w1=>?_;have wa:g.T[i]?=ae g.T[i]:=dq hi;exact fA (e1 _ _ (bZ (lR (lB ac) zr)) oN) (by(refine az (gw) ?_;refine az wa ?_);rfl) (by rw[be];exact tB small ac) (q i _ s1 wa e1 w1)
theorem Iw{a:ag}{l:af V}{v:V}(h:s[a]?=ae (.list (l++[v])))(hl:l.length<=1000)(q:Q v s):Wp (vH (.ref a) (.int (-1))) Q s:=by
 refine show Wp (nY a (KR (.int (-1))) (M2 (.int (-1)))) Q s from AM h (bK (a:=(-1:aJ)) ac (bK (f:=λv=>ret v) ?_ (bx q)));have j1:place (-1) (l++[v]).length=ae l.length:=by
  unfold place;refine az (aF (ac))<|az (aG (cE)) ?_;have e:(-1:aJ)+((l++[v]).length:ag)=(l.length:ag):=by rw[ct,Int.natCast_add,Int.add_comm ((l.length:ag):aJ)];exact Int.neg_add_cancel_left 1 _
  exact az (aF (bA ac (eu (e▸tq _))))<|congrArg ae (bf Int.toNat e)
 exact az j1 nK
theorem XU{k:ag}(hk:k<3):∃z:aM,z.length<=10/\∀s,iV "str" (.int k) s=ae (.str z,s):=by
 match k,hk with
 |0,_=>exact⟨_,by decide,λs=>ac⟩
 |1,_=>exact⟨_,by decide,λs=>ac⟩
 |2,_=>exact⟨_,by decide,λs=>ac⟩
theorem UH{j:ag}{R:Flow×Env->af O->Prop}(p:Pw g x s la r w ta pa k ps)(E:E9 m ta pa)(hl:m "lap"=ae (.int j))(hj:j<3)(PO:ps.length<=10)(hk:k<=800)(hn:100<=n)(q:∀s' x' r' w' GC,Pw g x' s' la r' w' ta pa (k+2) GC->GC.length=ps.length+1->R (.next,m) s'):Wp ((run prog n).ex Vz m) R s:=by
 refine Pl hn ?_;have hs:=p.I.ok.small;have zr:=p.zr;have MD:=p.MD;refine bV (fE (eG (aN E.pairs ⟨pa,_,ac,p.ap,.inl ac,aH (eN (aH (KH p.we (tB hk ac) E.well E.ie p.at_ zr p.pos hs (lB ac) λi t s1 hi e1 w1=>aH (KH w1 (tB (aR hk) ac) E.well E.ie (e1 _ _ (bZ (lR (lB ac) zr)) p.at_) zr p.pos hs (by exact lB ac) λi' u s2 wa e2 w2=>aT (aT ?_)))))⟩)));have Uk:=e1.trans e2;have l12:=Uk.len p.we w2;have ap2:=Uk _ _ (nE MD ac) p.ap;refine⟨⟨_,ap2,ac⟩,fc ap2 (bZ (lR (lB ac) MD)) (by rw[be];exact tL PO ac) ⟨bp,az (by simp:ps.map Gk++[V.tup [t.enc,u.enc]]=(ps++[(t,u)]).map Gk) ?_⟩⟩;generalize Gc:s2.set pa (.list ((ps++[(t,u)]).map Gk))=s3;have k3:∀(b:ag) o,b≠pa->s2[b]?=ae o->s3[b]?=ae o:=λb o hb e=>by(refine dm Gc ?_;refine az (cj (dK hb)) ?_);exact e
 have h3:bM {x with k:=k+1+1}.L s3:=Gc▸(Uz p.I.h Uk w2).set MD _;have l3:s3.length=s2.length:=by refine dm Gc ?_;exact gK
 have ap3:s3[pa]?=ae (.list (ps.map Gk++[V.tup [t.enc,u.enc]])):=by(refine dm Gc ?_;rewrite[hO (bq.mp ap2).1]);simp
 have VA:=k3 _ _ p.ne (Uk _ _ (nE zr ac) p.at_);have ix:g.ix t=i:=p.I.ok.ix hi;have ix':g.ix u=i':=p.I.ok.ix wa;have td:MC g (ps++[(t,u)])=MC g ps++[(i,i')]:=by simp[MC,ix,ix']
 have I3:MI g (MC g (ps++[(t,u)])) {x with k:=k+1+1} s3 la r w:=(p.I.more λz hz=>by refine az td ?_;exact i5 _ hz).move ac ac ac ac ac ac h3 (λb o hb np e=>k3 b o (λz=>np (z▸p.pp)) (Uk _ _ (nE hb ac) e)) (lT l12 (bJ l3.symm));have hm1:t∈g.T:=cw hi;have hm2:u∈g.T:=cw wa;refine bH (XU hj) λz zl hz=>?_;have idx:∀{n:ag}{c:ag}{v:V}{K:V->af O->Prop},[t.enc,u.enc][c]?=ae v->K v s3->Wp ((run prog (n+5)).ev (.idx (.idx (.var "pairs") (.neg (.int 1))) (.int c)) m) K s3:=λhv kk=>
  ef (ef (aN E.pairs (Pn (cS ⟨_,ac,ac,Iw ap3 (by rw[be];exact tB PO ac) (cS (iE hv (by exact lB ac) kk))⟩))))
 refine fE (kd E.heap (h3 _ _ ac) (h3 _ _ ac) ac (aH (eG (aN E.ie ⟨ta,_,ac,VA,.inl ac,aH (idx (c:=0) ac (aT ⟨⟨_,VA,ac⟩,zg p.I.ok p.UG VA hi (aH (eG (aN E.ie ⟨ta,_,ac,VA,.inl ac,aH (idx (c:=1) ac (aT ⟨⟨_,VA,ac⟩,zg p.I.ok p.UG VA wa (aH (eN (aH (gQ (aH (gh (gQ (fm (aN hl (ny (hz _)<|ny (a:=.str (aB "t"++z)) (s:=s3) ?_ (aT (aT ?_))))))))))))⟩))⟩)))⟩))⟩))))
 ·show(if(aB "t").length+z.length<=1000 then ret (V.str (aB "t"++z)) else fail) s3=_;refine az (aF (by have j1:(aB "t").length=1:=ac;exact tB (aE (bJ j1) zl) ac)) ?_;rfl
 have aaI:=p.mf;refine cN (pf:=tE) ac ac (dZ (kd ac (h3 _ _ ac) (h3 _ _ ac) ac (aH (aN ac (aH (aN ac (aH (aN ac (aT (KA I3 (bq.mp hi).1 (bq.mp wa).1 (λq Q=>Q.1 i i' (by refine az td ?_;exact i6 _ (.head _))) (show mf x r w g.T.length<=900 by exact tB (lT aaI (bL PO)) ac) (lB ac) λx4 s4 r4 w4 v I4 j4=>⟨bp,c6 ?_⟩))))))))));have kp:∀(b:ag) o,(b<4\/22<=b)->Aa x la b->s3[b]?=ae o->Aa x4 la b/\s4[b]?=ae o:=λb o hb P e=>j4.kp b o hb ⟨P.la,P.ab⟩ e;refine q s4 x4 r4 w4 (ps++[(t,u)]) ⟨I4,λ{c v l} a b _=>?_,λpr hp=>?_,(⟨k3 _ _ (b8 (lR (lB ac) MD)) w2.well,bH (w2.cells) λcs a b=>⟨cs,k3 _ _ (b8 (lR (lB ac) MD)) a,b⟩⟩:We s3 (k+2)).kp I3 j4.kp,(kp ta _ (.inr zr) p.pt VA).1,(kp pa _ (.inr MD) p.pp ap3).1,p.ne,zr,MD,(kp ta _ (.inr zr) p.pt VA).2,by refine az ((kp pa _ (.inr MD) p.pp ap3).2) ?_;simp,p.ht,p.op,p.pos,λpr hp=>?_,?_,?_⟩ (ct)
 ·rcases j4.key a b with y|y
  ·exact .inl y
  ·refine az y<|az j4.known ?_;rcases p.C a b id with y|⟨o,y1,y2,y3⟩
   ·exact .inl (j4.sub _ y)
   ·exact .inr ⟨o,y1,y2,j4.co _ _ y3⟩
 ·replace hp:=td▸hp;rcases cR.mp hp with hp|hp
  ·exact j4.co _ _ (p.T pr hp)
  ·refine az (bX.mp hp) ?_;exact j4.eq
 ·rcases cR.mp hp with hp|hp
  ·exact p.mem pr hp
  ·refine az (bX.mp hp) ?_;exact⟨hm1,hm2⟩
 ·exact az ct (lT j4.any.1 (jF p.mf))
 ·have:=j4.any.2;have:=p.mu;exact lT ‹_› ‹_›
theorem P8{u4:af V}{R:Flow×Env->af O->Prop}(hn:100<=n):∀(js:af ag)(m:Env)(s:af O)(x:St)(r:ag->ag)(w:af ag)(k:ag)(ps:af (Tm×Tm)),Pw g x s la r w ta pa k ps->E9 m ta pa->(∀j∈js,j<3)->ps.length+js.length<=10->k+2*js.length<=800->(∀m' s' x' r' w' k' GC,Pw g x' s' la r' w' ta pa k' GC->E9 m' ta pa->GC.length<=10->k'<=k+2*js.length->R (.next,m') s')->Wp (c9 ⟨u4,.none⟩ (λv m=>bP (bindTo m ["lap"] v) λm'=>(run prog n).ex Vz m') (nats js) m) R s:=by
 intro l0;induction l0 with
 |nil=>exactλm s x r w k ps p E _ h1 _ K=>jB bp (K m s x r w k ps p E (by trivial) (bc _ _))
 |cons j js ih=>intro m s x r w k ps p E hj h1 hk K;simp at h1 hk;exact hV bp (bK (a:=m.upd "lap" (.int j)) ac (UH p ⟨E.well,E.heap,E.ie,E.pairs⟩ ac (hj j (.head _)) (lT (bc _ _) h1) (lT (bc _ _) hk) hn λs' x' r' w' GC p' l'=>ih _ s' x' r' w' _ GC p' ⟨E.well,E.heap,E.ie,E.pairs⟩ (λi h=>hj i (.tail _ h)) (by lia) (by lia) λm2 s2 x2 r2 w2 k2 ps2 p2 E2 l2 r2'=>K m2 s2 x2 r2 w2 k2 ps2 p2 E2 l2 (by simp;lia)))
end
noncomputable def Tm.vars:Tm->af aM
 |.leaf z=>if dU z then[z] else[]
 |.f p=>p.vars
 |.g p q=>p.vars++q.vars
noncomputable def Sub(τ σ:Tb):Prop:=∀k v,bI k τ=ae v->bI k σ=ae v
theorem Sub.refl(τ:Tb):Sub τ τ:=λ_ _ h=>h
theorem Sub.trans{a b c:Tb}(x:Sub a b)(y:Sub b c):Sub a c:=λk v h=>y k v (x k v h)
noncomputable def UI(C:af ag)(τ:Tb):Prop:=∀k v,bI k τ=ae v->∃(z:aM)(c:ag),k=.str z/\v=.int c/\c∈C
noncomputable def Dom(τ:Tb)(zs:af aM)(mO:Tb):Prop:=∀z,(bI (.str z) mO).isSome=aj↔(bI (.str z) τ).isSome=aj\/z∈zs
structure Mt(nd:V->af V)(es:Tb)(C:af ag):Prop where
 nd:∀c∈C,∀v,v∈nd (.int c)↔bI v es=ae (.int c)
 es:∀{v u},bI v es=ae u->∃(o:aM)(l:af ag)(c:ag),v=.tup (.str o::nats l)/\(∀j∈l,j∈C)/\u=.int c/\c∈C
section
variable{nd:V->af V}{es:Tb}{C:af ag}
structure Ex(C:af ag)(es:Tb)(p:Tm)(τ:Tb)(c:ag)(mO:Tb):Prop where
 tb:UI C mO
 sub:Sub τ mO
 UJ:Dom τ p.vars mO
 st:∀σ,Sub mO σ->dk σ es p=.int c
theorem XW{a b:aM}(h:a≠b):¬V.beq (.str a) (.str b)=aj:=λe=>h (by
 injection (V.eq_of_beq _ _ e))
theorem Mt.EY(M:Mt nd es C){z:aM}{k u:V}(h:bI (.tup [.str z,k]) es=ae u):∃j:ag,k=.int j/\j∈C:=by
 refine Qk (M.es h) λo l _ e hl _=>?_;replace e:=(fk (V.tup.inj e)).2
 match l,e,hl with
 |j::l,e,hl=>exact⟨j,(fk e).1,hl j (.head _)⟩
theorem Mt.R8(M:Mt nd es C){z:aM}{k k' u:V}(h:bI (.tup [.str z,k,k']) es=ae u):∃j j':ag,k=.int j/\k'=.int j'/\j∈C/\j'∈C:=by
 refine Qk (M.es h) λo l _ e hl _=>?_;replace e:=(fk (V.tup.inj e)).2
 match l,e,hl with
 |[_],e,_=>cases(fk e).2
 |j::j'::l,e,hl=>exact⟨j,j',(fk e).1,(fk (fk e).2).1,hl j (.head _),hl j' (.tail _ (.head _))⟩
theorem Gl{z:aM}(hz:dU z=aj):(Tm.leaf z).vars=[z]:=aF hz
theorem P9{z:aM}(hz:¬dU z=aj):(Tm.leaf z).vars=[]:=aG hz
theorem zt{z:aM}{σ:Tb}(hz:dU z=aj):dk σ es (.leaf z)=(bI (.str z) σ).getD .none:=aF hz
theorem zu{z:aM}{σ:Tb}(hz:¬dU z=aj):dk σ es (.leaf z)=(bI (.tup [.str z]) es).getD (.int (-1)):=aG hz
theorem ME(M:Mt nd es C)(p:Tm):∀(τ:Tb)(c:ag),c∈C->UI C τ->∀mO∈ext nd p τ (.int c),Ex C es p τ c mO:=by
 induction p with
 |leaf z=>
  intro τ c hc tb mO h;by_cases hz:dU z=aj
  ·replace h:mO∈(if dU z then _ else _:af Tb):=h;replace h:=(aF hz)▸h;by_cases e:V.beq ((bI (.str z) τ).getD (.int c)) (.int c)=aj
   ·replace h:=(aF e)▸h;refine az (bX.mp h) ?_;replace e:=V.eq_of_beq _ _ e;refine⟨λk v hk=>?_,λk v hk=>?_,λy=>?_,λσ s=>?_⟩
    ·rw[il] at hk;by_cases q:V.beq (.str z) k=aj
     ·replace hk:=(aF q)▸hk;exact⟨z,c,(V.eq_of_beq _ _ q).symm,(aU hk).symm,hc⟩
     ·replace hk:=(aG q)▸hk;exact tb k v hk
    ·rw[il];by_cases q:V.beq (.str z) k=aj
     ·refine az (aF q) ?_;replace e:=(V.eq_of_beq _ _ q)▸e;exact bf ae (hk▸e).symm
     ·exact az (aG q) (hk)
    ·rewrite[il];refine az (Gl hz) ?_;by_cases q:z=y
     ·exact az q<|az (aF (V.beq_refl _)) (⟨λ_=>.inr (.head _),λ_=>ac⟩)
     ·exact az (aG (XW q)) (⟨.inl,λh=>h.elim id λh=>aV (bX.mp h).symm q⟩)
    ·exact az (zt hz)<|az (s (.str z) (.int c) (l9 _ _ _)) ac
   ·replace h:=(aG e)▸h;cases h
  ·have h:=(zb hz).mp h;refine az h.2 ⟨tb,Sub.refl _,λy=>?_,λσ s=>?_⟩
   ·exact az (P9 hz) ⟨.inl,λh=>h.elim id λh=>(gu h).elim⟩
   ·exact az (zu hz)<|az ((M.nd c hc _).mp h.1) ac
 |f p ih=>intro τ c hc tb mO h;refine bH (PA.mp h) λk hv h=>?_;have hk:=(M.nd c hc _).mp hv;refine bH (M.EY hk) λj z1 hj=>?_;subst z1;have x:=ih τ j hj tb mO h;refine⟨x.tb,x.sub,x.UJ,λσ s=>?_⟩;show(bI (.tup [.str fS,dk σ es p]) es).getD _=_;exact az (x.st σ s)<|az hk ac
 |g p q ih PD=>
  intro τ c hc tb mO h;refine Qk (PB.mp h) λk k' FQ hv h1 h2=>?_;have hk:=(M.nd c hc _).mp hv;refine Ed (M.R8 hk) λj j' z2 z3 hj MR=>?_;subst z2;subst z3;have x:=ih τ j hj tb FQ h1;have y:=PD FQ j' MR x.tb mO h2;refine⟨y.tb,x.sub.trans y.sub,λz=>?_,λσ s=>?_⟩
  ·rw[y.UJ z,x.UJ z];show _↔_\/z∈p.vars++q.vars;rw[cR,DM]
  ·show(bI (.tup [.str gS,dk σ es p,dk σ es q]) es).getD _=_;exact az (x.st σ (y.sub.trans s))<|az (y.st σ s)<|az hk ac
theorem zv{es:Tb}{k:V}{c:ag}(h:(bI k es).getD (.int (-1))=.int c):bI k es=ae (.int c):=by
 cases e:bI k es with
 |some v=>replace h:=e▸h;exact bf ae h
 |none=>replace h:=e▸h;injection h with h;trivial
theorem D4(M:Mt nd es C){σ:Tb}(p:Tm):∀(τ:Tb)(c:ag),c∈C->Sub τ σ->(∀z∈p.vars,∃j:ag,bI (.str z) σ=ae (.int j))->dk σ es p=.int c->∃mO∈ext nd p τ (.int c),Sub mO σ:=by
 induction p with
 |leaf z=>
  intro τ c hc s cv h;by_cases hz:dU z=aj
  ·replace h:=(zt hz)▸h;replace cv:=(Gl hz)▸cv;refine eh (cv z (.head _)) λj hj=>?_;replace h:=hj▸h;replace h:V.int j=.int c:=h;replace hj:=h▸hj;refine⟨du (.str z) (.int c) τ,?_,λk v hk=>?_⟩
   ·show _∈(if dU z then _ else _:af Tb);refine az (aF hz) ?_;rewrite[aF]
    ·exact .head _
    ·cases e:bI (.str z) τ with
     |none=>exact V.beq_refl _
     |some v=>exact az (aU ((s _ _ e).symm.trans hj))<|V.beq_refl _
   ·rw[il] at hk;by_cases q:V.beq (.str z) k=aj
    ·replace hk:=(aF q)▸hk;exact dm (V.eq_of_beq _ _ q)<|az hj (hk)
    ·replace hk:=(aG q)▸hk;exact s k v hk
  ·exact⟨τ,(zb hz).mpr ⟨(M.nd c hc _).mpr (zv ((zu hz)▸h)),ac⟩,s⟩
 |f p ih=>intro τ c hc s cv h;have hk:=zv (k:=.tup [.str fS,dk σ es p]) h;refine bH (M.EY hk) λj e hj=>?_;replace hk:=e▸hk;exact bH (ih τ j hj s cv e) λmO h1 h2=>⟨mO,PA.mpr ⟨_,(M.nd c hc _).mpr hk,h1⟩,h2⟩
 |g p q ih PD=>intro τ c hc s cv h;have hk:=zv (k:=.tup [.str gS,dk σ es p,dk σ es q]) h;refine Ed (M.R8 hk) λj j' e e' hj MR=>?_;replace hk:=e▸hk;replace hk:=e'▸hk;exact bH (ih τ j hj s (λz hz=>cv z (i5 _ hz)) e) λFQ h1 h2=>bH (PD FQ j' MR h2 (λz hz=>cv z (i6 _ hz)) e') λmO h3 h4=>⟨mO,PB.mpr ⟨_,_,FQ,(M.nd c hc _).mpr hk,h1,h3⟩,h4⟩
structure Rw(C:af ag)(es:Tb)(ps:af Tm)(sA ρ:Row)(cs:af ag):Prop where
 vA:ρ.1=sA.1++nats cs
 tb:UI C ρ.2
 sub:Sub sA.2 ρ.2
 UJ:Dom sA.2 (ps.flatMap Tm.vars) ρ.2
 st:∀σ,Sub ρ.2 σ->ps.map (dk σ es)=nats cs
theorem Iy(M:Mt nd es C):∀(ps:af Tm)(rows:af Row),(∀ρ∈rows,UI C ρ.2)->∀ρ∈iS nd C rows ps,∃sA∈rows,∃cs,Rw C es ps sA ρ cs:=by
 intro l0;induction l0 with
 |nil=>exactλrows tb ρ h=>⟨ρ,h,[],by simp[nats],tb ρ h,Sub.refl _,λz=>by simp,λσ s=>ac⟩
 |cons p ps ih=>
  intro rows tb ρ h;have step:∀d0∈r0 nd C rows p,∃sA∈rows,∃c∈C,d0.1=sA.1++[.int c]/\Ex C es p sA.2 c d0.2:=λd0 h1=>by exact bH (dg.mp h1) λsA h0 h1=>bH (dg.mp h1) λc hc h1=>bH (bt.mp h1) λτ rT z4=>z4▸⟨sA,h0,c,hc,ac,ME M p sA.2 c hc (tb sA h0) τ rT⟩
  obtain⟨d0,h1,cs,w⟩:=ih (r0 nd C rows p) (λd0 h1=>let⟨_,_,_,_,_,e⟩:=step d0 h1;e.tb) ρ h;obtain⟨sA,h0,c,hc,e1,e⟩:=step d0 h1;refine⟨sA,h0,c::cs,by(refine az w.vA ?_;refine az e1 ?_;rewrite[mx]);rfl,w.tb,e.sub.trans w.sub,λz=>?_,λσ s=>?_⟩
  ·rewrite[w.UJ z,e.UJ z];refine az eZ ?_;rewrite[cR,DM];rfl
  ·exact az eL<|az (w.st σ s)<|az (e.st σ (w.sub.trans s)) ac
theorem Ac(M:Mt nd es C):∀(ps:af Tm)(rows:af Row)(sA:Row)(σ:Tb)(cs:af ag),sA∈rows->Sub sA.2 σ->(∀p∈ps,∀z∈p.vars,∃j:ag,bI (.str z) σ=ae (.int j))->(∀c∈cs,c∈C)->ps.map (dk σ es)=nats cs->∃ρ∈iS nd C rows ps,ρ.1=sA.1++nats cs/\Sub ρ.2 σ:=by
 intro l0;induction l0 with
 |nil=>
  intro rows sA σ cs h0 s _ _ e;induction cs with
  |nil=>exact⟨sA,h0,by simp[nats],s⟩
  |cons c cs=>cases e
 |cons p ps ih=>
  intro rows sA σ cs h0 s cv Yr e;induction cs with
  |nil=>cases e
  |cons c cs=>injection e with e1 e2;exact bH (D4 M p sA.2 c (Yr c (.head _)) s (cv p (.head _)) e1) λτ h1 h2=>jj (ih _ _ σ cs (dg.mpr ⟨sA,h0,dg.mpr ⟨c,Yr c (.head _),bt.mpr ⟨τ,h1,ac⟩⟩⟩:(sA.1++[V.int c],τ)∈r0 nd C rows p) h2 (λp hp=>cv p (.tail _ hp)) (λc hc=>Yr c (.tail _ hc)) e2) λρ h3 h4 h5=>⟨ρ,h3,by(refine az h4 ?_;rewrite[mx]);rfl,h5⟩
end
noncomputable def asg(C:af ag):af aM->af Tb
 |[]=>[[]]
 |z::zs=>C.flatMap λ(c:ag)=>(asg C zs).map λτ=>(V.str z,V.int c)::τ
theorem str_inj{a b:aM}(h:V.str a=V.str b):a=b:=by injection h
theorem uZ{z:aM}{zs:af aM}:V.str z∈zs.map V.str↔z∈zs:=⟨λh=>by
 refine bH (bt.mp h) λy hy e=>dm (str_inj e) ?_;exact hy,λh=>bt.mpr ⟨z,h,ac⟩⟩
section
variable{C:af ag}
theorem Qa:∀(zs:af aM)(ts:af Tb),zs.Nodup->(∀τ∈ts,∀z∈zs,V.str z∉τ.map (·.1))->tabs C zs ts=ts.flatMap λτ=>(asg C zs).map (τ++·):=by
 intro l0;induction l0 with
 |nil=>
  intro ts _ _;refine(?_:ts=_);induction ts with
  |nil=>rfl
  |cons t ts ih=>(refine az eZ ?_;refine dm (ih λ_ h=>by intro z hz;cases hz) ?_);simp[asg]
 |cons z zs ih=>
  intro ts nd h;rw[eV] at nd;have e:uV C z ts=ts.flatMap λτ=>C.map λ(c:ag)=>τ++[(V.str z,V.int c)]:=iR λτ rT=>wH λc _=>F0 (h τ rT z (.head _));show tabs C zs (uV C z ts)=_;rw[ih _ nd.2 λτ rT y hy=>?_,e,UK]
  ·refine iR λτ _=>?_;rw[fj,asg,Kw];exact iR λc _=>az iz<|List.map_congr_left λσ _=>mx ..
  ·rw[e] at rT;refine bH (dg.mp rT) λXu h0 rT=>bH (bt.mp rT) λc _ z1=>?_;subst z1;refine az iw ?_;rewrite[cR];rintro(q|q)
   ·exact h Xu h0 y (.tail _ hy) q
   ·have j1:=str_inj (bX.mp q);replace j1:=j1.symm;subst j1;exact nd.1 hy
theorem qJ:∀{zs:af aM}{τ:Tb},τ∈asg C zs->τ.map (·.1)=zs.map V.str/\∀p∈τ,∃(z:aM)(c:ag),p=(.str z,.int c)/\c∈C:=by
 intro l0;induction l0 with
 |nil=>intro τ h;have h:=bX.mp h;subst h;exact⟨ac,λ_ h=>(gu h).elim⟩
 |cons z zs ih=>
  intro τ h;refine bH (dg.mp h) λc hc h=>bH (bt.mp h) λmO h' z2=>?_;subst z2;rcases ih h' with⟨a,b⟩;refine⟨by(refine az eL ?_;refine az a ?_);rfl,λp hp=>?_⟩;rcases ci.mp hp with rfl|hp
  ·exact⟨z,c,ac,hc⟩
  ·exact b p hp
theorem KI(zs:af aM):(asg C zs).length<=C.length^zs.length:=by
 induction zs with
 |nil=>exact aP _
 |cons z zs ih=>refine az iD ?_;rewrite[rI,Ky];exact fF λc _=>by rw[be];exact ih
theorem MF(hC:C.Nodup):∀zs:af aM,(asg C zs).Nodup:=by
 intro l0;induction l0 with
 |nil=>exact jQ _ _
 |cons z zs ih=>refine KJ.mpr ⟨λc _=>i8 (λa _ b _ e=>by injection e) (ih),hC.imp λ{c c'} n x hx y hy e=>?_⟩;rcases bt.mp hx with⟨x',_,rfl⟩;refine bH (bt.mp hy) λy' _ z3=>?_;subst z3;injection e with e _;injection e with _ e;exact n (iQ e)
theorem XX{φ:aM->ag}:∀{zs:af aM},(∀z∈zs,φ z∈C)->(zs.map λz=>(V.str z,V.int (φ z)))∈asg C zs:=by
 intro l0;induction l0 with
 |nil=>exactλ_=>.head _
 |cons z zs ih=>exactλh=>dg.mpr ⟨φ z,h z (.head _),bt.mpr ⟨_,ih λy hy=>h y (.tail _ hy),ac⟩⟩
end
theorem IA{zs:af aM}(h:zs.Nodup):(zs.map V.str).Nodup:=i8 (λ_ _ _ _ e=>str_inj e) h
theorem iI.nH{τ:Tb}(h:iI τ){k v:V}:bI k τ=ae v↔(k,v)∈τ:=by
 refine⟨iT,λm=>?_⟩;have o:=h.once;clear h;induction τ with
 |nil=>cases m
 |cons p τ ih=>
  rw[eL,eV] at o;obtain⟨a,b⟩:=p;refine nV.trans ?_;rcases ci.mp m with e|m
  ·cases e;exact(aF (V.beq_refl _))
  ·exact az (aG λe=>o.1 (by refine az (V.eq_of_beq _ _ e) ?_;exact bt.mpr ⟨_,m,ac⟩)) (ih m o.2)
theorem iI.UJ{τ:Tb}(h:iI τ){zs:af aM}(e:τ.map (·.1)=zs.map V.str){z:aM}:(bI (.str z) τ).isSome=aj↔z∈zs:=by
 rewrite[<-uZ];refine dm e ?_;constructor
 ·intro q;exact eh (kJ.mp q) λv hv=>bt.mpr ⟨_,h.nH.mp hv,ac⟩
 ·intro q;refine bH (bt.mp q) λz4 hp e=>?_;obtain⟨k,v⟩:=z4;subst e;refine az (h.nH.mpr hp) ?_;rfl
theorem vF{C:af ag}{zs:af aM}(nd:zs.Nodup){τ:Tb}(h:τ∈asg C zs):iI τ/\UI C τ/\∀z,(bI (.str z) τ).isSome=aj↔z∈zs:=by refine fB (qJ h) λa b=>?_;have ok:iI τ:=⟨λp hp=>lC (b p hp) λz c e _=>⟨z,c,e⟩,by refine az a ?_;exact IA nd⟩;refine⟨ok,λk v hk=>lC (b _ (ok.nH.mp hk)) λz c e hc=>?_,λz=>ok.UJ a⟩;injection e with e1 e2;exact⟨z,c,e1,e2,hc⟩
noncomputable def canon(zs:af aM)(τ:Tb):af V:=zs.map λz=>.tup [.str z,(bI (.str z) τ).getD .none]
theorem qK{τ:Tb}(h:iI τ){v:V}(m:v∈cO τ):∃(z:aM)(j:ag),v=.tup [.str z,.int j]/\bI (.str z) τ=ae (.int j):=by refine bH (bt.mp m) λp hp z5=>?_;subst z5;refine sE (h.kv p hp) λz j z6=>?_;subst z6;exact⟨z,j,ac,h.nH.mpr hp⟩
theorem rW{zs:af aM}{τ:Tb}(h:iI τ)(d:∀z,(bI (.str z) τ).isSome=aj↔z∈zs){v:V}:v∈canon zs τ↔v∈cO τ:=by
 constructor
 ·intro m;refine bH (bt.mp m) λz hz z7=>?_;subst z7;rcases kJ.mp ((d z).mpr hz) with⟨v,hv⟩;exact az hv (bt.mpr ⟨_,h.nH.mp hv,ac⟩)
 ·intro m;exact lC (qK h m) λz j z8 e=>z8▸bt.mpr ⟨z,(d z).mp (by refine az e ?_;rfl),by refine az e ?_;rfl⟩
theorem Gm{zs:af aM}(nd:zs.Nodup)(τ:Tb):(canon zs τ).Nodup:=i8 (λa _ b _ e=>by
 injection e with e
 injection e with e _
 exact str_inj e) nd
theorem zw{τ:Tb}(h:iI τ):(cO τ).Nodup:=i8 (λa _ b _ e=>by
 injection e with e
 injection e with e1 e2
 injection e2 with e2 _
 exact Prod.ext e1 e2) (pW h.once)
theorem Gn(z y:aM)(i j:ag):V.fV (.tup [.str z,.int i]) (.tup [.str y,.int j])=aj:=by
 show(if V.beq _ _ then V.jf [_] [_] else V.fV _ _)=aj;split
 ·exact lh id [i] [j]
 ·rfl
theorem Gp{zs:af aM}{τ:Tb}(h:iI τ)(d:∀z,(bI (.str z) τ).isSome=aj↔z∈zs)(nd:zs.Nodup)(so:kD (zs.map V.str)):pV τ=.tup (canon zs τ):=by
 refine bf V.tup (ij ((cz _).trans (rK (zw h) (Gm nd τ) λv=>(rW h d).symm)) ?_ ?_)
 ·refine fi _ (λa ha b hb=>lC (qK h ha) λz j z9 _=>?_) (zw h);subst z9;exact lC (qK h hb) λy i NQ _=>NQ▸Gn z y j i
 ·unfold canon kD;have so:Df _ (zs.map V.str):=so;rw[KL] at so⊢;refine so.imp λ{a b} zC=>(?_:(if V.beq (V.str a) (.str b) then _ else V.lt (V.str a) (.str b))=aj);rewrite[aG];exact zC;intro e;replace zC:=(V.eq_of_beq _ _ e)▸zC;rewrite[V.lt_irrefl] at zC;exact ff zC
noncomputable def Qb(it:af V):Prop:=∀u∈it,∃(z:aM)(j:ag),u=.tup [.str z,.int j]
structure Kr(v:V):Prop where
 ex:∃(cs:af ag)(it:af V),v=.tup [.tup (nats cs),.tup it]/\Qb it
theorem Gq{it:af V}(h:Qb it)(k:ag):V.ej (k+1) it=aj:=by
 induction it with
 |nil=>rfl
 |cons v it ih=>refine sE (h v (.head _)) λz j Wl=>?_;subst Wl;refine(ih λu hu=>h u (.tail _ hu)).trans ?_;induction k<;>rfl
theorem IB:∀{a b:af V},Qb a->Qb b->V.jf a b=aj
 |[],b,_,_=>by induction b<;>rfl
 |_::_,[],_,_=>ac
 |u::a,v::b,ha,hb=>by
  show(if V.beq u v then V.jf a b else V.fV u v)=aj
  split
  ·exact IB (λw hw=>ha w (.tail _ hw)) λw hw=>hb w (.tail _ hw)
  ·refine sE (ha u (.head _)) λz j Wm=>?_
   subst Wm
   exact sE (hb v (.head _)) λy i Y2=>Y2▸Gn z y j i
theorem Kr.pure{v:V}(h:Kr v):v.pure=aj:=by refine lC h.ex λcs it Y3 ok=>?_;subst Y3;refine((az (i9 λ_ _=>ac)<|az (Gq ok 5) ?_):(V.ej 6 (nats cs)&&(V.ej 6 it&&aj))=aj);rfl
theorem Kr.cmp{v u:V}(h:Kr v)(k:Kr u):V.fV v u=aj:=by
 refine lC h.ex λcs it Wn ok=>?_;subst Wn;refine lC k.ex λZ7 Vb z16 OO=>?_;subst z16;refine(?_:(if V.beq (V.tup (nats cs)) (V.tup (nats Z7)) then(if V.beq (V.tup it) (V.tup Vb) then aj else V.fV (V.tup it) (V.tup Vb)) else V.fV (V.tup (nats cs)) (V.tup (nats Z7)))=aj);split
 ·split
  ·rfl
  ·exact IB ok OO
 ·exact lh id cs Z7
theorem Kr.full{v:V}(h:Kr v):v.full=aj:=by refine lC h.ex λcs it z17 ok=>?_;subst z17;rfl
theorem A5{vs:af V}(h:∀v∈vs,Kr v)(nd:vs.Nodup)(hl:vs.length<64):cZ vs=aj:=
 oF (λv hv=>(h v hv).pure) hl (λa ha b hb=>(h a ha).cmp (h b hb)) nd λv hv=>(h v hv).full
theorem ID{a b:af V}(c:∀u∈a,∀v∈a,V.fV u v=aj)(na:a.Nodup)(nb:b.Nodup)(m:∀v,v∈a↔v∈b):dh a=dh b:=by have p:=rK na nb m;refine ij ((cz a).trans (p.trans (cz b).symm)) (fi a c na) (fi b (λu hu v hv=>c u (p.mem_iff.mpr hu) v (p.mem_iff.mpr hv)) nb)
section
variable{nd:V->af V}{es:Tb}{C:af ag}
theorem UL{P:ag->Prop}(sh:gy nd P):∀(ps:af Tm)(rows:af Row),(∀ρ∈rows,iI ρ.2)->∀ρ∈iS nd C rows ps,iI ρ.2:=by
 intro l0;induction l0 with
 |nil=>exactλ_ h ρ LX=>h ρ LX
 |cons p ps ih=>
  exactλrows h ρ LX=>ih (r0 nd C rows p) (λd0 h1=>by
  refine bH (dg.mp h1) λsA h0 h1=>?_;rcases dg.mp h1 with⟨c,hc,h1⟩;refine bH (bt.mp h1) λτ rT z18=>?_;exact z18▸(DN sh p sA.2 c (h sA h0) τ rT).1) ρ LX
noncomputable abbrev rows0(nd:V->af V)(C:af ag)(ps:af Tm):af V:=(iS nd C [([],[])] ps).map DS
noncomputable def mK(es:Tb)(ps:af Tm)(zs:af aM)(τ:Tb):af V:=if has (.int (-1)) (ps.map (dk τ es)) then[] else[.tup [.tup (ps.map (dk τ es)),.tup (canon zs τ)]]
noncomputable def qL(es:Tb)(ps:af Tm)(zs:af aM)(ts:af Tb):af V:=ts.flatMap (mK es ps zs)
theorem D5(M:Mt nd es C){σ:Tb}(tb:UI C σ):∀(p:Tm),(∀z∈p.vars,(bI (.str z) σ).isSome=aj)->dk σ es p=.int (-1)\/∃c∈C,dk σ es p=.int (c:ag):=λp cv=>by
 have look:∀k,(bI k es).getD (.int (-1))=.int (-1)\/∃c∈C,(bI k es).getD (.int (-1))=.int (c:ag):=λk=>by
  cases e:bI k es with
  |none=>exact .inl ac
  |some v=>exact VC (M.es e) λ_ _ c _ _ z19 hc=>z19▸.inr ⟨c,hc,ac⟩
 induction p with
 |leaf z=>
  unfold dk;split
  ·rename_i hz;refine eh (kJ.mp (cv z (by unfold Tm.vars;refine az (aF hz) ?_;exact .head _))) λv hv=>?_;refine kS (tb _ _ hv) λ_ c _ z20 hc=>?_;subst z20;exact .inr ⟨c,hc,by refine az hv ?_;rfl⟩
  ·exact look _
 |f p=>exact look _
 |g p q=>exact look _
structure Nm(ps:af Tm)(zs:af aM):Prop where
 once:zs.Nodup
 so:kD (zs.map V.str)
 mem:∀z,z∈zs↔z∈ps.flatMap Tm.vars
 DL:zs.length<=2
theorem MG(M:Mt nd es C){σ:Tb}(tb:UI C σ):∀(ps:af Tm),(∀p∈ps,∀z∈p.vars,(bI (.str z) σ).isSome=aj)->¬has (.int (-1)) (ps.map (dk σ es))=aj->∃cs:af ag,(∀c∈cs,c∈C)/\ps.map (dk σ es)=nats cs:=by
 intro l0;induction l0 with
 |nil=>exactλ_ _=>⟨[],(λ_ h=>by cases h),ac⟩
 |cons p ps ih=>
  intro cv h;rewrite[uY] at h;replace h:=eL▸h;rewrite[ci] at h;refine bH (ih (λp hp=>cv p (.tail _ hp)) λq=>h (.inr (uY.mp q))) λcs h1 h2=>?_;rcases D5 M tb p (cv p (.head _)) with q|⟨c,hc,q⟩
  ·exact aV (.inl q.symm) h
  ·refine⟨c::cs,λd hd=>?_,by(refine az eL ?_;refine az h2 ?_;refine az q ?_);rfl⟩;rcases ci.mp hd with rfl|hd
   ·exact hc
   ·exact h1 d hd
theorem canon_sub{zs:af aM}{τ σ:Tb}(s:Sub τ σ)(d:∀z∈zs,(bI (.str z) τ).isSome=aj):canon zs τ=canon zs σ:=wH λz hz=>by exact eh (kJ.mp (d z hz)) λv hv=>az hv<|az (s _ _ hv) ac
theorem XY(cs:af ag):¬has (.int (-1)) (nats cs)=aj:=λe=>by rcases eO (uY.mp e) with⟨j,_,e⟩;injection e with e;trivial
theorem xT{P:ag->Prop}(sh:gy nd P)(M:Mt nd es C){ps:af Tm}{zs:af aM}(N:Nm ps zs){ρ:Row}(h:ρ∈iS nd C [([],[])] ps):∃cs,ρ.1=nats cs/\iI ρ.2/\UI C ρ.2/\(∀z,(bI (.str z) ρ.2).isSome=aj↔z∈zs)/\DS ρ=.tup [.tup (nats cs),.tup (canon zs ρ.2)]/\∀σ,Sub ρ.2 σ->ps.map (dk σ es)=nats cs:=by
 obtain⟨sA,h0,cs,w⟩:=Iy M ps [([],[])] (λρ h=>by refine az (bX.mp h) ?_;intro k v e;cases e) ρ h;replace w:=(bX.mp h0)▸w;have ok:=UL sh ps _ (λρ h=>by refine az (bX.mp h) ?_;exact⟨λ_ h=>(by cases h),fh⟩) ρ h;have d:∀z,(bI (.str z) ρ.2).isSome=aj↔z∈zs:=λz=>by rw[w.UJ z,N.mem];exact⟨λq=>q.elim (λq=>by cases q) id,.inr⟩
 refine⟨cs,w.vA,ok,w.tb,d,?_,w.st⟩;show V.tup [.tup ρ.1,pV ρ.2]=_;exact az (Gp ok d N.once N.so)<|az w.vA ac
theorem D6{P:ag->Prop}(sh:gy nd P)(M:Mt nd es C){ps:af Tm}{zs:af aM}(N:Nm ps zs)(v:V):v∈qL es ps zs (asg C zs)↔v∈rows0 nd C ps:=by
 constructor
 ·intro h;refine bH (dg.mp h) λσ hσ h=>qg (vF N.once hσ) λok tb d=>?_;unfold mK at h;split at h
  ·exact nomatch h
  ·rename_i hn;refine az (bX.mp h) ?_;have cv:∀p∈ps,∀z∈p.vars,(bI (.str z) σ).isSome=aj:=λp hp z hz=>(d z).mpr ((N.mem z).mpr (dg.mpr ⟨p,hp,hz⟩));refine bH (MG M tb ps cv hn) λcs h1 h2=>?_;obtain⟨ρ,h3,h4,h5⟩:=Ac M ps [([],[])] ([],[]) σ cs (.head _) (λk v e=>by cases e) (λp hp z hz=>by
    refine eh (kJ.mp (cv p hp z hz)) λv hv=>kS (tb _ _ hv) λ_ c _ z21 _=>?_;subst z21;exact⟨c,hv⟩) h1 h2
   refine an (xT sh M N h3) λZ7 e1 _ _ d' e2 _=>bt.mpr ⟨ρ,h3,?_⟩;have j1:nats Z7=nats cs:=e1.symm.trans h4;exact e2.trans<|az h2<|az j1<|az (canon_sub h5 λz hz=>(d' z).mpr hz) ac
 ·intro h;refine bH (bt.mp h) λρ hr z22=>?_;subst z22;refine an (xT sh M N hr) λcs e1 ok tb d e2 st=>?_;have aaJ:∀z,∃c:ag,z∈zs->c∈C/\bI (.str z) ρ.2=ae (.int c):=λz=>by
   by_cases hz:z∈zs
   ·refine eh (kJ.mp ((d z).mpr hz)) λv hv=>kS (tb _ _ hv) λ_ c _ z23 hc=>?_;subst z23;exact⟨c,λ_=>⟨hc,hv⟩⟩
   ·exact⟨0,λq=>aV q hz⟩
  refine eh (Classical.axiomOfChoice aaJ) λφ hφ=>?_;have ha:=XX (C:=C) (φ:=φ) (zs:=zs) λz hz=>(hφ z hz).1;refine qg (vF N.once ha) λOO tb' d'=>?_;have s:Sub ρ.2 (zs.map λz=>(V.str z,V.int (φ z))):=λk v e=>by refine kS (tb _ _ e) λz c z24 z25 hc=>?_;subst z24;subst z25;have hz:=(d z).mp (by refine az e ?_;rfl);have j2:=(hφ z hz).2;rw[e] at j2;exact az j2 (OO.nH.mpr (bt.mpr ⟨z,hz,ac⟩))
  refine dg.mpr ⟨_,ha,?_⟩;unfold mK;exact az (st _ s)<|az (aG (XY cs))<|az e2<|az (canon_sub s λz hz=>(d z).mpr hz) (.head _)
theorem MH{ps:af Tm}{zs:af aM}(nz:zs.Nodup)(nC:C.Nodup):(qL es ps zs (asg C zs)).Nodup:=by
 have e:∀{l:af V}{y:Tb},y∈asg C zs->(∀v,v∈canon zs y↔v∈cO y):=λhy v=>qg (vF nz hy) λok _ d=>rW ok d;have inj:∀a∈asg C zs,∀b∈asg C zs,canon zs a=canon zs b->a=b:=λa ha b hb e=>by
  refine qg (vF nz ha) λok tb d=>qg (vF nz hb) λOO tb' d'=>?_;have ka:=(qJ ha).1;have kb:=(qJ hb).1;refine List.ext_getElem? λi=>?_;have hl:a.length=b.length:=by have j1:=bf t4 (ka.trans kb.symm);simpa using j1
  rcases gZ i a.length with hi|hi
  ·have ea:a[i]?=ae a[i]:=dq hi;have eb:b[i]?=ae b[i]:=dq (hl▸hi);refine az ea<|az eb ?_;have k:a[i].1=b[i].1:=by have j2:=bf (λl=>l[i]?) (ka.trans kb.symm);simp -iota only[gw,ea,eb,wK] at j2;injection j2
   have ma:a[i]∈a:=dR _;have mb:b[i]∈b:=dR _;refine lC ((qJ ha).2 _ ma) λz c hz _=>lC ((qJ hb).2 _ mb) λy c' hy _=>?_;replace k:=hz▸k;replace k:=hy▸k;induction(str_inj k);rw[hz] at ma;replace mb:=hy▸mb;have ga:=ok.nH.mpr ma;have gb:=OO.nH.mpr mb;have j3:=List.map_inj_left.mp e z ((d z).mp (by rw[ga];rfl));rw[ga,gb] at j3;injection j3 with j3;injection j3 with _ j3;injection j3 with j3 _;have j3:V.int c=V.int c':=j3;exact az hz<|az hy<|az j3 ac
  ·refine(Ce hi).trans ?_;refine az (Ce (hl▸hi)) ?_;rfl
 refine KJ.mpr ⟨λτ _=>?_,?_⟩
 ·unfold mK;split
  ·exact .nil
  ·exact jQ _ _
 ·refine List.Pairwise.imp_of_mem (λ{a b} ha hb n x hx y hy e=>?_) (MF nC zs);unfold mK at hx hy;split at hx
  ·exact nomatch hx
  ·split at hy
   ·exact nomatch hy
   ·rw[bX.mp hx,bX.mp hy] at e;injection e with e;injection e with _ e;injection e with e _;injection e with e;exact n (inj a ha b hb e)
end
section
variable{nd:V->af V}{es:Tb}{C:af ag}{P:ag->Prop}
theorem D7(sh:gy nd P)(M:Mt nd es C){ps:af Tm}{zs:af aM}(N:Nm ps zs):∀v∈rows0 nd C ps,Kr v:=λv hv=>by refine bH (bt.mp hv) λρ hr z1=>?_;subst z1;exact an (xT sh M N hr) λcs _ ok _ d e _=>⟨cs,canon zs ρ.2,e,λu hu=>lC (qK ok ((rW ok d).mp hu)) λz j e _=>⟨z,j,e⟩⟩
theorem KN{ps:af Tm}{zs:af aM}(N:Nm ps zs)(hC:C.length<=5):(qL es ps zs (asg C zs)).length<=25:=by
 have a:(qL es ps zs (asg C zs)).length<=(asg C zs).length*1:=fF λτ _=>by unfold mK;split<;>simp
 have b:=KI (C:=C) zs;have c:C.length^zs.length<=5^2:=lT (UM hC _) (jy (by decide) N.DL);lia
theorem zx(sh:gy nd P)(M:Mt nd es C){ps:af Tm}{zs:af aM}(N:Nm ps zs)(nC:C.Nodup)(hC:C.length<=5):(cF (rows0 nd C ps)).length<=25:=
 lT (gi cq λv hv=>(D6 sh M N v).mpr (bU.mp hv)) (KN (es:=es) N hC)
theorem Gs(sh:gy nd P)(M:Mt nd es C){ps:af Tm}{zs:af aM}(N:Nm ps zs)(nC:C.Nodup)(hC:C.length<=5):cZ (qL es ps zs (asg C zs))=aj/\cZ (cF (rows0 nd C ps))=aj/\dh (cF (rows0 nd C ps))=dh (qL es ps zs (asg C zs)):=by have kr:=D7 sh M N;have kr':∀v∈cF (rows0 nd C ps),Kr v:=λv hv=>kr v (bU.mp hv);have n1:=MH (es:=es) (ps:=ps) N.once nC;have l1:=KN (es:=es) N hC;have l2:=zx sh M N nC hC;exact⟨A5 (λv hv=>kr v ((D6 sh M N v).mp hv)) n1 (tL l1 ac),A5 kr' cq (tL l2 ac),ID (λu hu v hv=>(kr' u hu).cmp (kr' v hv)) cq n1 λv=>bU.trans (D6 sh M N v).symm⟩
theorem Nm.one{ps:af Tm}{zs:af aM}(N:Nm ps zs){p:Tm}(hp:p∈ps):∃ys,Nm [p] ys:=by
 refine⟨zs.filter λz=>has (.str z) (p.vars.map V.str),N.once.filter _,?_,λz=>?_,lT (DJ _ _) N.DL⟩
 ·have so:Df _ (zs.map V.str):=N.so;unfold kD;rw[KL] at so⊢;exact so.filter _
 ·rw[BN,uY,uZ,N.mem];simp only[eZ,UN,lr];exact⟨λh=>h.2,λh=>⟨dg.mpr ⟨p,hp,h⟩,h⟩⟩
theorem D8{p:Tm}{ρ:Row}:ρ∈iS nd C [([],[])] [p]↔∃c∈C,∃τ∈ext nd p [] (.int (c:ag)),ρ=([.int c],τ):=by
 show ρ∈r0 nd C [([],[])] p↔_;unfold r0;refine az eZ<|az UN ?_;rewrite[lr,dg];constructor
 ·rintro⟨c,hc,h⟩;exact bH (bt.mp h) λτ rT e=>⟨c,hc,τ,rT,e.symm⟩
 ·rintro⟨c,hc,τ,rT,rfl⟩;exact⟨c,hc,bt.mpr ⟨τ,rT,ac⟩⟩
noncomputable abbrev IE(c:ag)(u:V):V:=.tup [.tup [.int c],u]
theorem A6{p:Tm}{v:V}:v∈rows0 nd C [p]↔∃c∈C,∃u∈fX nd p c,v=IE c u:=by
 constructor
 ·intro h;refine bH (bt.mp h) λρ hr z2=>?_;subst z2;obtain⟨c,hc,τ,rT,rfl⟩:=D8.mp hr;exact⟨c,hc,pV τ,bt.mpr ⟨τ,rT,ac⟩,ac⟩
 ·rintro⟨c,hc,u,hu,rfl⟩;exact bH (bt.mp hu) λτ rT z3=>z3▸bt.mpr ⟨_,D8.mpr ⟨c,hc,τ,rT,ac⟩,ac⟩
theorem oL(sh:gy nd P)(M:Mt nd es C){p:Tm}{zs:af aM}(N:Nm [p] zs){c:ag}(hc:c∈C){u:V}(hu:u∈fX nd p c):∃it,u=.tup it/\Qb it/\it.length=zs.length:=by refine bH (bt.mp hu) λτ rT z4=>?_;subst z4;refine an (xT sh M N (D8.mpr ⟨c,hc,τ,rT,ac⟩)) λcs _ ok _ d e _=>?_;injection e with e;injection e with _ e;injection e with e _;exact⟨canon zs τ,e,λu hu=>lC (qK ok ((rW ok d).mp hu)) λz j e _=>⟨z,j,e⟩,by unfold canon;rw[be]⟩
theorem zy(sh:gy nd P)(M:Mt nd es C){p:Tm}{zs:af aM}(N:Nm [p] zs){c:ag}(hc:c∈C):∀u∈cF (fX nd p c),∀v∈cF (fX nd p c),V.fV u v=aj:=λu hu v hv=>by refine jj (oL sh M N hc (bU.mp hu)) λa z5 ha _=>?_;subst z5;exact jj (oL sh M N hc (bU.mp hv)) λb z6 hb _=>z6▸IB ha hb
theorem MJ(sh:gy nd P)(M:Mt nd es C){p:Tm}{zs:af aM}(N:Nm [p] zs)(nC:C.Nodup)(hC:C.length<=5){c:ag}(hc:c∈C):cZ (cF (fX nd p c))=aj:=by
 have hl:(cF (fX nd p c)).length<=25:=by
  have j1:((cF (fX nd p c)).map (IE c)).length<=(cF (rows0 nd C [p])).length:=gi (i8 (λa _ b _ e=>by
   injection e with e;injection e with _ e;injection e) cq) λv hv=>by
    exact bH (bt.mp hv) λu hu z7=>z7▸bU.mpr (A6.mpr ⟨c,hc,u,bU.mp hu,ac⟩)
  rw[be] at j1;exact lT j1 (zx sh M N nC hC)
 unfold cZ;simp only[cY,qC,di,eH];refine⟨⟨⟨⟨kE.mpr λv hv=>?_,tL hl ac⟩,zy sh M N hc⟩,.inl (DA cq)⟩,?_⟩
 ·exact jj (oL sh M N hc (bU.mp hv)) λa z8 ha _=>z8▸Gq ha 6
 ·rcases S7 zs.length with z|z
  ·refine .inl (rL (gi (l:=[V.tup []]) cq λv hv=>jj (oL sh M N hc (bU.mp hv)) λa z9 _ l=>?_) (by decide));subst z9;exact az (dM.mp (l.trans z)) (.head _)
  ·refine .inr λv hv=>jj (oL sh M N hc (bU.mp hv)) λa NQ _ l=>?_;subst NQ;induction a with
   |nil=>simp at l;exact aV z (cU (bJ l.symm))
   |cons _ _=>rfl
theorem KO{c c':ag}{u v:V}(h:c<c'\/(c=c'/\V.lt u v=aj)):V.lt (IE c u) (IE c' v)=aj:=by
 show(if V.beq (V.tup [.int c]) (.tup [.int c']) then(if V.beq u v then V.Ql [] [] else V.lt u v) else(if V.beq (V.int c) (.int c') then V.Ql [] [] else V.lt (V.int c) (.int c')))=aj;rcases h with h|⟨rfl,h⟩
 ·rw[aG,aG]
  ·show bh ((c:aJ)<c')=aj;exact dI h
  ·intro e;have j1:=iQ (V.eq_of_beq _ _ e);exact cU (bJ j1.symm) h
  ·intro e;have e:=V.eq_of_beq _ _ e;injection e with e;injection e with e _;exact cU (bJ (iQ e).symm) h
 ·refine az (aF (V.beq_refl _)) ?_;rewrite[aG]
  ·exact h
  ·intro e;replace h:=(V.eq_of_beq _ _ e)▸h;rewrite[V.lt_irrefl] at h;exact ff h
theorem MK(sh:gy nd P)(M:Mt nd es C){p:Tm}{zs:af aM}(N:Nm [p] zs)(sC:C.Pairwise (·<·))(hC:C.length<=5):(C.flatMap λc=>(dh (cF (fX nd p c))).map (IE c))=dh (cF (rows0 nd C [p])):=by
 have so:kD (C.flatMap λc=>(dh (cF (fX nd p c))).map (IE c)):=by
  refine KJ.mpr ⟨λc hc=>KL.mpr ?_,sC.imp λ{c c'} h x hx y hy=>?_⟩
  ·exact(fi _ (zy sh M N hc) cq).imp λh=>KO (.inr ⟨ac,h⟩)
  ·refine bH (bt.mp hx) λu _ Wl=>?_;subst Wl;exact bH (bt.mp hy) λv _ Wm=>Wm▸KO (.inl h)
 have kr:∀v∈cF (rows0 nd C [p]),Kr v:=λv hv=>D7 sh M N v (bU.mp hv);refine ij ((rK (so.imp λ{a b} h e=>?_) cq λv=>?_).trans (cz _).symm) so (fi _ (λu hu v hv=>(kr u hu).cmp (kr v hv)) cq)
 ·replace h:=e▸h;rewrite[V.lt_irrefl] at h;exact ff h
 ·rw[bU,A6];constructor
  ·intro h;exact bH (dg.mp h) λc hc h=>bH (bt.mp h) λu hu Y2=>Y2▸⟨c,hc,u,bU.mp ((cz _).subset hu),ac⟩
  ·rintro⟨c,hc,u,hu,rfl⟩;exact dg.mpr ⟨c,hc,bt.mpr ⟨u,(cz _).symm.subset (bU.mpr hu),ac⟩⟩
end
theorem ML{v u:V}:∀(ps d:af (V×V)),bI v (ps.foldl (λd p=>du p.1 p.2 d) d)=ae u->(v,u)∈ps\/bI v d=ae u:=by
 intro l0;induction l0 with
 |nil=>exactλd h=>.inr h
 |cons p ps ih=>
  intro d h;rcases ih _ h with h|h
  ·exact .inl (.tail _ h)
  ·rw[il] at h;split at h
   ·rename_i e;replace h:=aU h;subst h;exact dm (V.eq_of_beq _ _ e) (.inl (.head _))
   ·exact .inr h
theorem D9{v u:V}:∀(ps d:af (V×V)),(∀p∈ps,p.1=v->p.2=u)->(bI v d=ae u\/∃p∈ps,p.1=v)->bI v (ps.foldl (λd p=>du p.1 p.2 d) d)=ae u:=by
 intro l0;induction l0 with
 |nil=>exactλd _ h=>h.elim id λh₀=>bH h₀ λ_ h _=>(gu h).elim
 |cons p ps ih=>
  intro d hp h;refine ih _ (λp' h'=>hp p' (.tail _ h')) ?_;rw[il];by_cases e:V.beq p.1 v=aj
  ·exact az (aF e)<|az (hp p (.head _) (V.eq_of_beq _ _ e)) (.inl ac)
  ·refine az (aG e) ?_;rcases h with h|⟨p',h',e'⟩
   ·exact .inl h
   ·rcases ci.mp h' with rfl|h'
    ·exact aV (by refine az e' ?_;exact V.beq_refl _) e
    ·exact .inr ⟨p',h',e'⟩
noncomputable def Qv(g:Gr)(r:ag->ag):af (V×V):=(c5 g.T.length).map λk=>(pS g r k,.int (r k))
section
variable{g:Gr}{r:ag->ag}{td:af (ag×ag)}
theorem KP(ok:g.Ok)(le:∀i,r i<=i)(ji:∀i,r (r i)=r i)(G:gR g td r):Mt (fI g r) (dictOf (Qv g r)) (cC g r):=by
 have inL:∀{v u},bI v (dictOf (Qv g r))=ae u->∃i t l,g.T[i]?=ae t/\g.ks[i]?=ae l/\v=cL r t l/\u=.int (r i)/\i<g.T.length:=λ{v u} h=>by
  rcases ML _ _ h with h|h
  ·refine bH (bt.mp h) λi hi e=>?_;have hi:=jO.mp hi;refine Ed (ok.key (r:=r) hi) λt l a b _ c=>?_;injection e with e1 e2;exact⟨i,t,l,a,b,by(refine dm e1 ?_;exact c),e2.symm,hi⟩
  ·exact eP h
 have root:∀{i},i<g.T.length->r i∈cC g r:=λ{i} h=>me.mpr ⟨rL (le i) h,ji i⟩;refine⟨λc hc v=>?_,λ{v u} h=>?_⟩
 ·refine fB (me.mp hc) λhcN hcr=>?_;constructor
  ·intro h;refine Yu (y9 ok h) λi t l a b _ e Y3=>?_;subst Y3;have hi:=(bq.mp a).1;have key:pS g r i=cL r t l:=by unfold pS;(refine az a ?_;refine az b ?_;rfl)
   refine D9 _ _ (λp hp Yq=>bH (bt.mp hp) λj hj Wn=>?_) (.inr ⟨_,bt.mpr ⟨i,jO.mpr hi,ac⟩,key⟩);subst Wn;refine Ed (ok.key (r:=r) (jO.mp hj)) λu l' a' b' _ c'=>?_;rw[c'] at Yq;refine fB (vD (l':=l.map r) (Yq.trans (by unfold cL nats;simp[tj]:cL r t l=.tup (.str t.op::nats (l.map r))))) λe1 e2=>?_;have j1:=G.2 j i ⟨u,t,l',l,a',a,b',b,e1,e2⟩;exact az j1<|az e<|az hcr ac
  ·intro h;refine Yu (inL h) λi t l a b z16 e hi=>?_;subst z16;have e:=iQ e;refine(cz _).symm.subset (bU.mpr (bt.mpr ⟨i,ke.mpr ⟨hi,by simp[<-e,hcr]⟩,?_⟩));unfold pS;(refine az a ?_;refine az b ?_;rfl)
 ·refine Yu (inL h) λi t l a b z17 z18 hi=>?_;subst z17;subst z18;exact⟨t.op,l.map r,r i,by unfold cL nats;simp[tj],λj hj=>bH (bt.mp hj) λk hk z19=>z19▸root (ok.lt a b hk),ac,root hi⟩
theorem UO(ok:g.Ok)(le:∀i,r i<=i)(ji:∀i,r (r i)=r i)(G:gR g td r):uU (dictOf (Qv g r)):=λk v h=>VC ((KP ok le ji G).es h) λ_ _ c _ _ e _=>⟨c,e⟩
end
section
variable{g:Gr}{x:St}{s:af O}{r:ag->ag}{n:ag}{m:Env}{Q:V->af O->Prop}
theorem UP{ha:ag}(ok:g.Ok)(le:∀i,r i<=i)(ji:∀i,r (r i)=r i)(tw:s[ha]?=ae (.list (je g.T.length r)))(mh:m "home"=ae (.ref ha))(q:Q (.ref s.length) (s++[.list (nats (cC g r))])):Wp ((run prog (n+2)).ev (.bi "sortedSet" (.var "home")) m) Q s:=by
 have hs:=ok.small;have e:je g.T.length r=nats ((c5 g.T.length).map r):=by unfold nats;refine az iz ?_;rfl
 replace tw:=e▸tw;refine qg (Gi ((c5 g.T.length).map r) (by simp;lia)) λZ3 Z4 _=>fm (aN mh (lY tw Z3 Z4<|eh (zm (vs:=cF (nats ((c5 g.T.length).map r))) λv hv=>bH (eO (bU.mp hv)) λj _ e=>⟨j,e⟩) λds hd=>?_));rw[hd,y8 (N:=g.T.length) (p:=λa=>r a==a) (tv (hd▸cq)) λi=>?_]
 ·exact q
 ·have j1:i∈ds↔V.int i∈nats ds:=⟨λh=>bt.mpr ⟨i,h,ac⟩,λh=>by
   refine bH (eO h) λk hk e=>az (iQ e) ?_;exact hk⟩
  rewrite[j1];refine dm hd ?_;rewrite[bU];constructor
  ·intro h;refine bH (eO h) λj hj e=>bH (bt.mp hj) λk hk e'=>?_;have:=jO.mp hk;have:=le k;refine⟨by lia,az (iQ e)<|dm e' ?_⟩;rewrite[ji];exact aF ac
  ·rintro⟨h1,h2⟩;exact bt.mpr ⟨i,bt.mpr ⟨i,jO.mpr h1,by simpa using h2⟩,ac⟩
theorem Ea:∀τ:Tb,pairsOf (cO τ)=ae τ:=by
 intro l0;induction l0 with
 |nil=>exact ac
 |cons oo τ ih=>obtain⟨a,b⟩:=oo;show(pairsOf (cO τ)).map ((a,b)::·)=_;rw[ih];rfl
theorem Qc{a:ag}{τ:Tb}(h:s[a]?=ae (.list (cO τ)))(pk:∀p∈τ,p.1.pure=aj)(hz:τ.length<1000)(q:Q (.ref s.length) (s++[.dict (dictOf τ)])):Wp (iV "dict" (.ref a)) Q s:=
 FO h (Ea τ) (cb.mpr ⟨eH.mpr pk,eu hz⟩) q
noncomputable abbrev XZ:PS->PE
 |.assign _ e=>e
 |.ret e=>e
 |.expr e=>e
 |.iff e _ _=>e
 |_=>.none
noncomputable abbrev X0(k:ag):PE:=XZ (vO.body.getD k .fail)
theorem UQ{ta ha:ag}(ok:g.Ok)(dp:g.zZ)(ne:s≠[])(oN:s[ta]?=ae (.list (g.T.map Tm.enc)))(tw:s[ha]?=ae (.list (je g.T.length r)))(m1:m "terms"=ae (.ref ta))(m2:m "home"=ae (.ref ha))(hn:40<=n)(q:∀s' a,bM s s'->s.length<=a->s'[a]?=ae (.dict (dictOf (Qv g r)))->Q (.ref a) s'):Wp ((run prog n).ev (X0 8) m) Q s:=by
 refine qc hn ?_;have hs:=ok.small;have sp:((g.T.map Tm.enc).zipIdx.map λp=>V.tup [.int p.2,p.1]).flatMap (λv=>match v with|.tup [.int k,_]=>[V.tup [pS g r k.toNat,.int (r k.toNat)]]|_=>[])=cO (Qv g r):=by
  have j1:∀(us:af V)(k:ag),((us.zipIdx k).map λp=>V.tup [.int p.2,p.1]).flatMap (λv=>match v with|.tup [.int k,_]=>[V.tup [pS g r k.toNat,.int (r k.toNat)]]|_=>[])=(xp k us.length).map λk=>V.tup [pS g r k,.int (r k)]:=by
   intro us;induction us with
   |nil=>intro k;rfl
   |cons u us ih=>intro k;refine az JK<|az eL<|az eZ ?_;rewrite[ih];exact az iD<|az xq<|az eL ac
  rewrite[j1,be];refine dm SD ?_;unfold cO Qv;exact az iz ac
 have ln:(Qv g r).length=g.T.length:=by simp[Qv]
 refine fm (fW Dv Dv.rM (Pp (aN m1 ⟨ta,_,ac,oN,oN,ne,λv=>match v with|.tup [.int k,_]=>[V.tup [pS g r k.toNat,.int (r k.toNat)]]|_=>[],?_,?_,?_⟩)))
 ·show(((g.T.map Tm.enc).zipIdx.map _).flatMap _).length<=_;refine az sp ?_;unfold cO;rewrite[be];refine az ln ?_;exact tB hs ac
 ·intro v hv s2 e2 pR;refine bH (bt.mp hv) λz1 hp z2=>?_;obtain⟨u,k⟩:=z1;subst z2;have hk:=UB hp;simp at hk;refine fB hk λh1 h2=>?_;have ne2:s2≠[]:=λq=>by replace pR:=q▸pR;simp at pR
  have ht:g.T[k]?=ae g.T[k]:=dq h1;generalize g.T[k]=t at ht h2;refine eh (ok.Px ht) λl hl=>?_;have ek:pS g r k=cL r t l:=by unfold pS;(refine az ht ?_;refine az hl ?_;rfl)
  have lk:=ok.lk ht hl;subst h2;refine((az ek ?_):FL Dv _ _ [V.tup [pS g r k,.int (r k)]] s2);have mt:∀{m':Env}{s3:af O}{n:ag}{K:V->af O->Prop},m' "t"=ae t.enc->K (.tup (.str t.op::t.kids.map Tm.enc)) s3->Wp ((run prog (n+1)).ev (.var "t") m') K s3:=λh kk=>aN (h.trans (bf ae (kg t))) kk;have kk:=hU t;refine dj (λq=>ne (dM.mp q)) ac (dD ⟨bM.refl _,eN (aH (gh (eN (aH (ef (mt ac (cS (iE (i:=0) ac (by simp;lia) (aT ?_)))))))))⟩);have n1:((m.drop (".0"::dA [.mk ["k","t"] (.nW (.var "terms")) []])).bind ["k","t"] [.int k,t.enc]) "terms"=ae (.ref ta):=m1;exact fm (pY (n:=35) ok dp ne2 ht hl (e2 _ _ oN) (e2 _ _ tw) n1 m2 (λkk=>mt ac kk) (lB ac) λs3 a3 e3 l3 h3=>kF h3 (by rw[be];exact tB lk ac) (rO (by simp;lia) (aH<|ef (aN m2 (aN ac (fA (e3 _ _ (e2 _ _ tw)) (zh r h1) (by simp;lia) (aT ⟨e3,_,ac,λ_ _=>ac⟩)))))))
 ·intro s' rs e' zD al;have j2:=al.eq.trans sp;subst j2;refine Qc zD (λp hp=>bH (bt.mp hp) λk hk z3=>?_) (ln▸tL hs ac) (q _ _ (e'.trans (bM.push s' _)) e'.len (bF s' _));subst z3;exact Ed (ok.key (r:=r) (jO.mp hk)) λt l _ _ _ e=>az e (md r t l)
theorem dW{a d:ag}{c y:aA}{es:af (aA×V)}{v:V}{K:cH->af O->Prop}(h1:s[a]?=ae (.inst c d))(h2:s[d]?=ae (.ns es))(h0:d≠0)(hz:es.length<100)(q:K () (s.set d (.ns (u6 y v es)))):Wp (setAttr (.ref a) y v) K s:=by exact AL (f:=λd es=>if es.length<100 then store d (.ns (u6 y v es)) else fail) h1 h2<|az (aF hz) (jZ (bq.mp h2).1 h0 q)
theorem sD{y:aA}(ne:s≠[])(m1:m y=ae (.ref 5))(hn:10<=n)(q:∀s' (wv wd:ag),bM s s'->s'[wv]?=ae (.inst "Walker" wd)->s'[wd]?=ae (.ns [("heap",.ref 5)])->s.length<=wd->Q (.ref wv) s'):Wp ((run prog n).ev (.new "Walker" [.var y]) m) Q s:=by
 refine qc hn ?_;have pos:s.length≠0:=λq=>ne (dM.mp q);have a1:(s++[O.ns []]++[O.inst "Walker" s.length])[s.length+1]?=ae (.inst "Walker" s.length):=by
  have j1:=bF (s++[O.ns []]) (O.inst "Walker" s.length)
  rwa[show(s++[O.ns []]).length=s.length+1 by simp] at j1
 refine FK (aH (aN m1 (aT (cN (pf:=sa) ac ac (iP (aN ac (aN ac (dW a1 (bM.push _ _ _ _ (bF s _)) pos (by decide) (c6 ⟨ac,q _ _ s.length (((bM.push s _).trans (bM.push _ _)).set (aP _) _) ((cj (b8 (de _))).trans ?_) (hO (by simp) _) (aP _)⟩)))))))));exact a1
theorem Eb{y:aA}(ne:s≠[])(m1:m y=ae (.ref 5))(hn:20<=n)(q:∀s' jv wv,bM s s'->Wk s' wv->Jt s' jv wv->Q (.ref jv) s'):Wp ((run prog n).ev (.new "Joint" [.var y]) m) Q s:=by
 refine qc hn ?_;have pos:s.length≠0:=λq=>ne (dM.mp q);have a1:(s++[O.ns []]++[O.inst "Joint" s.length])[s.length+1]?=ae (.inst "Joint" s.length):=by
  have j1:=bF (s++[O.ns []]) (O.inst "Joint" s.length)
  rwa[show(s++[O.ns []]).length=s.length+1 by simp] at j1
 refine FK (aH (aN m1 (aT (cN (pf:=tD) ac ac (iP (aN ac (aN ac (dW a1 (bM.push _ _ _ _ (bF s _)) pos (by decide) ?_))))))));have e1:bM s ((s++[O.ns []]++[O.inst "Joint" s.length]).set s.length (.ns (u6 "heap" (.ref 5) []))):=((bM.push s _).trans (bM.push _ _)).set (aP _) _;have b1:((s++[O.ns []]++[O.inst "Joint" s.length]).set s.length (.ns (u6 "heap" (.ref 5) [])))[s.length+1]?=ae (.inst "Joint" s.length):=by refine az (cj (b8 (de _))) ?_;exact a1
 have b2:((s++[O.ns []]++[O.inst "Joint" s.length]).set s.length (.ns (u6 "heap" (.ref 5) [])))[s.length]?=ae (.ns [("heap",.ref 5)]):=hO (by simp) _;generalize(s++[O.ns []]++[O.inst "Joint" s.length]).set s.length (.ns (u6 "heap" (.ref 5) []))=s1 at e1 b1 b2;refine iP (sD (λq=>by rw[q] at b1;simp at b1) ac (lB ac) λs2 wv wd e2 w1 w2 ld=>aN ac (dW (e2 _ _ b1) (e2 _ _ b2) pos (by decide) (c6 ⟨ac,?_⟩)));have n2:s.length≠wd:=λe=>by have j2:=(bq.mp b1).1;exact cU (lT ld (e▸bc _ _)) j2
 refine q _ _ wv ((e1.trans e2).set (aP _) _) ⟨wd,?_,?_⟩ ⟨s.length,?_,hO (bq.mp (e2 _ _ b2)).1 _⟩
 ·refine az (cj (λe=>by(replace w1:=(km e)▸w1;replace w1:=(e2 _ _ b2)▸w1);(replace w1:=aU w1;cases w1))) ?_;exact w1
 ·refine az (cj n2) ?_;exact w2
 ·refine az (cj (b8 (de _))) ?_;exact e2 _ _ b1
end
section
variable{g:Gr}{x:St}{s:af O}{r:ag->ag}{n:ag}{m:Env}{Q:V->af O->Prop}
theorem zz{G:sJ}{elt:PE}{fe:af aA}{src:Src}{ifs:af PE}{gs:af Gen}(h:Wp (itemsOf (λe=>(run G n).ev e m) src) (λit s1=>Wp (iK it (k9 (run G n) elt s1.length (m.drop (".0"::dA (.mk fe src ifs::gs))) fe ifs gs) it.vs) (λ_ s'=>Q (.ref s1.length) s') (s1++[.list []])) s):
  Wp ((run G (n+1)).ev (.comp elt (.mk fe src ifs::gs)) m) Q s:=
 aZ (wp_mono h λit s1 h=>aZ (fD (bR _) (aZ (wp_mono h λ_ s' q=>bx q))))
theorem MM{a:ag}{u4:af V}{K:cH->af O->Prop}(h4:4<=a)(hn:70<=n)(m1:m "well"=ae (.ref 1)):∀(vs:af V)(s:af O)(ps:af Tm)(k:ag),We s k->k+11*vs.length<=900->ps.length+vs.length<=1000->s[a]?=ae (.list (ps.map Tm.enc))->(∀p∈ps,p.H6/\p.ht<=2)->(∀(s':af O)(GC:af Tm)(k':ag),We s' k'->s'[a]?=ae (.list (GC.map Tm.enc))->GC.length=ps.length+vs.length->(∀p∈GC,p.H6/\p.ht<=2)->(∀(b:ag) o,b≠1->b≠a->s[b]?=ae o->s'[b]?=ae o)->K () s')->Wp (iK ⟨u4,.none⟩ (k9 (run prog (n+5)) (.call "_law_pattern" [(.var "well"),(.int 2)]) a m ["lap"] [] []) vs) K s:=by
 intro l0;induction l0 with
 |nil=>exactλs ps k w _ _ ha hp q=>nS bp (q s ps k w ha (by rfl) hp λ_ _ _ _ e=>e)
 |cons v vs ih=>
  intro s ps k w hk hl ha hp q;simp at hk hl;refine aZ (nS bp (aZ<|bK (a:=m.upd "lap" v) ac (aZ (dD<|az (aF ac)<|aZ (fT (aH (aN m1 (aH (cS (aT (H7 2 s k _ _ w (tB (aR (lT (bc _ _) hk)) ac) (by exact lB ac) (eY (lT (tB (bL (mL (aP _))) ac) hn)) λp s1 k1 pp ph e1 w1 Yn=>?_)))))))))));have UR:=e1 _ _ (bZ (lR (lB ac) h4)) ha;have al:=(bq.mp UR).1;refine aZ (fc UR (bZ (lR (lB ac) h4)) (by rw[be];exact tL (lT (bc _ _) hl) ac) (bx ?_));have w2:We (s1.set a (.list (ps.map Tm.enc++[p.enc]))) k1:=⟨by refine az (cj (nE h4 ac)) ?_;exact w1.well,let⟨cs,a',b⟩:=w1.cells;⟨cs,by refine az (cj (bZ ‹_›)) ?_;exact a',b⟩⟩;have Yn:k1<=k+11:=Yn;refine ih _ (ps++[p]) k1 w2 (by lia) (by simp;lia) (by rw[hO al];exact bf (λl=>ae (O.list l)) VE) (λq hq=>?_) λs' GC k' a1 a2 a3 a4 a5=>q s' GC k' a1 a2 (by refine az a3 ?_;exact shE) a4 λb o h1 h2 e=>a5 b o h1 h2 ((λb o h1 h2 e=>by refine az (cj (dK h2)) ?_;exact e1 _ _ h1 e) b o h1 h2 e);rcases cR.mp hq with h|h
  ·exact hp q h
  ·refine az (bX.mp h) ?_;exact⟨pp,ph⟩
theorem Gu{k:ag}(w:We s k)(hk:k<=800)(m1:m "well"=ae (.ref 1))(hn:80<=n)(q:∀(s':af O) (ps:af Tm) (k' a:ag),E1 s s'->We s' k'->4<=a->s'[a]?=ae (.list (ps.map Tm.enc))->1<=ps.length->ps.length<=2->(∀p∈ps,p.H6/\p.ht<=2)->Q (.ref a) s'):Wp ((run prog n).ev (X0 9) m) Q s:=by
 refine qc hn<|zz (rN (gh (cS (fT (aH (aN m1 (aH (cS (aT (ik (many:=2) w (tB hk ac) (lB ac) (by exact lB ac) (by exact lB ac) λj s1 hj e1 l1 w1=>pP ac (fJ (bz (lR hj (lB ac)))) ⟨_,ac,F4 (by decide) (by decide) (bz (lR hj (lB ac))),?_⟩))))))))));have l4:=w1.len;refine MM (n:=74) l4 (lB ac) m1 _ _ [] (k+1) (w1.ext (bM.push s1 _)) (by simp;lia) (by simp;lia) (bF s1 _) (by simp) λs' GC k' a1 a2 a3 a4 a5=>?_;have hp:GC.length=1+j:=by rw[a3];simp;lia
 refine q s' GC k' _ (λb o hb e=>?_) a1 l4 a2 (hp▸bc _ _) (hp▸bL (b9 hj)) a4;have e':=e1 b o hb e;have:=(bq.mp e').1;exact a5 b o hb (b8 ‹_›) (bM.push _ _ _ _ e')
theorem mi:∀{p:Tm},p.H6->p.short
 |.leaf z,h=>by
  show z.length<=1000
  rcases h with rfl|rfl|rfl<;>decide
 |.f p,h=>mi (p:=p) h
 |.g p q,h=>⟨mi (p:=p) h.1,mi (p:=q) h.2⟩
theorem Qd:∀{p:Tm},p.H6->∀z∈p.vars,z=aB "?x"\/z=aB "?y":=by
 intro p;induction p with
 |f p ih=>exact ih
 |g p q ip iq=>exactλh z hz=>(cR.mp hz).elim (ip h.1 z) (iq h.2 z)
 |leaf y=>
  intro h z hz;unfold Tm.vars at hz;split at hz
  ·rename_i hv;refine az (bX.mp hz) ?_;rcases h with rfl|rfl|rfl
   ·exact .inl ac
   ·exact .inr ac
   ·exact aV hv (by decide)
  ·exact nomatch hz
theorem zA(p:Tm):(p.parts.filter λq=>dU q.op).map Tm.op=p.vars:=by
 induction p with
 |leaf z=>unfold Tm.parts Tm.vars;rw[Km];show(if dU z=aj then _ else _:af Tm).map _=_;split<;>rfl
 |f p ih=>
  show((p.parts++[Tm.f p]).filter _).map _=p.vars;rewrite[xS];refine az iw<|az ih ?_;have:dU (aB "f")=aQ:=by decide
  exact lr _
 |g p q ip iq=>
  show((p.parts++q.parts++[Tm.g p q]).filter _).map _=p.vars++q.vars;rewrite[xS,xS];refine az iw<|az iw<|az ip<|az iq ?_;have:dU (aB "g")=aQ:=by decide
  exact lr _
theorem all_strs{vs:af V}(h:∀v∈vs,∃z:aM,v=.str z):∃zs:af aM,vs=zs.map V.str:=by
 induction vs with
 |nil=>exact⟨[],ac⟩
 |cons v vs ih=>refine eh (h v (.head _)) λj z1=>?_;subst z1;exact eh (ih λu hu=>h u (.tail _ hu)) λcs z2=>z2▸⟨j::cs,ac⟩
theorem Qe{ps:af Tm}(hp:∀p∈ps,p.H6):setOk ((ps.flatMap Tm.vars).map V.str)=aj/\cZ (cF ((ps.flatMap Tm.vars).map V.str))=aj/\∃zs,Nm ps zs/\dh (cF ((ps.flatMap Tm.vars).map V.str))=zs.map V.str:=by
 have al:∀v∈(ps.flatMap Tm.vars).map V.str,∃z:aM,v=.str z/\(z=aB "?x"\/z=aB "?y"):=λv hv=>by refine bH (bt.mp hv) λz hz z3=>?_;subst z3;exact bH (dg.mp hz) λp h1 h2=>⟨z,ac,Qd (hp p h1) z h2⟩
 have DL:(cF ((ps.flatMap Tm.vars).map V.str)).length<=2:=gi (l:=[V.str (aB "?x"),V.str (aB "?y")]) cq λv hv=>by
  obtain⟨z,rfl,rfl|rfl⟩:=al v (bU.mp hv)
  ·exact .head _
  ·exact .tail _ (.head _)
 have cmp:∀u∈cF ((ps.flatMap Tm.vars).map V.str),∀v∈cF ((ps.flatMap Tm.vars).map V.str),V.fV u v=aj:=λu hu v hv=>by refine bH (al u (bU.mp hu)) λz z4 _=>?_;subst z4;refine bH (al v (bU.mp hv)) λy z5 _=>?_;subst z5;rfl
 refine⟨?_,?_,?_⟩
 ·unfold setOk;simp only[cY,qC,eH];refine⟨i9 λ_ _=>ac,.inl (.inr λv hv=>bH (al v hv) λz z6 _=>?_)⟩;subst z6;rfl
 ·refine oF (λv hv=>?_) (tL DL ac) cmp cq λv hv=>?_
  ·refine bH (al v (bU.mp hv)) λz z7 _=>?_;subst z7;rfl
  ·refine bH (al v (bU.mp hv)) λz z8 _=>?_;subst z8;rfl
 ·have pe:=cz (cF ((ps.flatMap Tm.vars).map V.str));refine eh (all_strs (vs:=dh (cF ((ps.flatMap Tm.vars).map V.str))) λv hv=>bH (al v (bU.mp (pe.subset hv))) λz e _=>⟨z,e⟩) λzs hz=>?_;replace pe:=hz▸pe;refine⟨zs,⟨pW (pe.nodup_iff.mpr cq),hz▸fi _ cmp cq,λz=>?_,?_⟩,hz⟩
  ·rw[<-uZ,pe.mem_iff,bU,uZ]
  ·have j1:=pe.length_eq;simp at j1;exact j1▸DL
theorem Qf{pa:ag}{ps:af Tm}(ne:s≠[])(hp:∀p∈ps,p.H6/\p.ht<=2)(hl:ps.length<=2)(Kv:s[pa]?=ae (.list (ps.map Tm.enc)))(m1:m "patterns"=ae (.ref pa))(hn:60<=n)(q:∀(s':af O) (a:ag) (zs:af aM),bM s s'->Nm ps zs->s'[a]?=ae (.list (zs.map V.str))->Q (.ref a) s'):Wp ((run prog n).ev (X0 10) m) Q s:=by
 refine qc hn ?_;obtain⟨Z3,Z4,zs,N,hz⟩:=Qe λp h=>(hp p h).1;have sp:(ps.map Tm.enc).flatMap (λv=>(iF v).vars.map V.str)=(ps.flatMap Tm.vars).map V.str:=by rewrite[kG λp=>p.vars.map V.str];exact az Kw ac
 have len:∀p:Tm,p.vars.length<=p.parts.length:=λp=>by refine dm (zA p) ?_;rewrite[be];exact DJ _ _
 have pl:∀p∈ps,p.parts.length<=8:=λp h=>by have:=vE p;have:2^(p.ht+1)<=2^3:=jy (by decide) (by have:=(hp p h).2;exact aR this);lia
 refine fm (fW Dv Dv.rM (eS (aN m1 ⟨pa,_,ac,Kv,Kv,ne,λv=>(iF v).vars.map V.str,?_,?_,?_⟩)))
 ·show((ps.map Tm.enc).flatMap _).length<=_;refine az sp ?_;rewrite[be];have:(ps.flatMap Tm.vars).length<=ps.length*8:=fF λp h=>lT (len p) (pl p h);exact tB (lT this (mR hl)) ac
 ·intro v hv s2 e2 pR;refine bH (bt.mp hv) λp yi z9=>?_;subst z9;have ne2:s2≠[]:=λq=>by replace pR:=q▸pR;simp at pR
  have ph:=(hp p yi).2;have ppl:=pl p yi;rw[gj];refine oC Dv.rM ac (eS (fT (aH (aN ac (aT (pX (p.ht+1) p (de _) (tB ppl ac) s2 _ _ ne2 (tB (bL (mL ph)) ac) λs3 a3 e3 l3 h3=>⟨a3,_,ac,h3,e3,?_,h3,λv=>match(iF v).op with|z=>if dU z then[V.str z] else[],?_,?_⟩))))))
  ·show a3≠s.length;exact bZ (lR pR l3)
  ·show _=(p.parts.map Tm.enc).flatMap _;rewrite[kG λq=>if dU q.op then[V.str q.op] else[]];exact dm (zA p)<|az iz ((filter_flatMap (λq:Tm=>dU q.op) (λq=>V.str q.op) p.parts).symm)
  ·intro v hv s4 f4;refine bH (bt.mp hv) λy hy NQ=>?_;subst NQ;rw[gj];have hys:y.op.length<=1000:=by
    have:∀(k:ag)(p:Tm),p.ht<k->p.H6->∀y∈p.parts,y.op.length<=1000:=by
     intro k;induction k with
     |zero=>intro p h;trivial
     |succ k ih=>
      intro p hk Z0 y hy;rw[mJ] at hy;rcases cR.mp hy with h|h
      ·refine bH (dg.mp h) λu hu h=>?_;have:=(qH hu).1;refine ih u (lR this (b9 hk)) ?_ y h;cases p with
       |leaf z=>cases hu
       |f t=>refine az (bX.mp hu) ?_;exact Z0
       |g t u'=>
        rcases ci.mp hu with rfl|hu
        ·exact Z0.1
        ·refine az (bX.mp hu) ?_;exact Z0.2
      ·exact az (bX.mp h) (FZ (mi Z0))
    exact this (p.ht+1) p (de _) (hp p yi).1 y hy
   have ky:=hU y;refine dj (λq=>ne (dM.mp q)) ac (oB (dT (vy (ef (aN (bf ae (kg y)) (cS (iE (i:=0) ac (by simp;lia) (cS (FY hys (gQ (dE ac ⟨_,ac,bM.refl _,?_⟩)))))))))));by_cases c:dU y.op=aj
   ·exact az (aF c)<|ef (aN (bf ae (kg y)) (cS (iE (i:=0) ac (by simp;lia) ⟨bM.refl _,V.str y.op,(aF c),λ_ _=>ac⟩)))
   ·exact az (aG c) (aG c)
 ·intro s' rs e' ha al;have:=al.eq.trans sp;subst this;exact lY ha Z3 Z4<|az hz (q _ _ zs (e'.trans (bM.push _ _)) N (bF _ _))
end
structure E10(m:Env)(na pa ea da:ag):Prop where
 heap:m "heap"=ae (.ref 5)
 names:m "names"=ae (.ref na)
 pats:m "patterns"=ae (.ref pa)
 rows:m "rows"=ae (.ref ea)
 Id:m "due"=ae (.ref da)
theorem Ec{τ:Tb}:∀{p:Tm},(∀z∈p.vars,∃j:ag,bI (.str z) τ=ae (.int j))->Uh τ p
 |.leaf z,h=>λhz=>h z (by unfold Tm.vars;refine az (aF hz) ?_;exact .head _)
 |.f p,h=>Ec (p:=p) h
 |.g p q,h=>⟨Ec (p:=p) λz hz=>h z (i5 _ hz),Ec (p:=q) λz hz=>h z (i6 _ hz)⟩
theorem MN{v:V}{ys:af V}{s:af O}{Q:V->af O->Prop}(pv:v.pure=aj)(py:V.eI ys=aj)(q:Q (.bool (!has v ys)) s):Wp (mo .mP v (.tup ys)) Q s:=by show Wp (if V.pure v&&V.eI ys then ret (V.bool (!has v ys)) else fail) Q s;refine az pv<|az py ?_;exact bx q
noncomputable abbrev aaK:af PS:=Iu (vO.body.getD 12 .fail)
section
variable{ps:af Tm}{zs:af aM}{es:Tb}{C:af ag}{s0:af O}{n na pa ea da ra:ag}{u4:af V}{R:Flow×Env->af O->Prop}
theorem Qg(iv:uU es)(hp:∀p∈ps,p.H6/\p.ht<=2)(hl:ps.length<=2)(N:Nm ps zs)(ne:s0≠[])(hda:da≠0)(Ef:s0[ra]?=ae (.list u4))(Kv:s0[pa]?=ae (.list (ps.map Tm.enc)))(Yk:s0[na]?=ae (.list (zs.map V.str)))(hea:s0[ea]?=ae (.dict es))(n1:ra≠da)(n2:pa≠da)(n3:na≠da)(hn:60<=n):∀(ts:af Tb)(rs:af V)(m:Env)(s:af O)(acc:af V),fb (Dt 0 s0) rs ts->(∀τ∈ts,iI τ/\UI C τ/\∀z,(bI (.str z) τ).isSome=aj↔z∈zs)->Fa da s0 s->s[da]?=ae (.list acc)->acc.length+ts.length<=1000->E10 m na pa ea da->(∀m' s',E10 m' na pa ea da->Fa da s0 s'->s'[da]?=ae (.list (acc++qL es ps zs ts))->R (.next,m') s')->Wp (c9 ⟨u4,.list ra u4⟩ (λv m=>bP (bindTo m ["table"] v) λm'=>(run prog (n+20)).ex aaK m') rs m) R s:=by
 intro l0;induction l0 with
 |nil=>intro rs m s acc al _ f ha _ E K;cases al;exact jB (f.ne Ef n1) (K m s E f (by(refine az (show qL es ps zs []=[] from ac) ?_;rewrite[lr]);exact ha))
 |cons τ ts ih=>
  intro rs m s acc al ht f ha hz E K;refine kS al.inv λv rs z1 z2 alt=>?_;subst z1;refine jj z2 λb z3 _ hb=>?_;subst z3;refine qg (ht τ (.head _)) λok tb d=>?_;have ZT:acc.length+(ts.length+1)<=1000:=hz;have ex:∀z∈zs,∃j:ag,bI (.str z) τ=ae (.int j):=λz hz=>by refine eh (kJ.mp ((d z).mpr hz)) λv hv=>kS (tb _ _ hv) λ_ c _ z4 _=>?_;subst z4;exact⟨c,hv⟩
  have cv:∀p∈ps,Uh τ p:=λp hp=>Ec λz hz=>ex z ((N.mem z).mpr (dg.mpr ⟨p,hp,hz⟩));have al0:=(bq.mp ha).1;have nes:s≠[]:=λq=>by replace al0:=q▸al0;simp at al0
  have Z8:=f.ne Kv n2;have sp:(ps.map Tm.enc).flatMap (λv=>[dk τ es (iF v)])=ps.map (dk τ es):=by rw[kG λp=>[dk τ es p],bO]
  refine hV (f.ne Ef n1) (bK (a:=m.upd "table" (.ref b)) ac (bV (c8 (fm (fW Dv Dv.rM (eS (aN E.pats ⟨pa,_,ac,Z8,Z8,nes,λv=>[dk τ es (iF v)],?_,?_,?_⟩)))))))
  ·show((ps.map Tm.enc).flatMap _).length<=_;refine az sp ?_;rewrite[be];exact tB hl ac
  ·intro v hv s2 e2 pR;refine bH (bt.mp hv) λp yi z5=>?_;subst z5;have ne2:s2≠[]:=λq=>by replace pR:=q▸pR;simp at pR
   have ph:=(hp p yi).2;rw[gj];exact dj (λq=>nes (dM.mp q)) ac (dD ⟨bM.refl _,fT (aH (aN ac (aH (aN ac (aH (aN E.rows (aT (Mk iv (p.ht+1) p (de _) (mi (hp p yi).1) (cv p yi) s2 b ea _ _ ne2 (e2 _ _ (f.dict hb)) (e2 _ _ (f.dict hea)) (aE (bT hn ac) (mL ph)) λs3 e3=>⟨e3,_,ac,λ_ _=>ac⟩))))))))⟩)
  intro s1 rs1 e1 h1 al1;have j1:=al1.eq.trans sp;subst j1;have py:V.eI (ps.map (dk τ es))=aj:=i9 λp yi=>by refine eh (zf iv (cv p yi)) λi hi=>az hi ?_;rfl
  refine kF h1 (by rw[be];exact tB hl ac) (ic (dT (Pn (cS ⟨_,ac,ac,aN ac (MN ac py ⟨_,ac,?_⟩)⟩))));have f1:=f.trans (e1.fa da);have UR:=e1 _ _ ha;have dn:qL es ps zs (τ::ts)=mK es ps zs τ++qL es ps zs ts:=ac;by_cases c:has (.int (-1)) (ps.map (dk τ es))=aj
  ·refine az c<|az (aG (by decide)) ?_;have d1:mK es ps zs τ=[]:=by unfold mK;(exact(aF c))
   exact bV (c6 (c6 (ih rs _ s1 acc alt (λτ h=>ht τ (.tail _ h)) f1 UR (bz ‹_›) ⟨E.heap,E.names,E.pats,E.rows,E.Id⟩ λm' s' E' f' h'=>K m' s' E' f' (by(refine az dn ?_;refine az d1 ?_);exact h'))))
  ·refine az (yO.mpr c)<|az (aF (ac)) ?_;have d1:mK es ps zs τ=[.tup [.tup (ps.map (dk τ es)),.tup (canon zs τ)]]:=by unfold mK;(exact(aG c))
   have Z9:=f1.ne Yk n3;have ne1:s1≠[]:=λq=>by replace UR:=q▸UR;simp at UR
   have sp2:(zs.map V.str).flatMap (λv=>[V.tup [v,(bI v τ).getD .none]])=canon zs τ:=by rw[fj,bO];rfl
   refine bV (fE (eG (aN E.Id ⟨da,_,ac,UR,.inl ac,aH (eN (aH (aN ac (aH (fm (fW Dv Dv.rM (eS (aN E.names ⟨na,_,ac,Z9,Z9,ne1,λv=>[V.tup [v,(bI v τ).getD .none]],?_,?_,?_⟩))))))))⟩)))
   ·show((zs.map V.str).flatMap _).length<=_;refine az sp2 ?_;have j2:=N.DL;unfold canon;rw[be];exact tB j2 ac
   ·intro v hv s2 e2 pR;refine bH (bt.mp hv) λz hz z6=>?_;subst z6;exact eh (ex z hz) λj hj=>az hj (dj (λq=>ne1 (dM.mp q)) ac (dD ⟨bM.refl _,eN (aH (aN ac (aH (ef (aN ac (aN ac (lX (e2 _ _ (f1.dict hb)) ac hj (aT ⟨bM.refl _,_,ac,λ_ _=>ac⟩))))))))⟩))
   intro s2 rs2 e2 h2 Yl;have j3:=Yl.eq.trans sp2;subst j3;have Ix:=e2 _ _ UR;refine kF h2 (by have j4:=N.DL;unfold canon;rw[be];exact tB j4 ac) (aT (aT ⟨⟨_,Ix,ac⟩,fc Ix hda (tL (lT (bc _ _) hz) ac) ⟨bp,c6 (c6 ?_)⟩⟩));have ll:(acc++[V.tup [.tup (ps.map (dk τ es)),.tup (canon zs τ)]]).length=acc.length+1:=ct;exact ih rs _ _ _ alt (λτ h=>ht τ (.tail _ h)) ((f1.trans (e2.fa da)).trans (Fa.set Ix)) (hO (bq.mp Ix).1 _) (by refine az ll ?_;lia) ⟨E.heap,E.names,E.pats,E.rows,E.Id⟩ λm' s' E' f' h'=>K m' s' E' f' (by(refine az dn ?_;refine az d1 ?_;rewrite[<-mx]);exact h')
end
noncomputable def IN:ag->ag
 |0=>1
 |k+1=>5*(IN k*IN k)
theorem KQ:∀k,1<=IN k:=by
 intro l0;induction l0 with
 |zero=>exact aP _
 |succ k ih=>exact lT (uQ (ih) (ih)) (pU _ (by decide))
theorem ad(p:Tm):∀k,p.ht<=k->p.wt<=IN k/\p.lv<=2^k:=by
 induction p with
 |leaf z=>exactλk _=>⟨KQ k,Ux⟩
 |f p ih=>
  intro k h;induction k with
  |zero=>exact aV h (US _)
  |succ k=>have a:=ih k (xM h);exact⟨IK 5 (lT a.1 (xP _ (KQ k))),lT a.2 (jy (by decide) (pG k))⟩
 |g p q ih PD=>
  intro k h;induction k with
  |zero=>exact aV h (US _)
  |succ k=>have h:=xM h;have a:=ih k (lT (DQ _ _) h);have b:=PD k (lT (DR _ _) h);exact⟨IK 5 (uQ a.1 b.1),lT (aE a.2 b.2) (bJ ((CP _).symm.trans (rI ..).symm))⟩
theorem IF{p:Tm}(h:p.ht<=2):p.wt<=125/\p.lv<=4:=ad p 2 h
theorem X1{ps:af Tm}(h:∀p∈ps,p.ht<=2):Xw ps<=4*ps.length/\jw ps<=625^ps.length:=by
 induction ps with
 |nil=>exact⟨aP _,aP _⟩
 |cons p ps ih=>
  have a:=ih λq hq=>h q (.tail _ hq);have b:=IF (h p (.head _));constructor
  ·unfold Xw;refine az iD ?_;lia
  ·refine az iD ?_;rewrite[rI,Ky];exact uQ (mL b.1) a.2
theorem Qh{a b:ag}{xs:af V}{s:af O}{Q:V->af O->Prop}(ha:s[a]?=ae (.list xs))(hb:s[b]?=ae (.list xs))(px:V.eI xs=aj)(q:Q (.bool aQ) s):Wp (mo .ne (.ref a) (.ref b)) Q s:=by refine aZ (wp_load ha (aZ (wp_load hb ((az px ?_):Wp (if V.eI xs&&V.eI xs then ret (V.bool (!V.oR xs xs)) else fail) Q s))));rewrite[V.qT];exact bx q
noncomputable def VB(v:V):af V:=((mQ v).bind λl=>(M3 l).bind λp=>(kU p.1).map λc=>IE c.toNat p.2).toList
section
variable{g:Gr}{r:ag->ag}{td:af (ag×ag)}{x:St}{s:af O}{ps:af Tm}{zs:af aM}{n na pa ea da:ag}{m:Env}{Q:V->af O->Prop}
theorem X2(Mg:RO g r x s)(G:gR g td r)(N:Nm ps zs)(hp:∀p∈ps,p.H6/\p.ht<=2)(h1:1<=ps.length)(h2:ps.length<=2)(Kv:s[pa]?=ae (.list (ps.map Tm.enc)))(hda:s[da]?=ae (.list (qL (dictOf (Qv g r)) ps zs (asg (cC g r) zs))))(E:E10 m na pa ea da)(hn:186<=n)(q:∀s',Q (.bool aj) s'):Wp (dY (run prog n) (vO.body.drop 13) m) (λr s=>Q (yZ r.1) s) s:=by
 obtain⟨n,rfl⟩:∃k,n=k+20:=⟨n-20,fs ‹_› ac⟩;have ok:=Mg.ok;have U:=Mg.U;have M:=KP ok U.le U.ji G;have sh:=mG (g:=g) ok U.le U.ji;have sC:(cC g r).Pairwise (·<·):=qE _ _;have nC:(cC g r).Nodup:=tm _ _;have hC:=oH (r:=r) ok;refine qg (Gs sh M N nC hC) λj1 j2 j3=>?_;have ht:∀p∈ps,p.ht<=2:=λp h=>(hp p h).2;have bd:∀{qs:af Tm},(∀p∈qs,p∈ps)->qs.length<=2->(∀p∈qs,p.short/\p.wt<=100000/\p.ht<=2)/\Xw qs<=63/\jw qs<=16777216:=λ{qs} hq hl=>by have a:=X1 λp h=>ht p (hq p h);have b:625^qs.length<=625^2:=jy (by decide) hl;exact⟨λp h=>⟨mi (hp p (hq p h)).1,by have Qr:=(IF (ht p (hq p h))).1;exact tB Qr ac,ht p (hq p h)⟩,tB (lT a.1 (mL hl)) ac,by lia⟩
 refine qg (bd (λp h=>h) h2) λb1 b2 b3=>?_
 obtain⟨p0,pt,rfl⟩:∃p pt,ps=p::pt:=by
  induction ps with
  |nil=>simp at h1
  |cons p pt=>exact⟨p,pt,ac⟩
 refine eh (N.one (p:=p0) (.head _)) λys N1=>qg (bd (qs:=[p0]) (λp h=>by refine az (bX.mp h) ?_;exact .head _) (by exact lB ac)) λd1 d2 d3=>?_;refine qg (Gs sh M N1 nC hC) λk1 k2 k3=>?_;have kr1:=D7 sh M N1;have p5:∀{vs:af V},(∀v∈vs,Kr v)->V.eI (dh (cF vs))=aj:=λh=>kE.mpr λv hv=>(h v (bU.mp ((cz _).subset hv))).pure;refine c8 (Eb (oD Mg.h) E.heap (lB ac) λs1 jv wv e1 W J=>?_);have R1:=Mg.mono e1;refine bH J.at_ λjd ja jb=>ic (TX (dT (kd ac ja jb ac (aH (aN E.pats (aT (mI (H:=2) R1 W J b1 (e1 _ _ Kv) b2 (tB h2 ac) b3 j2 (by lia) λs2 a2 e2 l2 MQ=>fm (aN E.Id (pO (e2 _ _ (e1 _ _ hda)) j1<|dm j3 ?_)))))))));have e3:=e2.trans (bM.push s2 (.list (dh (cF (rows0 (fI g r) (cC g r) (p0::pt))))));refine Qh (bM.push _ _ _ _ MQ) (bF s2 _) (p5 (D7 sh M N)) ⟨aQ,ac,az (aG cE) ?_⟩;generalize s2++[O.list (dh (cF (rows0 (fI g r) (cC g r) (p0::pt))))]=s3 at e3;have R3:=R1.mono e3;have W3:=W.mono e3;have J3:=J.mono e3;have e4:=bM.push s3 (.list []);refine dT (kd ac (e3 _ _ ja) (e3 _ _ jb) ac (aH (et (aT ⟨by simp,aT (mI (ps:=[]) (H:=0) (R3.mono e4) (W3.mono e4) (J3.mono e4) (by exactλ_ h=>aV h gu) (bF s3 _) (by decide) (by decide) (by decide) (by decide:cZ (cF [DS ([],[])])=true) (aE (fK hn ac) (tB (mL (aP _)) ac)) λs5 a5 e5 l5 h5=>et (aH (eN (aH (eN (aT (aH (eN (aT (aT (aT ⟨by decide,Qh (bM.push _ _ _ _ h5) (bF s5 _) ac ⟨aQ,ac,az (aG cE) ?_⟩⟩)))))))))))⟩))));have e6:=(e4.trans e5).trans (bM.push s5 (.list [.tup [.tup [],.tup []]]));generalize s5++[O.list [V.tup [.tup [],.tup []]]]=s6 at e6;have R6:=R3.mono e6;have J6:=J3.mono e6;have W6:=W3.mono e6;have hp6:=e6 _ _ (e3 _ _ (e1 _ _ Kv));have Ul:=d1 p0 (.head _);have sp:((cC g r).flatMap (nF (fI g r) p0)).flatMap VB=dh (cF (rows0 (fI g r) (cC g r) [p0])):=by refine dm (MK sh M N1 sC hC)<|az UK<|iR λc _=>?_;unfold nF;rw[fj];exact bO _ _
 have aaL:(dh (cF (rows0 (fI g r) (cC g r) [p0]))).length<=25:=by exact az ((cz _).length_eq)<|zx sh M N1 nC hC
 refine bV (c6 (dZ (dT (fW Dv Dv.rM (eS (iu (sD (oD R6.h) E.heap (lB ac) λs7 wv' wd' e7 w1 w2 _=>⟨wv',"Walker",wd',_,ac,w1,w2,ac,aH (ef (aN E.pats (cS (fA (i:=0) (e7 _ _ hp6) ac (by rw[be];exact tB h2 ac) (aT (wx (R6.mono e7) ⟨wd',w1,w2⟩ Ul.1 Ul.2.1 (by have ZR:=(IF Ul.2.2).2;exact tB ZR ac) (λc hc=>MJ sh M N1 nC hC (me.mpr hc)) (by have:=Ul.2.2;lia) λs8 a8 e8 l8 h8=>⟨a8,_,ac,h8,h8,oD ((R6.mono e7).mono e8).h,VB,?_,?_,?_⟩))))))⟩)))))))
 ·show(((cC g r).flatMap (nF (fI g r) p0)).flatMap _).length<=_;refine az sp ?_;exact tB aaL ac
 ·intro v hv s9 e9 lt9;exact bH (dg.mp hv) λc hc hv=>bH (bt.mp hv) λu hu z7=>z7▸dj (λq=>oD ((R6.mono e7).mono e8).h (dM.mp q)) ac (dD ⟨bM.refl _,eN (aH (eN (aH (aN ac (aT (aH (aN ac (aT ⟨bM.refl _,_,ac,λ_ _=>ac⟩))))))))⟩)
 intro s9 rs e9 h9 al9;have j4:=al9.eq.trans sp;subst j4;have e79:=(e7.trans e8).trans e9;refine bH ((J6.mono e79).at_) λjd' ja' jb'=>?_;have e10:=e79.trans (bM.push s9 (.list [p0.enc]));exact kd ac ja' jb' ac (aH (vy (aN E.pats (cS (zq (k:=1) (e79 _ _ hp6) (by decide) (by rw[be];exact tB h2 ac) (aT (mI (ps:=[p0]) (H:=2) (R6.mono e10) (W6.mono e10) (J6.mono e10) d1 (bF s9 _) d2 (by exact lB ac) d3 k2 (by lia) λs11 Pi e11 l11 h11=>H8 (e11 _ _ (bM.push _ _ _ _ h9)) h11 (p5 kr1) (p5 kr1) (by rw[V.qT];exact q _))))))))
end
section
variable{n:ag}{m:Env}{Q:V->af O->Prop}{s:af O}
theorem UT{G:sJ}{k1 k2 v1 v2:PE}(h:Wp ((run G n).ev k1 m) (λx1 s1=>Wp ((run G n).ev v1 m) (λy1 s1=>Wp ((run G n).ev k2 m) (λx2 s1=>Wp ((run G n).ev v2 m) (λy2 s1=>s1[s.length]?=ae (.dict [])/\s.length≠0/\V.pure x1=aj/\V.pure x2=aj/\Q (.ref s.length) (s1.set s.length (.dict (dictOf [(x1,y1),(x2,y2)])))) s1) s1) s1) (s++[.dict []])):Wp ((run G (n+1)).ev (.r8 k1 v1 k2 v2) m) Q s:=by show Wp (sL (λe=>(run G n).ev e m) k1 v1 k2 v2) Q s;unfold sL;exact aZ (wp_alloc (aZ (wp_mono h λx1 _ h=>aZ (wp_mono h λy1 _ h=>aZ (wp_mono h λx2 _ h=>aZ (wp_mono h λy2 s1 h=>Ys h λh1 h0 p1 p2 q=>bK ac (aZ (wp_load h1 (bK ac<|az p1<|az p2 (aZ (jZ (bq.mp h1).1 h0 (bx q))))))))))))
theorem IG{o0 o1:O}{u4:af V}{K:cH->af O->Prop}:∀(ns acc:af aJ),acc.length+ns.length<=1000->(∀cs:af aJ,cs.length=acc.length+ns.length->K () [o0,o1,.list u4,.list (cs.map V.int)])->Wp (iK ⟨u4,.list 2 u4⟩ (k9 (run prog (n+5)) (.bin (.mod ()) (.bi "abs" (.var "cell")) (.int 1000003)) 3 m ["cell"] [] []) (ns.map V.int)) K [o0,o1,.list u4,.list (acc.map V.int)]:=by
 intro ns;induction ns with
 |nil=>exactλacc _ q=>nS ac (q acc ac)
 |cons i ns ih=>intro acc hl q;refine aZ (nS (ac) (aZ<|bK (a:=m.upd "cell" (.int i)) ac (aZ (dD<|az (aF ac)<|aZ (gh (fm (aN ac (bx (cS (DW (by decide) ac (aZ (fc (l:=acc.map V.int) ac (by decide) (by rw[be];exact tL (lT (bc _ _) hl) ac) (bx ?_)))))))))))));have:=ih (acc++[(i.natAbs:aJ)%1000003]) (shL hl) λcs hc=>q cs (hc.trans shE);replace this:=iw▸this;exact this
noncomputable def St.start(o0 o2:O)(cs:af V):St:=⟨o0,o2,0,cs,[],[],[],[],[],[],[],[],[],[],[],[]⟩
theorem Gv{o0 o2:O}{cs:af V}(q:Q (.ref 5) (St.start o0 o2 cs).L):Wp ((run prog (n+40)).ev (.new "Heap" []) m) Q [o0,lA 0,o2,.list cs]:=by refine FK (aT (cN (pf:=vK) ac ac<|iP (FK (aT (cN (pf:=vI) ac ac ?_)))));show Wp (dY _ _ _) _ ([o0,lA 0,o2,.list cs,.ns [],.inst "Heap" 4,.ns [],.inst "Bank" 6]:af O);refine iP (et (aT ⟨bR _,aN ac (dW ac ac (by decide) (by simp) ((iP (nA (aN ac (dW ac ac (by decide) (by decide) ((iP (et (aT ⟨bR _,aN ac (dW ac ac (by decide) (by decide) ((iP (et (aT ⟨bR _,aN ac (dW ac ac (by decide) (by decide) (c6 ⟨ac,aN ac (dW ac ac (by decide) (by simp)<|iP (FK (aT (cN (pf:=sg) ac ac ?_))))⟩))⟩))):Wp (dY _ _ _) _ ([o0,lA 0,o2,.list cs,.ns [],.inst "Heap" 4,.ns [("nodes",.ref 8),("numbers",.ref 9),("weights",.ref 10)],.inst "Bank" 6,.list [],.dict [],.list []]:af O)))⟩))):Wp (dY _ _ _) _ ([o0,lA 0,o2,.list cs,.ns [],.inst "Heap" 4,.ns [("nodes",.ref 8),("numbers",.ref 9)],.inst "Bank" 6,.list [],.dict []]:af O)))))):Wp (dY _ _ _) _ ([o0,lA 0,o2,.list cs,.ns [],.inst "Heap" 4,.ns [("nodes",.ref 8)],.inst "Bank" 6,.list []]:af O)))⟩));show Wp (dY _ _ _) _ ([o0,lA 0,o2,.list cs,.ns [("bank",.ref 7)],.inst "Heap" 4,.ns [("nodes",.ref 8),("numbers",.ref 9),("weights",.ref 10),("depths",.ref 11)],.inst "Bank" 6,.list [],.dict [],.list [],.list [],.ns [],.inst "Unions" 12]:af O);exact iP (et (aT ⟨bR _,aN ac (dW ac ac (by decide) (by simp) ((iP (et (aT ⟨bR _,aN ac (dW ac ac (by decide) (by decide) ((iP (et (aT ⟨bR _,aN ac (dW ac ac (by decide) (by decide) (c6 ⟨ac,aN ac (dW ac ac (by decide) (by decide) ((iP (et (aT ⟨bR _,aN ac (dW ac ac (by decide) (by decide) ((iP (et (aT ⟨bR _,aN ac (dW ac ac (by decide) (by decide) ((iP (nA (aN ac (dW ac ac (by decide) (by decide) ((iP (nA (aN ac (dW ac ac (by decide) (by decide) ((iP (et (aT ⟨bR _,aN ac (dW ac ac (by decide) (by decide) (c6 ⟨ac,q⟩))⟩))):Wp (dY _ _ _) _ ([o0,lA 0,o2,.list cs,.ns [("bank",.ref 7),("unions",.ref 13),("edges",.ref 17),("forest",.ref 18),("known",.ref 19),("above",.ref 20)],.inst "Heap" 4,.ns [("nodes",.ref 8),("numbers",.ref 9),("weights",.ref 10),("depths",.ref 11)],.inst "Bank" 6,.list [],.dict [],.list [],.list [],.ns [("above",.ref 14),("lots",.ref 15),("merged",.ref 16)],.inst "Unions" 12,.list [],.list [],.list [],.list [],.list [],.dict [],.dict []]:af O)))))):Wp (dY _ _ _) _ ([o0,lA 0,o2,.list cs,.ns [("bank",.ref 7),("unions",.ref 13),("edges",.ref 17),("forest",.ref 18),("known",.ref 19)],.inst "Heap" 4,.ns [("nodes",.ref 8),("numbers",.ref 9),("weights",.ref 10),("depths",.ref 11)],.inst "Bank" 6,.list [],.dict [],.list [],.list [],.ns [("above",.ref 14),("lots",.ref 15),("merged",.ref 16)],.inst "Unions" 12,.list [],.list [],.list [],.list [],.list [],.dict []]:af O)))))):Wp (dY _ _ _) _ ([o0,lA 0,o2,.list cs,.ns [("bank",.ref 7),("unions",.ref 13),("edges",.ref 17),("forest",.ref 18)],.inst "Heap" 4,.ns [("nodes",.ref 8),("numbers",.ref 9),("weights",.ref 10),("depths",.ref 11)],.inst "Bank" 6,.list [],.dict [],.list [],.list [],.ns [("above",.ref 14),("lots",.ref 15),("merged",.ref 16)],.inst "Unions" 12,.list [],.list [],.list [],.list [],.list []]:af O)))⟩))):Wp (dY _ _ _) _ ([o0,lA 0,o2,.list cs,.ns [("bank",.ref 7),("unions",.ref 13),("edges",.ref 17)],.inst "Heap" 4,.ns [("nodes",.ref 8),("numbers",.ref 9),("weights",.ref 10),("depths",.ref 11)],.inst "Bank" 6,.list [],.dict [],.list [],.list [],.ns [("above",.ref 14),("lots",.ref 15),("merged",.ref 16)],.inst "Unions" 12,.list [],.list [],.list [],.list []]:af O)))⟩))):Wp (dY _ _ _) _ ([o0,lA 0,o2,.list cs,.ns [("bank",.ref 7),("unions",.ref 13)],.inst "Heap" 4,.ns [("nodes",.ref 8),("numbers",.ref 9),("weights",.ref 10),("depths",.ref 11)],.inst "Bank" 6,.list [],.dict [],.list [],.list [],.ns [("above",.ref 14),("lots",.ref 15),("merged",.ref 16)],.inst "Unions" 12,.list [],.list [],.list []]:af O)))⟩))⟩))):Wp (dY _ _ _) _ ([o0,lA 0,o2,.list cs,.ns [("bank",.ref 7)],.inst "Heap" 4,.ns [("nodes",.ref 8),("numbers",.ref 9),("weights",.ref 10),("depths",.ref 11)],.inst "Bank" 6,.list [],.dict [],.list [],.list [],.ns [("above",.ref 14),("lots",.ref 15)],.inst "Unions" 12,.list [],.list []]:af O)))⟩))):Wp (dY _ _ _) _ ([o0,lA 0,o2,.list cs,.ns [("bank",.ref 7)],.inst "Heap" 4,.ns [("nodes",.ref 8),("numbers",.ref 9),("weights",.ref 10),("depths",.ref 11)],.inst "Bank" 6,.list [],.dict [],.list [],.list [],.ns [("above",.ref 14)],.inst "Unions" 12,.list []]:af O)))⟩))
end
section
variable{g:Gr}{td:af (ag×ag)}{x:St}{s:af O}{la:af ag}{r:ag->ag}{w:af ag}{Q:V->af O->Prop}
theorem MI.ro(I:MI g td x s la r w):RO g r x s:=⟨I.ok,I.h,I.dz,I.U,λc hc hr=>by
 have PJ:la[c]?=ae (la[c]'(by refine az I.F8 ?_;exact hc)):=dq _
 refine jj (I.L c _ hr PJ) λl h1 h2 h3=>?_
 exact⟨_,l,by(refine az I.fU ?_;refine az (gw) ?_;refine az PJ ?_);rfl,(I.vC _ (cw PJ)).1,h1,h2,h3⟩,by(refine az I.fU ?_;rewrite[be];exact I.F8)⟩
theorem RO.e1{s':af O}{k':ag}(R:RO g r x s)(e:E1 s s')(w':We s' k'):RO g r {x with k:=k'} s':=⟨R.ok,Uz R.h e w',R.dz,R.U,λc hc hr=>let⟨a,l,h1,h2,h3,h4,h5⟩:=R.L c hc hr;⟨a,l,h1,h2,e a _ (bZ (lR (lB ac) h2)) h3,h4,h5⟩,R.fU⟩
theorem Qi:(Gr.mk [] []).Ok:=⟨ac,λh=>eP h,fh,bR _⟩
theorem Qj{o0 o2:O}{cs:af aJ}(hl:cs.length<=1000):Lw ⟨[],[]⟩ (St.start o0 o2 (cs.map V.int)) ((St.start o0 o2 (cs.map V.int)).L++[.list []]) [] 22 0:=by
 have h:=bM.push (St.start o0 o2 (cs.map V.int)).L (.list []);have I:MI ⟨[],[]⟩ [] (St.start o0 o2 (cs.map V.int)) ((St.start o0 o2 (cs.map V.int)).L++[.list []]) [] id []:=
  ⟨Qi,h,⟨ac,λh=>by simp at h⟩,⟨ac,by decide,λi hi=>by simp at hi,λ_=>aP _,λ_=>ac⟩,ac,ac,fh,(λ_ h=>by cases h),(λc a _ h=>eP h),(λq _ i=>ac),(λp h=>by cases h),bR _,(λc h=>by simp at h),ac,(λn h=>by cases h),(λp h=>by cases h)⟩
 exact⟨⟨I,⟨λ{i t l} h _=>eP h,λ{v u} h=>(by cases h),bR _,bR _,⟨ac,λv h=>(by cases h)⟩,⟨ac,λv h=>(by cases h)⟩,λ{c c' b} h=>(by cases h)⟩,λ{n t l} h=>(by simp at h),aP 0⟩,⟨h 1 _ ac,cs,h 3 _ ac,hl⟩,⟨gu,λp h=>(by cases h)⟩,by decide,bF _ _,(λt h=>by cases h),(λt h=>by cases h)⟩
theorem Lw.pw{g:Gr}{x:St}{s:af O}{la:af ag}{ta k:ag}(W:Lw g x s la ta k)(h1:1<=g.T.length):Pw g x (s++[.list []]) la id [] ta s.length k [] where
 I:=W.b.I.ext (bM.push s _)
 C:=W.b.C
 T:=λp h=>(gu h).elim
 we:=W.we.ext (bM.push s _)
 pt:=W.p
 pp:=W.b.I.fresh (aP _)
 ne:=b8 (bq.mp W.at_).1
 zr:=W.zr
 MD:=MX W.b.I.h
 at_:=bM.push s _ _ _ W.at_
 ap:=bF s _
 ht:=W.ht
 op:=W.op
 pos:=h1
 mem:=λp h=>(gu h).elim
 mf:=by
  have j1:=W.b.P
  have j2:=W.b.I.ok.small
  exact lT j1 (eY (tB (mL j2) ac))
 mu:=by
  have Qr:=W.b.I.ok.small
  rw[Ik]
  exact bL (mL Qr)
theorem II{g:Gr}{x:St}{s:af O}{la:af ag}{r:ag->ag}{w:af ag}{ta pa k:ag}{ps:af (Tm×Tm)}{m:Env}(p:Pw g x s la r w ta pa k ps)(E:E9 m ta pa)(PO:ps.length<=10)(hk:k<=700):Wp (dY (run prog 188) (vO.body.drop 5) m) (λr _=>yZ r.1=.bool aj) s:=by
 have h:=p.I.h;have ok:=p.I.ok;refine fE (kd E.heap (h _ _ ac) (h _ _ ac) ac (aT (Mx p.I p.C (by have j1:=p.mf;exact tB (lT j1 (bL PO)) ac) (by have j2:=p.mu;exact tB j2 ac) (by decide) λx1 s1 r1 I1 C1 S1=>⟨bp,fB (D2 I1 C1 λq hq=>S1.co _ _ (p.T q hq)) λH G=>?_⟩)));have t1:=S1.kp ta _ (.inr p.zr) p.pt p.at_;have w1:=p.we.kp p.I S1.kp;refine c8 (fT (aH (aN E.ie (aH (aN E.pairs (aT (Mp ok p.UG (oD I1.h) t1.2 (S1.kp pa _ (.inr p.MD) p.pp p.ap).2 p.mem (tB PO ac) (by decide) λs2 ha h2 e2 a2 H2 G2=>?_)))))));have hr:h2=r1:=Ge H2 G2 H G;subst hr;have R2:=I1.ro.mono e2;have w2:=w1.ext e2;refine c8 (UP ok H.le H.ji a2 ac ?_);have e3:=bM.push s2 (.list (nats (cC g h2)));refine c8 (UQ (r:=h2) ok p.UG (oD (R2.mono e3).h) (e3 _ _ (e2 _ _ t1.2)) (e3 _ _ a2) E.ie ac (by decide) λs4 ea e4 l4 a4=>?_);have e34:=e3.trans e4;have w4:=w2.ext e34;have aaM:=e4 _ _ (bF s2 (.list (nats (cC g h2))));have b2:=MX R2.h;refine c8 (Gu w4 (tB hk ac) E.well (by decide) λs5 qs k5 qa e5 w5 q4 a5 q1 q2 hq=>?_);have R5:=(R2.mono e34).e1 e5 w5;have ea1:ea≠1:=by exact nE (lT (eY b2) (ct▸l4)) ac
 have a4':=e5 _ _ ea1 a4;refine c8 (Qf (oD R5.h) hq q2 a5 ac (by decide) λs6 na zs e6 N a6=>c8 (et (aT ⟨bR _,?_⟩)));have e7:=e6.trans (bM.push s6 (.list []));have am:=bq.mp a6;refine jh (eS (fT (aH (aN ac (aH (aN ac (aT (Ml (C:=cC g h2) (zs:=zs) (oD (R5.mono e7).h) (oH ok) (by have j3:=N.DL;exact tB j3 ac) (bM.push _ _ _ _ a6) (e7 _ _ (e5 _ _ (bZ (lR (lB ac) b2)) aaM)) (by decide) λs8 ra rs e8 l8 a8 al8=>⟨ra,_,ac,a8,?_⟩))))))));have tab:tabs (cC g h2) zs [[]]=asg (cC g h2) zs:=by refine(Qa zs [[]] N.once λτ rT z _ hz=>by replace hz:=(bX.mp rT)▸hz;cases hz).trans ?_;simp
 replace al8:=tab▸al8;have X3:(asg (cC g h2) zs).length<=25:=by have a:=KI (C:=cC g h2) zs;have b:(cC g h2).length^zs.length<=5^2:=lT (UM (oH ok) _) (jy (by decide) N.DL);exact lT ‹_› ‹_›
 have d8:=e8 _ _ (bF s6 (.list []));have lq:=(bq.mp (e6 _ _ a5)).1;replace l8:=ct▸l8;refine Qg (C:=cC g h2) (es:=dictOf (Qv g h2)) (ps:=qs) (zs:=zs) (da:=s6.length) (pa:=qa) (na:=na) (ea:=ea) (n:=168) (UO ok H.le H.ji G) hq q2 N (oD ((R5.mono e7).mono e8).h) (by have j4:=MX (R5.mono e6).h;exact nE j4 ac) a8 ((e7.trans e8) _ _ a5) (e8 _ _ (bM.push _ _ _ _ a6)) ((e7.trans e8) _ _ a4') (bZ ‹_›) (by exact b8 ‹_›) (by have:=am.1;exact b8 ‹_›) (by decide) _ rs _ s8 [] al8 (λτ rT=>vF N.once rT) (Fa.refl _ _) d8 (by exact tB (bL X3) ac) ⟨E.heap,ac,ac,ac,ac⟩ λm9 s9 E9' f9 a9=>?_;have e69:bM s6 s9:=λb o e=>f9.ne (e8 _ _ (bM.push _ _ _ _ e)) (by have:=(bq.mp e).1;exact b8 ‹_›);exact X2 (Q:=λv _=>v=.bool aj) (n:=188) ((R5.mono e6).mono e69) G2 N hq q1 q2 (e69 _ _ (e6 _ _ a5)) a9 E9' (by decide) λ_=>ac
theorem X4{ns:af aJ}(hn:ns.length<=63):Wp ((run prog 190).cl "" "law" [.ref 0]) (λv _=>v=.bool aj) [.list (ns.map V.int)]:=by
 refine cN (pf:=vO) ac ac (c8 (UT (gQ (zz (eS (vy (aN ac (cS (zq (k:=63) ac (by decide) (by rw[be];exact tB hn ac) ⟨2,(ns.map V.int).take 63,ac,ac,az (JO (by rw[be];exact hn))<|IG (n:=181) ns [] (by exact tB (bL hn) ac) λcs Yr=>gQ (cS ⟨ac,by simp,ac,ac,?_⟩)⟩)))))))));simp at Yr;refine uN (eN (aH (Gv (n:=147) (aH (et (aT ⟨bR _,aT (bx ⟨ac,?_⟩)⟩))))));have W:=Qj (o0:=.list (ns.map V.int)) (o2:=.list (ns.map V.int)) (cs:=cs) (Yr▸tB hn ac);refine jh (rN (gh (cS (fT (aH (aN ac (aH (cS (aT (ik (many:=4) W.we (by decide) (by decide) (by decide) (by decide) λj s1 hj e1 _ w1=>pP ac (fJ (bz (lR hj (lB ac)))) ⟨_,ac,F4 (by decide) (by decide) (bz (lR hj (lB ac))),?_⟩))))))))));have lj:((c5 ((2:aJ)+j).toNat).map λ(k:ag)=>V.int k).length=2+j:=by rewrite[be];refine az lP ?_;trivial
 refine UE (n:=188) (by decide) _ _ s1 _ _ _ 22 _ (W.e1 e1 w1) ⟨ac,ac,ac⟩ (by refine az lj ?_;show 0+_<=_;exact bL (bL (b9 hj))) (by refine az lj ?_;exact tB (aE (aR (aP _)) (mL (bL (b9 hj)))) ac) (λq=>by have q:((c5 ((2:aJ)+j).toNat).map λ(k:ag)=>V.int k)=[]:=q;replace lj:=q▸lj;exact aV lj (b8 (rU j (lB ac)))) λm2 s2 g2 x2 la2 ta2 k2 W2 E2 p2 Ui=>?_;replace Ui:=lj▸Ui;refine c8 (et (aT ⟨bR _,?_⟩));have P2:=W2.pw p2;refine jh (rN (fT (aH (aN E2.well (aH (cS (aT (ik (many:=3) P2.we (tB (lT Ui (aE (aR (aP _)) (mL (bL (b9 hj))))) ac) (by decide) (by decide) (by decide) λi s3 hi e3 _ w3=>⟨_,ac,fJ (bz (lR hi (lB ac))),?_⟩))))))));have P3:Pw g2 {x2 with k:=k2+1} s3 la2 id [] ta2 s2.length (k2+1) []:=
  {P2 with I:=P2.I.move ac ac ac ac ac ac (Uz P2.I.h e3 w3) (λb o hb _ e=>e3 _ _ (bZ (lR (lB ac) hb)) e) (e3.len P2.we w3),we:=w3,pt:=⟨P2.pt.la,P2.pt.ab⟩,pp:=⟨P2.pp.la,P2.pp.ab⟩,at_:=e3 _ _ (by have j1:=P2.zr;exact bZ (lR (lB ac) j1)) P2.at_,ap:=e3 _ _ (by have j2:=P2.MD;exact bZ (lR (lB ac) j2)) P2.ap}
 exact az (vq i)<|P8 (by decide) (c5 i) _ s3 _ id [] _ [] P3 ⟨E2.well,E2.heap,E2.ie,ac⟩ (λj hj=>by have j3:=jO.mp hj;exact tL (b9 (lR j3 (b9 hi))) ac) (by exact az lP (tB (bL (b9 hi)) ac)) (by simp;lia) λm4 s4 x4 r4 w4 k4 ps4 P4 E4 l4 hk4=>II P4 E4 l4 (by simp at hk4;lia)
end
theorem IO:gF.Holds:=L9 190 (aP _) λns h=>by exact lC (X4 h) λa st' e q=>⟨st',by(refine az e ?_;refine az q ?_;rfl)⟩
end
end Mine.Internal
end
theorem PySem.Challenge.cw_pq0062_01_holds : PySem.Challenge.rw_pq0062_01.Holds :=
 Mine.Internal.IO
