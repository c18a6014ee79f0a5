import PyProof.Rows.All
import Wide.All
import OpenK.AllK
import Wide.FinOn
import PySem.Challenge.RW_pq0129_01
open PySem PySem.W PySem.Calls PyProof.Rows
open _root_.PySem renaming Value->aF,wpAny_pure->aG,Str->aI,Shared->aK,Expr->aT,model->aU,wpAny->aY,World->aZ,eval->bc,Params->bh,Env->bI,Program->cx,wpAny_mono->cC,wpAny_bind->cD,Stmt->cG,Heap->cL,Around->cQ,Obj->cY,call->dR,wpAny_holding->dU,SetTable->fc,isTrue->fe,mainGlobals->fw,rawInt->fy,cLine->fA,compareOp->fJ,OsState->fT,Sem->fU,IsPair->gC,Addr->hJ,ret->ij,behindInMarks->i7,foldedSetIterable->ji,wpAny_call_entry->jj,Scope->jH,step->jI,wpAny_rule->jZ,treeTable->j0,exec->j3,starEach->kF,bindArgs->kG,typeOf->kH,backTo->kI,IsZip->kJ,BoolOp->lr,wpAny_setState_of->lS,wpAny_standAt->lV,wpAny_newObj_type->mM,binaryOp->mS,standAt->mU,execs->mV,strKind->nH,codeAny->nK,fresh->nM,wpAny_seqItems->oW,Shared->oY,wpAny_field->o6,spliced->o7,holding->o9,wpAny_setField_rec->pY,swapsWith->qd,pyNext->qe,Pos->qg,pyIter->rE,wpAny_callSpecial?_slot->sY,callWith->tc,wpAny_truthy_bool->vB,wpAny_isInstance->vD,wpAny_ite_split->vG,codeAny_builtin->vH,bootBuiltins->vM,assign->vO,Slot->vP,wpAny_dictEntries->xx,wpAny_forIn_list->xB,wpAny_specialOf->xD,swappedStores->xF,wpAny->xG,codeAny_mono->xH,wpAny_of_eq->xJ,NameKind->xN,Draws->xP,evalPart_none_step->Ag,wpAny_askSetting->Al,letOwnedTupleGo->Ao,swapsWithSole->Au,plainId_quiet->Av,builtinsNs->AB,sizeLine->AD,UnaryOp->AF,CmpOp->AG,wpAny_notOrdered_dict->Dv,wpAny_tupleItemsOf->DA,wpAny_dictEpoch->DH,wpAny_attempt->DI,Comprehension->DJ,wpAny_typeOf->DK,sizeLine_eq->DO,Sem->DP,sysModules->DQ,call_meets->DR,slicePick->DT,cellsFrom->DU,DictEntry->DV,relayAll->DW,getItem->DX,dictSet->DY,dictGet->DZ,wpAny_typeNameOfWhole_keyiter->H6,wpAny_typeNameOf_keyiter->H9,wpAny_pyIter_tuple->Iv,wpAny_Constant_int->Iw,wpAny_storeSet_of->IB,wpAny_loadPart'->IG,wpAny_execs_nil->IH,importedModules->II,wpAny_setField->IJ,letTemporaryGo->IK,isSubtype_stop->IL,Around->IM,Value->IX,Model->IY,assignEach->Ja,compStart->Jc,raiseNew->Je,entryFor->Jf,contains->Jg,compTurn->Jh,compPost->Ji,getAttr->Jk,stored->Jl,argsOk->Jm,table->Jo,field->Jp,wpAny_pyNext_list_item->Rj,wpAny_pyNext_list_end->Rk,isSubtype_tuple_tuple->Rl,wpAny_updateDictKeys->Rt,slot_dict_contains->RG,evalPart_some_step->RH,wpAny_pyIter_slot->RK,wpAny_pyIter_list->RL,slot_dict_getitem->RM,getMethod_builtin->RN,noFill_tuple_add->RQ,codeAny_of_tree->RU,wpAny_newTuple->RY,wpAny_fieldsOf->RZ,firstArgMember->R4,dictSetDefault->R5,wpAny_onRaise->Sa,wpAny_newList->Sb,wpAny_handled->Sd,seq_tuple_add->Se,comprehension->Sf,concat_meets->Si,wpAny_throw->Sl,wpAny_letGo->Sm,wpAny_Slice->Sn,subscripted->So,sliceBounds->Sq,hashByValue->Sr,wpAny_call->Sw,reduceHash->Sx,isInstance->Sy,seqIndex?->SA,plainKind->SD,storeSet->SG,Operator->SH,setItem->SI,operate->SJ,wpAny_richCompare_same_room->afP,codeAny_compStart_list->age,wpAny_isOneOf_keyiter->agk,wpAny_updateSeq_pair->agu,codeAny_forLoop_any->agG,wpAny_sequenceKey->agQ,wpAny_pyIter_enum->agR,wpAny_dictFind_of->agS,slot_list_getitem->agT,slot_dict_setitem->agU,ofAClassStatement->agV,eqIsQuiet_byValue->agW,wpAny_setScan_of->ag6,wpAny_pyIter_zip->ag7,entryFor_of_tree->ag8,call->ag9,wpAny_updateSeq->ahf,theTreesLotGoes->ahg,Fin->ahh,wpAny_runValue->ahl,recursionLimit->ahm,placesWithHash->ahn,entryFor_alias->aho,call_list_seq->aht,assignInOrder->ahu
open _root_.Nat renaming le_of_ble_eq_true->aL,lt_of_lt_of_le->bj,le_refl->bq,lt_of_le_of_lt->br,le_of_lt->bF,le_trans->bG,zero_le->cF,ne_of_lt->cV,lt_trans->df,le_add_right->dE,ble_eq->dF,le_of_eq->e9,lt_succ_self->f9,ble->g9,le_add_left->ie,lt_irrefl->i6,succ_pos->i8,casesOn->jo,beq->jF,ne_of_gt->jY,le_succ->kE,lt_add_left->lp,succ_le_succ->mO,le_of_lt_succ->nE,not_lt_zero->nG,le_add_left_of_le->oR,lt_succ_of_lt->oS,zero_add->oZ,mul_le_mul_right->pX,strongRecOn->p8,add_comm->rC,exists_eq_add_one_of_ne_zero->sU,le_of_not_lt->sZ,le_antisymm->s7,add_le_add_left->vu,add_le_add->vJ,succ_lt_succ->xA,zero_lt_one->xC,add_assoc->xE,lt_succ_iff_lt_or_eq->zY,add_le_add_right->Aa,lt_succ_of_le->Ai,le_succ_of_le->Aj,succ_mul->Ax,lt_or_ge->Ay,le_of_succ_le_succ->Dt,not_succ_le_zero->Dw,lt_of_lt_of_eq->Dy,zero_lt_succ->DD,succ_ne_self->DE,add_mul->DL,lt_of_le_of_ne->Im,lt_of_succ_lt->Ir,min_le_left->IF,sub_self->IT,one_mul->I4,mul_pos->I5,mul_one->I6,sub_le->I7,mod_lt->I8,lt_add_of_pos_right->Q7,le_mul_of_pos_right->Q8,le_mul_of_pos_left->Ra,eq_of_beq_eq_true->Rh,sub_lt_sub_left->Rm,succ_ne_zero->RI,mul_le_mul->RT,mul_assoc->RW,zero_mul->R6,add_zero->R7,not_lt->Sk,blt->SF,lt_of_succ_lt_succ->afU,succ_lt_succ_iff->af8,zero_lt_of_lt->agp,lt_trichotomy->agq,not_le_of_lt->agx,min_eq_right->agy,max_eq_right->agz,lt_of_not_le->agA,lt_add_right->agB,min_eq_left->agI,max_eq_left->agJ,succ_add->aha,min_self->ahb,le_total->ahc,le_zero->ahk,not_le->ahq
open _root_.List renaming length_map->aN,mem_cons_self->aR,mem_map->bt,mem_append_right->bC,length_append->bD,mem_cons_of_mem->bK,append_nil->bN,range->bS,mem_singleton->bU,append_assoc->bW,perm_append_comm->b6,casesOn->b7,mem_cons->cg,mem_append->cw,map_append->cy,mem_append_left->de,map_map->dQ,mem_range->dT,mem_of_getElem?->e8,map_eq_nil_iff->f6,all_eq_true->f7,getElem?_eq_getElem->gy,perm_iff_count->gz,nodup_append->gA,count_append->gB,mem_map_of_mem->gK,map_congr_left->gL,mem_filter->gM,mem_singleton_self->iB,getElem?_eq_some_iff->iQ,length_range->iR,nodup_cons->iZ,getElem?_map->jh,map_cons->jk,pairwise_map->jX,lookup_cons->lj,count_cons->ll,perm_middle->lT,length_cons->lU,mem_flatMap->mN,getElem?_eq_none->nD,sum_append->nF,mem_iff_getElem?->oP,replicate->oV,length_singleton->pW,map_id->qb,not_mem_nil->rj,filter_cons->rq,eq_nil_of_length_eq_zero->vn,perm_cons_erase->vt,count_nil->vI,sum_cons->vK,getElem?_append_left->xt,pairwise_cons->xu,findIdx?_cons->xw,length->xI,tail->xM,getD_eq_getElem?_getD->zX,take_of_length_le->z7,length_eq_one_iff->z8,mem_erase_of_ne->z9,getElem_of_mem->Ac,getElem?_range->Ad,flatMap_cons->Ah,nodup_range->Ak,length_nil->Am,find?_cons->An,lookup->Az,getElem?_append_right->Dn,drop_eq_getElem_cons->Dq,length_filter_le->Du,flatMap_append->Dx,ext_getElem?->Dz,exists_cons_of_length_eq_add_one->H5,findIdx?_eq_none_iff->H7,ext_getElem->Iy,any_eq_true->Iz,range_succ->IC,forIn_cons->ID,findIdx?_eq_some_iff_getElem->QU,getElem?_concat_length->QY,perm_ext_iff_of_nodup->QZ,perm_append_singleton->Q0,getElem?_zip_eq_some->Q2,length_erase_of_mem->Q4,length_eq_zero_iff->Q6,filter_eq_nil_iff->Q9,take_append_drop->Rd,getElem?_toArray->Rf,contains_iff_mem->Rg,mem_filterMap->Rn,lookup_append->Ro,getElem_range->Rq,filter_append->Rr,size_toArray->Ru,reverse_perm->Rw,mem_range'_1->Rx,length_take->RA,length_drop->RB,getElem_map->RE,drop_length->RF,countP_eq_length_filter->afy,length_eraseIdx_of_lt->afH,pairwise_iff_getElem->afK,mem_of_find?_eq_some->afL,length_pos_of_mem->afQ,head?_eq_getElem?->afR,lookup_cons_self->afV,findIdx?_toArray->afW,eq_nil_or_concat->afX,concat_eq_append->afY,pairwise_append->af4,getElem?_modify->af5,getElem?_mapIdx->af6,append_of_mem->agc,find?_append->agi,any_eq_false->agj,mem_toArray->agr,mem_reverse->ags,getElem_mem->agt,foldl_cons->agC,find?_some->agD,toArray->ag4,range'->ahd,not_lt->ahe,sum->ahw,map->ahx
open _root_.Bool renaming and_eq_true_iff->bM,false_ne_true->fH,eq_false_iff->mL,not_eq_true'->p7,noConfusion->rA,and_eq_true->xy,or_true->Aw,or_eq_true->DF,or_eq_true_iff->Ie,or_eq_false_iff->af7,eq_iff_iff->agE,true_and->agP,true->ai,false->aD
open _root_.Option.some renaming inj->bR,injEq->Ib
open _root_.List.cons renaming inj->cq
open _root_.PySem.Heap renaming get?_push_of_some->cB,lt_size->dW,get?_push_size->eG,get?_update_other->mK,size_push->mQ,SameBut->s9,get?_update_self->vo,ExtBut->R9,IsTuple->agY
open _root_.PySem.W renaming Frag->cJ,next->dB,inst->eB,lookup->gc,nsIn->hH,dictOf->jG,keepIn->lX,topFrame->mT,same->qf,boot_heap->ta,SharedT->td,findIn->th,piecesOf->vN,topRun->xO,putL->xQ,hasDictIn->Jd,plainGet->Jj,Looks->Jq,plainGet_of->Ss,instObj->SK
open _root_.PySem.Value renaming type->cS,ref->xK,none->DN,isStr->IV,isStrOf_shape->afZ
open _root_.Array renaming length_toList->fh,getElem?_toList->jW,getD->rD,getElem?_eq_some_iff->sX,getElem?_eq_none->z6,toList_push->Af,getElem?_eq_getElem->Dp,toList_append->Ic,forIn_toList->Ij,getD_eq_getD_getElem?->QX,mem_toList_iff->Ri,toList_inj->Rz,toList_eraseIdxIfInBounds->afr,getElem?_setIfInBounds_ne->afs,isEmpty_iff_size_eq_zero->aft,size_map->agF
open _root_.PySem.SetTable renaming below->fS,bits->mR,Probe->oU,insertAt->pZ,grown->p9,sizeAbove->vA,runEnd->vC,insertAt_perm->H8,fits->RJ,layClean->afS,tooFull->af0,advance->af1,turns->aga,fresh->agb,slot->agf,leap->agg,laid->agh,has->agl
open _root_.Lean renaming Syntax->g8,mkIdent->IQ,Name->ahr
open _root_.Nat.succ renaming inj->iC
open _root_.Prod renaming ext->jq,snd->lW,fst->DS,ext_iff->RX
open _root_.PySem.F renaming slot_list_append->lQ,slot_dict_get->pV,called_set->vL,slot_dict_setdefault->zW,slot_dict_keyiterator_next->Dl,slot_list_extend->Dr,slot_list_pop->Ds,slot_tuple_hash->DC,slot_zip_next->Ia,slot_tuple_getattribute->QV,args_tuple_add_2->Q1,entry_tuple_add->Q3,slot_tuple_add->Q5,slot_tuple_eq->RS,args_dict_keyiterator_next_1->afA,slot_dict_items->afE,entry_dict_keyiterator_next->afF,args_zip_next_1->afG,entry_zip_next->afI,entry_list_pop->afJ,slot_dict_pop->afM,slot_dict_iter->agL,slot_tuple_lt->agZ,slot_set_iter->ag0
open _root_.Option renaming map_eq_some_iff->lR,isSome_iff_exists->mJ,bind_eq_some_iff->zZ,map->DM,map_some->IA,isNone_iff_eq_none->afC,map_eq_none_iff->afN,or_none->agn,map_map->ago,isSome->agw,some->af,none->ah
open _root_.PyProof.Rows renaming IsTupIter->nI,seqObj->rF,tail_any->AE,slot_tupleiter_next->Ip,subscriptTail->IZ,mirror_perm->I9,Subscript_->Jb,mirror->Jn,IsTup->Jr,IntsAre->SM,entry_tupleiter_next->agv,args_tupleiter_next->agH,slot_tuple_getitem->agN,assignInOrder_cons->agO,assignInOrder_nil->ag3,next_tuple_item->ahi,get?_update_seq->ahj,next_tuple_end->ahp,listUpdate_at->ahv,getItem_tuple->aik
open _root_.Ne renaming symm->nJ
open _root_.PySem.Str renaming ofString->qa
open _root_.PySem.Obj renaming mapSeq->qc,putSet->AA,data_mapFields->Ik,mapDictKeys->RO,cls->SE,isFreed_of_fields->af2,cls_mapFields->agm,mapFields->agX
open _root_.PySem.NameKind renaming free->rB,cell->Aq
open _root_.List.Nodup renaming length_le_of_subset->sV,sublist->afO,mem_erase_iff->aip
open _root_.PySem.Heap.SameBut renaming update->vq,refl->Rc
open _root_.PyProof.Rows.KeyOrd renaming kle_refl->vE,kle_of_klt->Il,kle_trans->Iq,kle_antisymm->afT
open _root_.List.Perm renaming swap->vF,of_eq->It,cons->Ry,eq_of_pairwise->aiq
open _root_.Classical renaming byContradiction->xp,epsilon->Ii,epsilon_spec->afD
open _root_.PySem.SetTable.below renaming go->Ab
open _root_.Int.ofNat renaming inj->Ap
open _root_.PySem.W.Looks renaming of_pure->As
open _root_.PySem.W.Fast renaming tw14364793385576792824->Dj,te14364793385576792824->Dk,tw15667345088766844465->ah6,tw14374325043358763698->ah7,tw14082659384304107361->ah8,tw11892475500146522536->ah9,tw10110043849684766642->aia,te15667345088766844465->aib,te14374325043358763698->aic,te14082659384304107361->aid,te11892475500146522536->aie,te10110043849684766642->aif
open _root_.PySem.Builtin.Tuple renaming tupleHashOf->Dm,tupleItemsOf->ahY
open _root_.Int renaming toNat_natCast->DB,natCast_nonneg->Io,ofNat_lt->IU,ofNat_le->R8,ofNat_inj->ag5,not_lt->ahs
open _root_.PySem.PyData renaming keyHash->DG
open _root_.ForInStep renaming yield->Iu
open _root_.PySem.Value.ref renaming inj->IE
open _root_.PySem.Txt renaming contains->IS,isspace->I3,charAt->Sj,slice->Sv,item->Sz
open _root_.And renaming intro->I',right->ahz
open _root_.PySem.Challenge renaming rw_pq0129_01->QT,pw_pq0129_01->ahX
open _root_.PySem.SetTable.layClean renaming free->QW
open _root_.PySem.Shared renaming TypeIs->RP,heap->agK
open _root_.Prod.mk renaming inj->RV
open _root_.PySem.Draws renaming list->Sg
open _root_.PySem.Builtin.SmallTypes renaming nextOf->afm,calledThroughType->ahS
open _root_.PySem.Builtin.List renaming listFitsIndex->afn,listSameRef->afq,listTooLong->aih,listLengthHint->aii,listExtendWith->aij
open _root_.List.Pairwise renaming imp_of_mem->afo,sublist->afu,imp₂->ah2,imp->ah3,filterMap->ah4,and->ah5
open _root_.Lean.Macro renaming throwUnsupported->afp
open _root_.Decidable renaming byContradiction->afv
open _root_.PySem.Builtin.Dict renaming showsAll->afw,takeOut->afx
open _root_.PySem.SetTable.probe renaming go->afz
open _root_.PySem.Calls renaming Name_function_global->afB
open _root_.PyProof.Rows.F renaming entry_set_update_loop->af3
open _root_.PySem.Value.int renaming inj->af9
open _root_.PySem.pickOrder renaming go->agd
open _root_.PySem.Code renaming compLoop->agM,builtin->ag2
open _root_.PySem.Expr renaming casesOn->ag1
open _root_.Iff renaming trans->ahy
open _root_.PySem.Builtin.Frozenset renaming updateFrom->ahT,slot0->ahU,sizeOf->ahV,newClass->ahW
open _root_.PySem.Builtin.Range renaming small->ahZ,rangeSize->ah0,rangeFitsLong->ah1
open _root_.List.Sublist renaming map->ail
open _root_.PySem.SeqAt renaming notIn_tupleAt->aim
open _root_.Lean.Syntax renaming node->ain,atom->aio
open _root_ renaming Nat->aa,List->ag,autoParam->aB,congrArg->aO,if_neg->aX,if_pos->a0,bool->bf,Int->bp,Bool->bw,absurd->bA,Inv->bJ,Array->b9,trivial->cZ,decide_eq_true->c7,False->dv,decide_eq_false->dS,Option->d6,of_decide_eq_true->gD,Add->ik,True->iD,cond->iS,beq_self_eq_true->jr,Unit->kK,String->nN,funext->vQ,if_true->xR,decide_eq_true_eq->AH,beq_iff_eq->D0,not_or->D3,of_decide_eq_false->D4,if_false->Js,Decidable->SN,DecidableEq->SO,beq_eq_false_iff_ne->SQ,or_false->SR,and_congr_right->ahA
set_option Elab.async false
set_option linter.all false
set_option maxRecDepth 100000
set_option bootstrap.genMatcherCode false
set_option compiler.extract_closed false
set_option genSizeOf false
set_option tactic.hygienic false
namespace Mine
noncomputable section
local macro_rules (kind:=Lean.Parser.Command.declaration)|s=>if s.getPos?.isNone then afp else return s.rewriteBottomUp (·.setInfo .none)
section
universe u v w x y z
def bx{p q:Prop}{G:Prop}(h:p/\q)(k:p->q->G):G:=k h.1 h.2
def gf{p q r:Prop}{G:Prop}(h:p/\q/\r)(k:p->q->r->G):G:=k h.1 h.2.1 h.2.2
def il{p q r s:Prop}{G:Prop}(h:p/\q/\r/\s)(k:p->q->r->s->G):G:=k h.1 h.2.1 h.2.2.1 h.2.2.2
def kM{p q r s t:Prop}{G:Prop}(h:p/\q/\r/\s/\t)(k:p->q->r->s->t->G):G:=k h.1 h.2.1 h.2.2.1 h.2.2.2.1 h.2.2.2.2
def D5{p q r s t m:Prop}{G:Prop}(h:p/\q/\r/\s/\t/\m)(k:p->q->r->s->t->m->G):G:=k h.1 h.2.1 h.2.2.1 h.2.2.2.1 h.2.2.2.2.1 h.2.2.2.2.2
def D6{p q r s t m n o:Prop}{G:Prop}(h:p/\q/\r/\s/\t/\m/\n/\o)(k:p->q->r->s->t->m->n->o->G):G:=k h.1 h.2.1 h.2.2.1 h.2.2.2.1 h.2.2.2.2.1 h.2.2.2.2.2.1 h.2.2.2.2.2.2.1 h.2.2.2.2.2.2.2
def dh{A:Sort u}{p:A->Prop}{G:Prop}(h:∃a,p a)(k:∀a,p a->G):G:=h.elim k
def aq{A:Sort u}{p q:A->Prop}{G:Prop}(h:∃a,p a/\q a)(k:∀a,p a->q a->G):G:=h.elim λa h=>bx h (k a)
def bL{A:Sort u}{p q r:A->Prop}{G:Prop}(h:∃a,p a/\q a/\r a)(k:∀a,p a->q a->r a->G):G:=h.elim λa h=>gf h (k a)
def rG{A:Sort u}{p q r s:A->Prop}{G:Prop}(h:∃a,p a/\q a/\r a/\s a)(k:∀a,p a->q a->r a->s a->G):G:=h.elim λa h=>il h (k a)
def SS{A:Sort u}{p q r s t:A->Prop}{G:Prop}(h:∃a,p a/\q a/\r a/\s a/\t a)(k:∀a,p a->q a->r a->s a->t a->G):G:=h.elim λa h=>kM h (k a)
def SU{A:Sort u}{p q r s t m:A->Prop}{G:Prop}(h:∃a,p a/\q a/\r a/\s a/\t a/\m a)(k:∀a,p a->q a->r a->s a->t a->m a->G):G:=h.elim λa h=>D5 h (k a)
def D7{A:Sort u}{p q r s t m n o:A->Prop}{G:Prop}(h:∃a,p a/\q a/\r a/\s a/\t a/\m a/\n a/\o a)(k:∀a,p a->q a->r a->s a->t a->m a->n a->o a->G):G:=h.elim λa h=>D6 h (k a)
def qh{A:Sort u}{B:Sort v}{p:A->B->Prop}{G:Prop}(h:∃a b,p a b)(k:∀a b,p a b->G):G:=h.elim λa h=>dh h (k a)
def eR{A:Sort u}{B:Sort v}{p q:A->B->Prop}{G:Prop}(h:∃a b,p a b/\q a b)(k:∀a b,p a b->q a b->G):G:=h.elim λa h=>aq h (k a)
def ba{A:Sort u}{B:Sort v}{p q r:A->B->Prop}{G:Prop}(h:∃a b,p a b/\q a b/\r a b)(k:∀a b,p a b->q a b->r a b->G):G:=h.elim λa h=>bL h (k a)
def fV{A:Sort u}{B:Sort v}{p q r s:A->B->Prop}{G:Prop}(h:∃a b,p a b/\q a b/\r a b/\s a b)(k:∀a b,p a b->q a b->r a b->s a b->G):G:=h.elim λa h=>rG h (k a)
def j4{A:Sort u}{B:Sort v}{p q r s t:A->B->Prop}{G:Prop}(h:∃a b,p a b/\q a b/\r a b/\s a b/\t a b)(k:∀a b,p a b->q a b->r a b->s a b->t a b->G):G:=h.elim λa h=>SS h (k a)
def SV{A:Sort u}{B:Sort v}{p q r s t m:A->B->Prop}{G:Prop}(h:∃a b,p a b/\q a b/\r a b/\s a b/\t a b/\m a b)(k:∀a b,p a b->q a b->r a b->s a b->t a b->m a b->G):G:=h.elim λa h=>SU h (k a)
def SW{A:Sort u}{B:Sort v}{p q r s t m n o:A->B->Prop}{G:Prop}(h:∃a b,p a b/\q a b/\r a b/\s a b/\t a b/\m a b/\n a b/\o a b)(k:∀a b,p a b->q a b->r a b->s a b->t a b->m a b->n a b->o a b->G):G:=h.elim λa h=>D7 h (k a)
def xS{A:Sort u}{B:Sort v}{C:Sort w}{p:A->B->C->Prop}{G:Prop}(h:∃a b c,p a b c)(k:∀a b c,p a b c->G):G:=h.elim λa h=>qh h (k a)
def gN{A:Sort u}{B:Sort v}{C:Sort w}{p q:A->B->C->Prop}{G:Prop}(h:∃a b c,p a b c/\q a b c)(k:∀a b c,p a b c->q a b c->G):G:=h.elim λa h=>eR h (k a)
def fX{A:Sort u}{B:Sort v}{C:Sort w}{p q r:A->B->C->Prop}{G:Prop}(h:∃a b c,p a b c/\q a b c/\r a b c)(k:∀a b c,p a b c->q a b c->r a b c->G):G:=h.elim λa h=>ba h (k a)
def eS{A:Sort u}{B:Sort v}{C:Sort w}{p q r s:A->B->C->Prop}{G:Prop}(h:∃a b c,p a b c/\q a b c/\r a b c/\s a b c)(k:∀a b c,p a b c->q a b c->r a b c->s a b c->G):G:=h.elim λa h=>fV h (k a)
def xT{A:Sort u}{B:Sort v}{C:Sort w}{p q r s t:A->B->C->Prop}{G:Prop}(h:∃a b c,p a b c/\q a b c/\r a b c/\s a b c/\t a b c)(k:∀a b c,p a b c->q a b c->r a b c->s a b c->t a b c->G):G:=h.elim λa h=>j4 h (k a)
def Jt{A:Sort u}{B:Sort v}{C:Sort w}{p q r s t m:A->B->C->Prop}{G:Prop}(h:∃a b c,p a b c/\q a b c/\r a b c/\s a b c/\t a b c/\m a b c)(k:∀a b c,p a b c->q a b c->r a b c->s a b c->t a b c->m a b c->G):G:=h.elim λa h=>SV h (k a)
def SX{A:Sort u}{B:Sort v}{C:Sort w}{D:Sort x}{p q:A->B->C->D->Prop}{G:Prop}(h:∃a b c d,p a b c d/\q a b c d)(k:∀a b c d,p a b c d->q a b c d->G):G:=h.elim λa h=>gN h (k a)
def vR{A:Sort u}{B:Sort v}{C:Sort w}{D:Sort x}{p q r:A->B->C->D->Prop}{G:Prop}(h:∃a b c d,p a b c d/\q a b c d/\r a b c d)(k:∀a b c d,p a b c d->q a b c d->r a b c d->G):G:=h.elim λa h=>fX h (k a)
def pb{A:Sort u}{B:Sort v}{C:Sort w}{D:Sort x}{p q r s:A->B->C->D->Prop}{G:Prop}(h:∃a b c d,p a b c d/\q a b c d/\r a b c d/\s a b c d)(k:∀a b c d,p a b c d->q a b c d->r a b c d->s a b c d->G):G:=h.elim λa h=>eS h (k a)
def D8{A:Sort u}{B:Sort v}{C:Sort w}{D:Sort x}{p q r s t:A->B->C->D->Prop}{G:Prop}(h:∃a b c d,p a b c d/\q a b c d/\r a b c d/\s a b c d/\t a b c d)(k:∀a b c d,p a b c d->q a b c d->r a b c d->s a b c d->t a b c d->G):G:=h.elim λa h=>xT h (k a)
def SY{A:Sort u}{B:Sort v}{C:Sort w}{D:Sort x}{E:Sort y}{p q r s t:A->B->C->D->E->Prop}{G:Prop}(h:∃a b c d e,p a b c d e/\q a b c d e/\r a b c d e/\s a b c d e/\t a b c d e)(k:∀a b c d e,p a b c d e->q a b c d e->r a b c d e->s a b c d e->t a b c d e->G):G:=h.elim λa h=>D8 h (k a)
def dD{p q:Prop}(g:p)(h:q):p/\q:=⟨g,h⟩
def cM{p q r:Prop}(g:p)(h:q)(i:r):p/\q/\r:=⟨g,h,i⟩
def ip{p q r s:Prop}(g:p)(h:q)(i:r)(j:s):p/\q/\r/\s:=⟨g,h,i,j⟩
def AI{p q r s t:Prop}(g:p)(h:q)(i:r)(j:s)(k:t):p/\q/\r/\s/\t:=⟨g,h,i,j,k⟩
def AJ{p q r s t m:Prop}(g:p)(h:q)(i:r)(j:s)(k:t)(l:m):p/\q/\r/\s/\t/\m:=⟨g,h,i,j,k,l⟩
def D9{p q r s t m n o:Prop}(g:p)(h:q)(i:r)(j:s)(k:t)(l:m)(x:n)(y:o):p/\q/\r/\s/\t/\m/\n/\o:=⟨g,h,i,j,k,l,x,y⟩
def gE{A:Sort u}{p:A->Prop}(a:A)(g:p a):∃a,p a:=⟨a,g⟩
def aA{A:Sort u}{p q:A->Prop}(a:A)(g:p a)(h:q a):∃a,p a/\q a:=⟨a,g,h⟩
def bH{A:Sort u}{p q r:A->Prop}(a:A)(g:p a)(h:q a)(i:r a):∃a,p a/\q a/\r a:=⟨a,g,h,i⟩
def rH{A:Sort u}{p q r s:A->Prop}(a:A)(g:p a)(h:q a)(i:r a)(j:s a):∃a,p a/\q a/\r a/\s a:=⟨a,g,h,i,j⟩
def S8{A:Sort u}{p q r s t m n o:A->Prop}(a:A)(g:p a)(h:q a)(i:r a)(j:s a)(k:t a)(l:m a)(x:n a)(y:o a):∃a,p a/\q a/\r a/\s a/\t a/\m a/\n a/\o a:=⟨a,g,h,i,j,k,l,x,y⟩
def d8{A:Sort u}{B:Sort v}{p:A->B->Prop}(a:A)(b:B)(g:p a b):∃a b,p a b:=⟨a,b,g⟩
def eK{A:Sort u}{B:Sort v}{p q:A->B->Prop}(a:A)(b:B)(g:p a b)(h:q a b):∃a b,p a b/\q a b:=⟨a,b,g,h⟩
def bZ{A:Sort u}{B:Sort v}{p q r:A->B->Prop}(a:A)(b:B)(g:p a b)(h:q a b)(i:r a b):∃a b,p a b/\q a b/\r a b:=⟨a,b,g,h,i⟩
def rI{A:Sort u}{B:Sort v}{p q r s:A->B->Prop}(a:A)(b:B)(g:p a b)(h:q a b)(i:r a b)(j:s a b):∃a b,p a b/\q a b/\r a b/\s a b:=⟨a,b,g,h,i,j⟩
def rJ{A:Sort u}{B:Sort v}{p q r s t:A->B->Prop}(a:A)(b:B)(g:p a b)(h:q a b)(i:r a b)(j:s a b)(k:t a b):∃a b,p a b/\q a b/\r a b/\s a b/\t a b:=⟨a,b,g,h,i,j,k⟩
def S9{A:Sort u}{B:Sort v}{p q r s t m:A->B->Prop}(a:A)(b:B)(g:p a b)(h:q a b)(i:r a b)(j:s a b)(k:t a b)(l:m a b):∃a b,p a b/\q a b/\r a b/\s a b/\t a b/\m a b:=⟨a,b,g,h,i,j,k,l⟩
def pd{A:Sort u}{B:Sort v}{C:Sort w}{p:A->B->C->Prop}(a:A)(b:B)(c:C)(g:p a b c):∃a b c,p a b c:=⟨a,b,c,g⟩
def tj{A:Sort u}{B:Sort v}{C:Sort w}{p q:A->B->C->Prop}(a:A)(b:B)(c:C)(g:p a b c)(h:q a b c):∃a b c,p a b c/\q a b c:=⟨a,b,c,g,h⟩
def rK{A:Sort u}{B:Sort v}{C:Sort w}{p q r:A->B->C->Prop}(a:A)(b:B)(c:C)(g:p a b c)(h:q a b c)(i:r a b c):∃a b c,p a b c/\q a b c/\r a b c:=⟨a,b,c,g,h,i⟩
def mX{A:Sort u}{B:Sort v}{C:Sort w}{p q r s:A->B->C->Prop}(a:A)(b:B)(c:C)(g:p a b c)(h:q a b c)(i:r a b c)(j:s a b c):∃a b c,p a b c/\q a b c/\r a b c/\s a b c:=⟨a,b,c,g,h,i,j⟩
def AK{A:Sort u}{B:Sort v}{C:Sort w}{p q r s t:A->B->C->Prop}(a:A)(b:B)(c:C)(g:p a b c)(h:q a b c)(i:r a b c)(j:s a b c)(k:t a b c):∃a b c,p a b c/\q a b c/\r a b c/\s a b c/\t a b c:=⟨a,b,c,g,h,i,j,k⟩
def Ta{A:Sort u}{B:Sort v}{C:Sort w}{D:Sort x}{p q:A->B->C->D->Prop}(a:A)(b:B)(c:C)(d:D)(g:p a b c d)(h:q a b c d):∃a b c d,p a b c d/\q a b c d:=⟨a,b,c,d,g,h⟩
def Tb{A:Sort u}{B:Sort v}{C:Sort w}{D:Sort x}{p q r s:A->B->C->D->Prop}(a:A)(b:B)(c:C)(d:D)(g:p a b c d)(h:q a b c d)(i:r a b c d)(j:s a b c d):∃a b c d,p a b c d/\q a b c d/\r a b c d/\s a b c d:=⟨a,b,c,d,g,h,i,j⟩
def rL{A:Sort u}{B:Sort v}{C:Sort w}{D:Sort x}{p q r s t:A->B->C->D->Prop}(a:A)(b:B)(c:C)(d:D)(g:p a b c d)(h:q a b c d)(i:r a b c d)(j:s a b c d)(k:t a b c d):∃a b c d,p a b c d/\q a b c d/\r a b c d/\s a b c d/\t a b c d:=⟨a,b,c,d,g,h,i,j,k⟩
def Ju{A:Sort u}{B:Sort v}{C:Sort w}{D:Sort x}{E:Sort y}{p q r s t:A->B->C->D->E->Prop}(a:A)(b:B)(c:C)(d:D)(e:E)(g:p a b c d e)(h:q a b c d e)(i:r a b c d e)(j:s a b c d e)(k:t a b c d e):∃a b c d e,p a b c d e/\q a b c d e/\r a b c d e/\s a b c d e/\t a b c d e:=⟨a,b,c,d,e,g,h,i,j,k⟩
end
section
set_option compiler.extract_closed false
def tQ(x:ag g8):g8:=.node .none `Lean.Parser.Tactic.tacticSeq #[.node .none `Lean.Parser.Tactic.tacticSeq1Indented #[.node .none `null ⟨x⟩]]
def tX(x:g8):g8:=tQ [.node .none `Lean.Parser.Tactic.exact #[.atom .none "exact",x]]
def tA(n a:ahr):g8:=.node .none `Lean.Parser.Term.app #[IQ n,.node .none `null #[IQ a]]
def tH(x y:ag g8):g8:=.node .none `Lean.Parser.Term.fun #[.atom .none "fun",.node .none `Lean.Parser.Term.basicFun #[.node .none `null ⟨x⟩,.node .none `null #[],.atom .none "=>",IQ `rfl]]
def tO:g8:=.node .none `Lean.Parser.Term.hole #[.atom .none "_"]
def tL:g8:=.node .none `Lean.Parser.Tactic.tacticRfl #[.atom .none "rfl"]
def tR:g8:=tQ [tL]
def tT:g8:=tX (tA `Eq.refl `true)
def tF:g8:=tX (tA `Eq.refl `false)
def tE:g8:=tX (tH [tO] [])
def tG:g8:=tX (tH [tO,tO] [])
def tI:g8:=tQ [.node .none `Lean.Parser.Tactic.intro #[.atom .none "intro",.node .none `null #[tO]],.atom .none ";",tL]
def tK:g8:=tQ [.node .none `Lean.Parser.Tactic.intro #[.atom .none "intro",.node .none `null #[tO]],.atom .none ";",.node .none `tacticKernel_rfl #[.atom .none "kernel_rfl"]]
def tU:g8:=tQ [.node .none `Lean.Parser.Tactic.withUnfoldingAll #[.atom .none "with_unfolding_all",.node .none `Lean.Parser.Tactic.tacticSeq #[.node .none `Lean.Parser.Tactic.tacticSeq1Indented #[.node .none `null #[tL]]]]]
def tM:g8:=.node .none `tacticKernel_rfl #[.atom .none "kernel_rfl"]
def tY(x:g8):g8:=tQ [.node .none `Lean.Parser.Tactic.intros #[.atom .none "intros",.node .none `null #[]],.atom .none ";",x]
def tN:g8:=tY tM
def tJ:g8:=tY tL
def tV:g8:=tQ [tM]
end
@[elab_as_elim]def rwP{A:Sort _}{a b:A}{p:A->Prop}(h:a=b)(x:p b):p a:=h▸x
@[elab_as_elim]def rwM{A:Sort _}{a b:A}{p:A->Prop}(h:b=a)(x:p b):p a:=h▸x
@[elab_as_elim]def rwI{a b:Prop}{p:Prop->Prop}(h:a↔b)(x:p b):p a:=propext h▸x
abbrev Tc{A B:Type}(M:IY)(C:IM)(f:A->DP B)(Q:B->oY->Prop)(E:IX->oY->Prop):A->oY->Prop:=λa s=>xG M C (f a) Q E s
def wb{A B:Type}{M:IY}{C:IM}{E:IX->oY->Prop}{s:oY}{m:DP A}{f:A->DP B}{Q:B->oY->Prop}(h:xG M C m (Tc M C f Q E) E s):xG M C (m>>=f) Q E s:=PySem.wpAny_bind h
def wF{A:Type}{M:IY}{C:IM}{E:IX->oY->Prop}{s:oY}{x k:DP A}{Q:A->oY->Prop}(h:xG M C k Q E s):xG M C (if aD=ai then x else k) Q E s:=h
def wT{A:Type}{M:IY}{C:IM}{E:IX->oY->Prop}{s:oY}{x k:DP A}{Q:A->oY->Prop}(h:xG M C k Q E s):xG M C (if ai=ai then k else x) Q E s:=h
local macro_rules (kind:=Lean.Parser.Tactic.rewriteSeq)
 |s=>do
  let q:=s[2][1];let r:=q[0];let o:=ain .none;let t:=aio .none;if s[3].getNumArgs !=0 then afp
  let g(x:b9 g8):g8:=s.setArg 2 (s[2].setArg 1 (o `null x));let w(n:ahr):=o `group #[t "|",tQ [o `Lean.Parser.Tactic.refine #[t "refine",o `Lean.Parser.Term.app #[IQ n,o `null #[o `Lean.Parser.Term.app #[r[1],o `null #[o `Lean.Parser.Term.ellipsis #[t ".."]]],o `Lean.Parser.Term.syntheticHole #[t "?",o `hygieneInfo #[]]]]]]];if q.getNumArgs>1 then return o `null #[g #[r],g (q.getArgs.extract 2 q.getNumArgs)]
  return o `Lean.Parser.Tactic.first #[t "first",o `null (iS (jF r[0].getNumArgs 0) #[w `Mine.rwP,w `Mine.rwI,o `group #[t "|",tQ [o `Lean.Parser.Tactic.fail #[t "fail",o `null #[]]]]] #[w `Mine.rwM,o `group #[t "|",tQ [o `Lean.Parser.Tactic.fail #[t "fail",o `null #[]]]]])]
section
set_option bootstrap.genMatcherCode false
noncomputable def dJ(f:ag aa):ag aa->aa:=f.rec (λu=>0) λk u ih c=>c.rec 0 λx c u=>k*x+ih c
noncomputable def iT(f:ag aa):ag aa->ag aa:=f.rec (λg=>g) λk f ih g=>g.rec (k::f) λj g u=>(k+j)::ih g
noncomputable def Ea(f:ag aa):ag aa->bw:=f.rec (λu=>ai) λk u ih g=>g.rec (jF k 0&&ih []) λj g u=>g9 k j&&ih g
noncomputable def AL(i:aa):ag aa:=i.rec [1] λu ih=>0::ih
noncomputable def Eb(c:ag aa):aa->aa:=c.rec (λu=>0) λx u ih i=>i.rec x λi u=>ih i
noncomputable def kO(k:aa)(f:ag aa):ag aa:=f.rec [] λj u ih=>k*j::ih
def pe(f g c):dJ (iT f g) c=dJ f c+dJ g c:=by induction f generalizing g c with|nil=>exact(oZ _).symm|cons k f ih=>cases g with|nil=>rfl|cons j g=>cases c with|nil=>rfl|cons x c=>show(k+j)*x+dJ (iT f g) c=k*x+dJ f c+(j*x+dJ g c);rw[ih,DL];lia
def xU(k f c):dJ (kO k f) c=k*dJ f c:=by induction f generalizing c with|nil=>rfl|cons j f ih=>cases c with|nil=>rfl|cons x c=>show k*j*x+dJ (kO k f) c=k*(j*x+dJ f c);rw[ih,Nat.mul_add,RW]
def Jv(f g c)(h:Ea f g=ai):dJ f c<=dJ g c:=by induction f generalizing g c with|nil=>exact cF _|cons k f ih=>cases c with|nil=>cases g<;>exact bq _|cons x c=>cases g with|nil=>have h:=bM.mp h;cases Rh h.1;show 0*x+dJ f c<=0;have:dJ f c<=0:=ih _ _ h.2;lia|cons j g=>have h:=bM.mp h;exact vJ (pX _ (aL h.1)) (ih _ _ h.2)
def Jw(i c):dJ (AL i) c=Eb c i:=by
 induction i generalizing c with
  |zero=>cases c with|nil=>rfl|cons x c=>show 1*x+0=x;lia
  |succ i ih=>cases c with|nil=>rfl|cons x c=>show 0*x+dJ (AL i) c=_;rw[ih,R6,oZ];rfl
structure Ec where
 ev:ag aa->aa
 f:ag aa
 ok:∀c,ev c=dJ f (1::c)
noncomputable def Ed(k:aa):Ec:=⟨λu=>k,[k],λc=>by show k=k*1+0;lia⟩
noncomputable def Jx(fu:aa):aa->Ec×aa:=fu.rec (λu=>(Ed 0,0)) λu ih n=>let d:=n%16;let m:=n/16;let q:=16^(m%16);iS (g9 d 8) (⟨λc=>Eb c d,AL (d+1),λc=>(Jw (d+1) (1::c)).symm⟩,m)<|iS (jF d 9) (let x:=ih m;let y:=ih x.2;(⟨λc=>x.1.ev c+y.1.ev c,iT x.1.f y.1.f,λc=>by rw[pe,x.1.ok,y.1.ok]⟩,y.2))<|iS (jF d 13) (let x:=ih m;(⟨λc=>x.1.ev c+1,iT x.1.f [1],λc=>by rw[pe,x.1.ok];rfl⟩,x.2))<|iS (jF d 11) (Ed (m%16),m/16)<|iS (jF d 10) (Ed (m/16%q),m/16/q)<|iS (jF d 12) (let x:=ih (m/16/q);(⟨λc=>m/16%q*x.1.ev c,kO (m/16%q) x.1.f,λc=>by rw[xU,x.1.ok]⟩,x.2))<|(⟨λc=>Eb c (m%16+9),AL (m%16+10),λc=>(Jw (m%16+10) (1::c)).symm⟩,m/16)
structure rM(l r s t:ag aa)where
 p:ag aa->Prop
 b:bw
 ok:b=ai->∀c,dJ l (1::c)<=dJ r (1::c)->dJ s (1::c)<=dJ t (1::c)->p c
def AM{l r x y:ag aa}{c w}(h:dJ l c<=dJ r c)(k:dJ x c<=dJ y c):dJ (iT (kO w x) l) c<=dJ (iT (kO w y) r) c:=by rw[pe,pe,xU,xU];exact vJ (Nat.mul_le_mul_left _ k) h
noncomputable def xV(g:aa)(x y l r:ag aa):bw:=g9 1 g&&Ea (iT (kO g x) r) (iT (kO g y) l)
def AN{g x y l r c}(h:xV g x y l r=ai)(k:dJ l c<=dJ r c):dJ x c<=dJ y c:=by have h:=bM.mp h;have q:=Jv _ _ c h.2;rw[pe,pe,xU,xU]at q;exact Nat.le_of_mul_le_mul_left (show g*dJ x c<=g*dJ y c by lia) (aL h.1)
noncomputable def AO{l r s t f g:ag aa}(p:ag aa->Prop)(w v:aa)(k:∀c,p c->dJ f (1::c)<=dJ g (1::c))(z:rM (iT (kO w f) l) (iT (kO w g) r) (iT (kO v f) s) (iT (kO v g) t)):rM l r s t:=⟨λc=>p c->z.p c,z.b,λh c u v q=>z.ok h c (AM u (k c q)) (AM v (k c q))⟩
noncomputable def Jy{l r s t f g:ag aa}(p:ag aa->Prop)(w v:aa)(k:∀c,p c->dJ f (1::c)=dJ g (1::c))(z:rM (iT (kO w f) l) (iT (kO w g) r) (iT (kO v g) s) (iT (kO v f) t)):rM l r s t:=⟨λc=>p c->z.p c,z.b,λh c u u' q=>z.ok h c (AM u (e9 (k c q))) (AM u' (e9 (k c q).symm))⟩
noncomputable def Td{l r s t:ag aa}(d w v:aa)(x y:Ec)(z:∀l r s t,rM l r s t):rM l r s t:=iS (jF d 1) (AO (λc=>x.ev c<=y.ev c) w v (λc h=>x.ok c▸y.ok c▸h) (z _ _ _ _))<|iS (jF d 2) (AO (f:=iT x.f [1]) (λc=>x.ev c<y.ev c) w v (λc h=>bG (e9 (pe _ _ _)) (show dJ x.f (1::c)<dJ y.f (1::c)from x.ok c▸y.ok c▸h)) (z _ _ _ _))<|iS (jF d 3) (Jy (λc=>x.ev c=y.ev c) w v (λc h=>x.ok c▸y.ok c▸h) (z _ _ _ _))<|iS (jF d 4) (Jy (λc=>x.ev c=y.ev c) w v (λc h=>y.ok c▸x.ok c▸h.symm) (z _ _ _ _))<|iS (jF d 5) (AO (f:=iT y.f [1]) (λc=>¬x.ev c<=y.ev c) w v (λc h=>bG (e9 (pe _ _ _)) (show dJ y.f (1::c)<dJ x.f (1::c)from y.ok c▸x.ok c▸agA h)) (z _ _ _ _))<|iS (jF d 6) (AO (λc=>¬x.ev c<y.ev c) w v (λc h=>y.ok c▸x.ok c▸sZ h) (z _ _ _ _))<|iS (jF d 7) ⟨λc=>x.ev c<=y.ev c,xV w x.f y.f l r,λh c u o=>(x.ok c).symm▸(y.ok c).symm▸AN h u⟩<|iS (jF d 8) ⟨λc=>x.ev c<y.ev c,xV w (iT x.f [1]) y.f l r,λh c u o=>(x.ok c).symm▸(y.ok c).symm▸show dJ x.f (1::c)+dJ [1] (1::c)<=_ from pe x.f [1] (1::c)▸AN h u⟩<|iS (jF d 9) ⟨λc=>x.ev c=y.ev c,xV w x.f y.f l r&&xV v y.f x.f s t,λh c u u'=>(x.ok c).symm▸(y.ok c).symm▸s7 (AN (bM.mp h).1 u) (AN (bM.mp h).2 u')⟩<|⟨λo=>dv,Ea (iT r [1]) l,λh c u o=>bA (bG (bG (e9 (pe r [1] _).symm) (Jv _ _ (1::c) h)) u) (Nat.not_succ_le_self _)⟩
noncomputable def mY(fu:aa):(n:aa)->(l r s t:ag aa)->rM l r s t:=fu.rec (λu u u u u=>⟨λu=>iD,ai,λu u u u=>cZ⟩) λu ih n u u u u=>let o:=jF (n%16) 0;let m:=iS o (n/4096) n;let x:=Jx 30 (m/16);let y:=Jx 30 x.2;Td (m%16) (iS o (n/16%16) 1) (iS o (n/256%16) 1) x.1 y.1 (ih y.2)
noncomputable def pf{l r s t}(z:rM l r s t)(c:ag aa):Prop:=iS z.b (z.p c) iD
def jJ{a b:aa}:a-b<=a:=I7 _ _
def kQ{a b:aa}:a<=a-b+b:=by lia
def fY{a b:aa}(h:b<=a):a-b+b=a:=Nat.sub_add_cancel h
def ln(n:aa)(c:ag aa):pf (mY 30 n [] [] [] []) c:=by show iS _ _ _;cases e:(mY 30 n [] [] [] []).b with|false=>trivial|true=>exact(mY 30 n [] [] [] []).ok e _ (bq _) (bq _)
section
variable(n:aa){a b c d e f g i j k:aa}
def l1:pf (mY 30 n [] [] [] []) [a]:=ln _ _
def l2:pf (mY 30 n [] [] [] []) [a,b]:=ln _ _
def l3:pf (mY 30 n [] [] [] []) [a,b,c]:=ln _ _
def l4:pf (mY 30 n [] [] [] []) [a,b,c,d]:=ln _ _
def l5:pf (mY 30 n [] [] [] []) [a,b,c,d,e]:=ln _ _
def l6:pf (mY 30 n [] [] [] []) [a,b,c,d,e,f]:=ln _ _
def l7:pf (mY 30 n [] [] [] []) [a,b,c,d,e,f,g]:=ln _ _
def l8:pf (mY 30 n [] [] [] []) [a,b,c,d,e,f,g,i]:=ln _ _
def l9:pf (mY 30 n [] [] [] []) [a,b,c,d,e,f,g,i,j]:=ln _ _
end
end
section
def lu(m:aa):Prop:=m=7\/m=31\/m=127
noncomputable def tq(m i:aa):aa:=(i*5+1)%(m+1)
noncomputable def rN(m:aa):aa->aa->ag aa|0,_=>[]|f+1,i=>i::rN m f (tq m i)
noncomputable def iter{α:Type}(f:α->α):aa->α->α|0,x=>x|n+1,x=>iter f n (f x)
def AP{α:Type}(f:α->α)(a b:aa)(x:α):iter f (a+b) x=iter f b (iter f a x):=by induction a generalizing x with|zero=>rw[oZ];rfl|succ a ih=>rw[aha];exact ih (f x)
def Te{m f i j:aa}(h:j∈rN m f i):∃k,k<f/\iter (tq m) k i=j:=by
 induction f generalizing i with
  |zero=>contradiction|succ f ih=>
   rcases cg.mp h with rfl|h;·exact(aA 0 (i8 _) rfl)
   ·refine aq (ih h) λk h1 h2=>?_;exact(aA (k+1) (l2 487424258 h1) h2)
noncomputable def vS(l:ag aa):aa:=l.foldl (λa i=>a|||(1<<<i)) 0
theorem Jz{j:aa}:∀{l:ag aa}{a:aa},(l.foldl (λa i=>a|||(1<<<i)) a).testBit j=ai->a.testBit j=ai\/j∈l
 |[],a,h=>.inl h|i::l,a,h=>by
  rcases Jz (l:=l) h with h|h;·
   rw[Nat.testBit_or,DF]at h;rcases h with h|h;·exact .inl h
   ·rw[Nat.one_shiftLeft,Nat.testBit_two_pow]at h;exact .inr (by simp at h;simp[h])
  ·exact .inr (bK _ h)
def Tf:((bS 8).all λi=>vS (rN 7 8 i)==2^8-1)=ai:=by decide+kernel
def Tg:((bS 32).all λi=>vS (rN 31 32 i)==2^32-1)=ai:=by decide+kernel
def Th:((bS 128).all λi=>vS (rN 127 128 i)==2^128-1)=ai:=by decide+kernel
def Ee{m:aa}(h:((bS (m+1)).all λi=>vS (rN m (m+1) i)==2^(m+1)-1)=ai){i j:aa}(hi:i<=m)(hj:j<=m):∃k,k<=m/\iter (tq m) k i=j:=by
 have:=f7.mp h i (dT.mpr (l2 30441729 hi));have t:(vS (rN m (m+1) i)).testBit j=ai:=by rw[(by simpa using this:vS (rN m (m+1) i)=2^(m+1)-1),Nat.testBit_two_pow_sub_one];simp;exact l2 30441729 hj
 rcases Jz t with h|h;·simp at h
 ·refine aq (Te h) λk h1 h2=>?_;exact(aA k (l2 17243394 h1) h2)
def lu.cover{m:aa}(g:lu m){i j:aa}(hi:i<=m)(hj:j<=m):∃k,k<=m/\iter (tq m) k i=j:=by
 rcases g with rfl|rfl|rfl;·exact Ee Tf hi hj
 ·exact Ee Tg hi hj
 ·exact Ee Th hi hj
noncomputable def gh(m:aa)(q:aa×aa):aa×aa:=agg m q.1 q.2
def Ef(m:aa)(q:aa×aa):(gh m q).1<=m:=nE (I8 _ (i8 _))
def Ti(m:aa)(q:aa×aa):(gh m q).2=q.2/32:=rfl
theorem JA(m:aa):∀(k:aa)(q:aa×aa),(iter (gh m) k q).2=q.2/32^k|0,q=>by exact(Nat.div_one _).symm|k+1,q=>by refine(?_:(iter (gh m) k (gh m q)).2=_);simp only[JA m k,Ti,Nat.div_div_eq_div_mul,Nat.pow_succ,Nat.mul_comm]
theorem JB(m:aa):∀(k:aa)(i:aa),iter (gh m) k (i,0)=(iter (tq m) k i,0)
 |0,i=>rfl|k+1,i=>by
  refine(?_:iter (gh m) k (gh m (i,0))=_);have:gh m (i,0)=(tq m i,0):=by dsimp[gh,agg,tq]
  rw[this,JB m k];rfl
def reach{m:aa}(g:lu m){q:aa×aa}(hq:q.2<2^64){e:aa}(he:e<=m):∃k,1<=k/\k<=m+13/\(iter (gh m) k q).1=e:=by
 have Tj:(iter (gh m) 13 q).2=0:=by rw[JA];exact Nat.div_eq_of_lt (bj hq (by decide))
 have hi:(iter (gh m) 13 q).1<=m:=by exact Ef _ _
 refine aq (g.cover hi he) λk h1 h2=>?_;refine(bH (13+k) (l1 14389687) (l2 0xdb190db97101 h1) ?_);rw[AP];have:iter (gh m) 13 q=((iter (gh m) 13 q).1,0):=by rw[←Tj]
 rw[this,JB];exact h2
structure PV(m:aa)(p:oU):Prop where
 i:p.i<=m
 jm:p.j+p.more<=m
 more:p.more<=9
 AQ:p.perturb<2^64
 rO:p.dummy=ah
def Eg{m i:aa}(h:i<=m):i<=vC m i/\vC m i<=m/\vC m i<=i+9:=by delta vC;split<;>lia
def PV.start(t:fc)(h:bp):PV t.mask (t.probeStart h):=by
 have h1:mR h%(t.mask+1)<=t.mask:=nE (I8 _ (i8 _));have h2:=Eg h1;refine⟨h1,?_,?_,?_,rfl⟩;·refine(?_:mR h%(t.mask+1)+(vC t.mask (mR h%(t.mask+1))-mR h%(t.mask+1))<=_);exact l4 320606476775681 h2.2.1 (fY h2.1)
 ·refine(?_:vC t.mask (mR h%(t.mask+1))-mR h%(t.mask+1)<=_);exact l3 0x9b27012939b1901 h2.2.2 (fY h2.1)
 ·refine(?_:mR h<_);delta mR;have:0<=h%(2^64:bp):=Int.emod_nonneg _ (by decide);have:h%(2^64:bp)<2^64:=Int.emod_lt_of_pos _ (by decide);lia
def AS{t:fc}{p:oU}(h:0<p.more):t.advance p={p with j:=p.j+1,more:=p.more-1}:=by delta af1;rw[a0 h]
def Eh{t:fc}{p:oU}(h:p.more=0):t.advance p={p with j:=(gh t.mask (p.i,p.perturb)).1,more:=vC t.mask (gh t.mask (p.i,p.perturb)).1-(gh t.mask (p.i,p.perturb)).1,i:=(gh t.mask (p.i,p.perturb)).1,perturb:=(gh t.mask (p.i,p.perturb)).2}:=by delta af1;rw[aX (by exact l1 42961341187 h)];rfl
def PV.AU{t:fc}{p:oU}(h:PV t.mask p):PV t.mask (t.advance p):=by
 by_cases q:0<p.more;·rw[AS q];exact⟨h.i,by refine(?_:p.j+1+(p.more-1)<=_);have:=h.jm;exact l4 0x230d9713d321091 this (fY (l1 28770482 q)),by have:=h.more;exact l2 0x9b170119b01 this jJ,h.AQ,h.rO⟩
 ·rw[Eh (l1 758330908688 q)];have h1:=Ef t.mask (p.i,p.perturb);have h2:=Eg h1;exact⟨h1,by exact l4 320606476775681 h2.2.1 (fY h2.1),by exact l3 0x9b27012939b1901 h2.2.2 (fY h2.1),by exact br (Nat.div_le_self _ _) h.AQ,h.rO⟩
theorem Ei{t:fc}:∀(n:aa)(p:oU),p.more=n->∃p',iter t.advance n p=p'/\p'.more=0/\p'.i=p.i/\p'.perturb=p.perturb|0,p,h=>(rH p rfl h rfl rfl)|n+1,p,h=>by obtain⟨p',h1,h2,h3,h4⟩:=Ei n (t.advance p) (by rw[AS (l2 12066052 h)];refine(?_:p.more-1=n);exact l3 1275652676867 h (fY (l2 28777732 h)));exact(rH p' h1 h2 (by rw[h3,AS (l2 12066052 h)]) (by rw[h4,AS (l2 12066052 h)]))
def Tn{t:fc}:∀(k:aa)(p:oU),PV t.mask p->∃n,n<=10*(k+1)/\(iter t.advance n p).i=(iter (gh t.mask) (k+1) (p.i,p.perturb)).1/\(iter t.advance n p).perturb=(iter (gh t.mask) (k+1) (p.i,p.perturb)).2/\(iter t.advance n p).j=(iter t.advance n p).i:=by
 intro k;induction k with
  |zero=>intro p h;refine rG (Ei (t:=t) p.more p rfl) λp' h1 h2 h3 h4=>?_;refine⟨p.more+1,by have:=h.more;exact l1 0xbda1c0d79b01 this,?_⟩;rw[AP,h1];refine(?_:(t.advance p').i=(gh t.mask (p.i,p.perturb)).1/\(t.advance p').perturb=(gh t.mask (p.i,p.perturb)).2/\(t.advance p').j=(t.advance p').i);rw[Eh h2,h3,h4];exact(cM rfl rfl rfl)|succ k ih=>
   intro p h;refine rG (Ei (t:=t) p.more p rfl) λp' h1 h2 h3 h4=>?_;have hp:PV t.mask (t.advance p'):=by
    have:∀n(p:oU),PV t.mask p->PV t.mask (iter t.advance n p):=by intro n;induction n with|zero=>exactλu h=>h|succ n ih=>exactλp h=>ih _ h.AU
    rw[←h1];exact(this _ _ h).AU
   refine rG (ih _ hp) λn g1 g2 g3 g4=>?_;refine⟨p.more+1+n,by have:=h.more;exact l3 0x1dda1c02d979b211da1c01 g1 this,?_⟩;rw[AP,AP,h1];refine(?_:(iter t.advance n (t.advance p')).i=_/\(iter t.advance n (t.advance p')).perturb=_/\(iter t.advance n (t.advance p')).j=(iter t.advance n (t.advance p')).i);have e:((t.advance p').i,(t.advance p').perturb)=gh t.mask (p.i,p.perturb):=by rw[Eh h2,h3,h4]
   rw[g2,g3,e];exact(cM rfl rfl (by rw[g4,g2,e]))
def tu(t:fc)(e K:aa)(p:oU):Prop:=∃k,k<=K/\(iter t.advance k p).j=e
def near{t:fc}(g:lu t.mask){p:oU}(h:PV t.mask p){e:aa}(he:e<=t.mask):tu t e (10*(t.mask+13)) p:=by refine bL (reach (q:=(p.i,p.perturb)) g h.AQ he) λk k0 k1 k2=>?_;refine rG (Tn (t:=t) (k-1) p h) λn h1 h2 u h4=>?_;have:k-1+1=k:=l2 282661075 (fY k0);rw[this]at h1 h2;exact(aA n (l3 0xdb19a1c270a1c21db19011a0 k1 h1) (by rw[h4,h2,k2]))
end
section
def jt(xs:b9 aa):Prop:=xs.toList.Pairwise (·<·)
def jt.lt{xs:b9 aa}(h:jt xs){i k:aa}(Ej:i<k)(hk:k<xs.size):xs.getD i 0<xs.getD k 0:=by have:=afK.mp h i k (by simpa using df Ej hk) (by simpa using hk) Ej;simpa [rD,hk,df Ej hk]using this
def To{xs:b9 aa}{j:aa}(up:jt xs):∀(fuel lo hi:aa),lo<=hi->hi<=xs.size->hi-lo<=fuel->(∀i,i<lo->xs.getD i 0<j)->(∀i,hi<=i->i<xs.size->j<=xs.getD i 0)->Ab xs j fuel lo hi<=xs.size/\(∀i,i<Ab xs j fuel lo hi->xs.getD i 0<j)/\(∀i,Ab xs j fuel lo hi<=i->i<xs.size->j<=xs.getD i 0):=by
 intro fuel;induction fuel with
  |zero=>intro lo hi h1 h2 h3 h4 h5;have:lo=hi:=l3 0x109029111000b21100101010 h1 h3 kQ;subst this;exact(cM h2 h4 h5)|succ fuel ih=>
   intro lo hi h1 h2 h3 h4 h5;rw[(show Ab xs j (fuel+1) lo hi=if lo<hi then(if xs.getD ((lo+hi)/2) j<j then Ab xs j fuel ((lo+hi)/2+1) hi else Ab xs j fuel lo ((lo+hi)/2))else lo from rfl)];by_cases q:lo<hi;·
    rw[a0 q];by_cases z:xs.getD ((lo+hi)/2) j<j;·
     rw[a0 z];refine ih _ _ (by lia) h2 (by lia) (λi iq=>?_) h5;have hm:(lo+hi)/2<xs.size:=by lia
     have e:xs.getD ((lo+hi)/2) j=xs.getD ((lo+hi)/2) 0:=by simp[rD,hm]
     by_cases y:i=(lo+hi)/2;·rw[y,←e];exact z
     ·exact df (up.lt (by lia:i<(lo+hi)/2) hm) (e▸z)
    ·rw[aX z];refine ih _ _ (by lia) (by lia) (by lia) h4 λi iq hs=>?_;have e:xs.getD ((lo+hi)/2) j=xs.getD ((lo+hi)/2) 0:=by simp[rD,(by lia:(lo+hi)/2<xs.size)]
     rw[e]at z;by_cases y:i=(lo+hi)/2;·rw[y];exact l2 94470 z
     ·have:=up.lt (by lia:(lo+hi)/2<i) hs;exact l3 8977916166 z this
   ·rw[aX q];have:lo=hi:=l2 74608877627248656 h1 q;clear up ih h1 h3 q;subst this;exact(cM h2 h4 h5)
def AW{xs:b9 aa}{j:aa}(up:jt xs):fS xs j<=xs.size/\(∀i,i<fS xs j->xs.getD i 0<j)/\(∀i,fS xs j<=i->i<xs.size->j<=xs.getD i 0):=To up _ _ _ (cF _) (bq _) (l2 1077505 jJ) (λi h=>bA h (nG _)) λi h1 h2=>bA h2 (l2 167846145 h1)
def Tp{xs:b9 aa}{j:aa}(up:jt xs)(h:j∈xs.toList):xs[fS xs j]?=af j:=by
 refine gf (AW (j:=j) up) λh1 h2 h3=>?_;obtain⟨i,hi,e⟩:=Ac h;have iq:i<xs.size:=by simpa using hi
 have ge:xs.getD i 0=j:=by simpa [rD,iq]using e
 have a1:fS xs j<=i:=by apply sZ;intro q;have:=h2 i q;exact l2 168829188 ge this
 have a2:i<=fS xs j:=by apply sZ;intro q;have:=up.lt q iq;have:=h3 _ (bq _) (df q iq);exact l3 696070054147 ge ‹_› this
 have:fS xs j=i:=l2 74592041355448336 a1 a2;rw[this,Dp iq];simpa using e
structure fK(t:fc)(n:aa):Prop where
 size:t.place.size=n
 rO:t.dummies=#[]
 up:jt t.place
 le:∀j∈t.place.toList,j<=t.mask
 mask:lu t.mask
 room:5*n<3*t.mask
def has_none(j:aa):agl #[] j=aD:=by rfl
def Tq{t:fc}(d:t.dummies=#[])(up:jt t.place){j:aa}(h:j∈t.place.toList):t.slot j=.live (fS t.place j)/\t.place[fS t.place j]?=af j:=by have:=Tp up h;delta agf;dsimp only;rw[this];simp
def Tr{t:fc}(d:t.dummies=#[]){j:aa}(h:j∉t.place.toList):t.slot j=.empty:=by delta agf;have:t.place[fS t.place j]?≠af j:=λe=>h (Ri.mpr (Array.mem_of_getElem? e));rw[aX (by simpa using this),d,has_none];dsimp
def JC{m:aa}{l:ag aa}(nd:l.Nodup)(h:∀j,j<=m->j∈l)(le:∀j∈l,j<=m):l.length=m+1:=by have:l.Perm (bS (m+1)):=(QZ nd Ak).mpr λa=>⟨λq=>dT.mpr (by have:=le a q;exact l2 30441729 this),λq=>h a (by have:=dT.mp q;exact l2 17243394 this)⟩;rw[this.length_eq,iR]
def jt.nodup{xs:b9 aa}(h:jt xs):xs.toList.Nodup:=h.imp λq=>cV q
def fK.free{t:fc}{n:aa}(g:fK t n):∃e,e<=t.mask/\e∉t.place.toList:=by apply xp;intro q;have:∀j,j<=t.mask->j∈t.place.toList:=λj h=>xp λz=>q (aA j h z);have:=JC g.up.nodup this g.le;simp only[fh,g.size]at this;have:=g.room;have:=g.mask;exact l2 0xa131c051c21d04140 ‹_› ‹_›
def Ts{t:fc}(d:t.dummies=#[])(up:jt t.place){hashAt:aa->bp}{h:bp}{e:aa}(he:e∉t.place.toList):∀(fuel K:aa)(p:oU),PV t.mask p->tu t e K p->K<fuel->∃met,afz t hashAt h fuel p=af met/\((∃j,met=.empty j ah/\j<=t.mask/\j∉t.place.toList)\/(∃j i dB,met=.candidate j i dB/\t.slot j=.live i/\t.place[i]?=af j/\hashAt i=h/\PV t.mask dB/\∃K',K'<K/\tu t e K' dB)):=by
 intro fuel;induction fuel with
  |zero=>exactλK p u u h=>bA h (nG _)|succ fuel ih=>
   intro K p v nr hK;unfold afz;by_cases q:p.j∈t.place.toList;·
    obtain⟨s1,s2⟩:=Tq d up q;rw[s1];dsimp only;refine aq nr λk k1 k2=>?_;have k0:k≠0:=λz=>he (by clear k1;subst z;rw[←k2];exact q);have JD:tu t e (K-1) (t.advance p):=⟨k-1,by lia,by
     have:iter t.advance k p=iter t.advance (k-1) (t.advance p):=by
      conv=>lhs;rw[show k=k-1+1 by lia]
      rfl
     rw[←this];exact k2⟩;by_cases z:hashAt (fS t.place p.j)=h;·rw[a0 (by simpa using z)];exact(aA _ rfl (.inr ⟨_,_,_,rfl,s1,s2,z,v.AU,K-1,by lia,JD⟩))
    ·rw[aX (by simpa using z)];refine aq (ih (K-1) _ v.AU JD (by lia)) λmet m1 m2=>?_;refine(aA met m1 (m2.imp id ?_));intro zi;refine Jt zi λj i dB a b c d e bg=>aq bg λK' f g=>?_;exact⟨j,i,dB,a,b,c,d,e,K',l3 8726319362 f jJ,g⟩
   ·rw[Tr d q];exact(aA _ rfl (.inl (bH p.j (by rw[v.rO]) (by have:=v.jm;exact l3 544346257 this) q)))
def JE{t:fc}(g:lu t.mask)(d:t.dummies=#[])(up:jt t.place){hashAt:aa->bp}{h:bp}{e K:aa}(he:e∉t.place.toList){p:oU}(v:PV t.mask p)(nr:tu t e K p)(hK:K<=10*(t.mask+13)):∃met,t.probe hashAt h p=af met/\((∃j,met=.empty j ah/\j<=t.mask/\j∉t.place.toList)\/(∃j i dB,met=.candidate j i dB/\t.slot j=.live i/\t.place[i]?=af j/\hashAt i=h/\PV t.mask dB/\∃K',K'<K/\tu t e K' dB)):=Ts d up he _ K p v nr (by exact l2 0xfb19a1c08db19a1c01 hK)
def Tt{t:fc}{n:aa}(g:fK t n)(h:bp):∃j,t.freeSlot h=af (j,aD)/\j<=t.mask/\j∉t.place.toList:=by
 refine aq g.free λe e1 e2=>?_;refine aq (JE (hashAt:=λu=>h+1) (h:=h) g.mask g.rO g.up e2 (PV.start t h) (near g.mask (PV.start t h) e1) (bq _)) λmet m1 m2=>?_;delta fc.freeSlot;rw[m1];clear m1;rcases m2 with⟨j,rfl,a,b⟩|⟨j,i,dB,_,_,_,z,_⟩;·exact(bH j rfl a b)
 ·lia
def Tu{xs:b9 aa}{j:aa}(up:jt xs)(h:j∉xs.toList):jt (pZ xs (fS xs j) j):=by
 refine gf (AW (j:=j) up) λh1 h2 h3=>?_;delta jt;rw[fc.toList_insertAt];refine af4.mpr ⟨afu (List.take_sublist _ _) up,xu.mpr ⟨λa ha=>?_,afu (List.drop_sublist _ _) up⟩,λa ha b hb=>?_⟩;·
  obtain⟨i,hi,e⟩:=Ac ha;have iq:fS xs j+i<xs.size:=by simp only[RB,fh]at hi;lia
  have:=h3 _ (dE _ i) iq;have ge:xs.getD (fS xs j+i) 0=a:=by simpa [rD,iq]using e
  rw[ge]at this;have:a≠j:=λq=>h (by exact q▸(List.mem_of_mem_drop ha));lia
 ·obtain⟨i,hi,e⟩:=Ac ha;have JF:i<fS xs j:=by rw[RA]at hi;exact l3 8726319362 hi (IF _ _)
  have iq:i<xs.size:=l3 4966195457 h1 JF;have ge:xs.getD i 0=a:=by simpa [rD,iq]using e
  have aj:=h2 i JF;rw[ge]at aj;clear iq;rcases cg.mp hb with rfl|hb;·exact aj
  ·obtain⟨k,hk,e⟩:=Ac hb;have eu:fS xs j+k<xs.size:=by simp only[RB,fh]at hk;lia
   have:=h3 _ (dE _ k) eu;exact l4 53339788218626 aj this (by simpa [rD,eu]using e:xs.getD (fS xs j+k) 0=b)
def Tv{α:Type}{xs:b9 α}{p:aa}{x y:α}(h:y∈(pZ xs p x).toList):y=x\/y∈xs.toList:=by have:=(H8 xs p x).mem_iff.mp h;rw[Af,cw,bU]at this;exact this.symm
def Ek{α:Type}(xs:b9 α)(p:aa)(x:α):(pZ xs p x).size=xs.size+1:=by have:=(H8 xs p x).length_eq;simpa using this
end
section
def Tw{m:aa}{owner:b9 (d6 aa)}{e:aa}(he:owner[e]?=af ah):∀(fuel i perturb:aa),i<=m->(∃k,k<fuel/\(iter (gh m) k (i,perturb)).1=e)->∃r,QW m owner fuel i perturb=af r/\owner[r]?=af ah:=by
 intro fuel;induction fuel with
  |zero=>intro i p _ zi;refine aq zi λk h u=>?_;exact bA h (nG _)|succ fuel ih=>
   rintro i p hi⟨k,hk,e1⟩;unfold QW;cases q:(bS (vC m i+1-i)).find? λk=>(owner.getD (i+k) (af 0)).isNone with
    |some z=>refine(aA (i+z) rfl ?_);have:=agD q;rw[QX]at this;cases y:owner[i+z]? with|none=>rw[y]at this;simp at this|some o=>rw[y]at this;simp at this;rw[this]
    |none=>
     dsimp only;have k0:k≠0:=by intro z;clear hk;subst z;have e1:i=e:=e1;subst e1;have:=List.find?_eq_none.mp q 0 (dT.mpr (by have:=(Eg hi).1;exact l3 575595026911489 this kQ));apply this;rw[R7,QX,he];rfl
     refine ih _ _ (Ef m (i,p)) (aA (k-1) (by lia) ?_);rw[←e1];conv=>rhs;rw[show k=k-1+1 by lia]
     rfl
structure OW(m:aa)(owner:b9 (d6 aa))(js:ag aa):Prop where
 size:owner.size=m+1
 nodup:js.Nodup
 le:∀j∈js,j<=m
 at':∀q j:aa,js[q]?=af j->owner[j]?=af (af q)
 free:∀j,j<=m->j∉js->owner[j]?=af ah
def OW.fresh(m:aa):OW m (Array.replicate (m+1) ah) []:=⟨Array.size_replicate,List.nodup_nil,λu h=>(by cases h),λq j h=>(by simp at h),λj h u=>by simp[Array.getElem?_replicate];exact l2 30441729 h⟩
def OW.add{m:aa}{owner:b9 (d6 aa)}{js:ag aa}(g:OW m owner js){j:aa}(hj:owner[j]?=af ah):OW m (owner.setIfInBounds j (af js.length)) (js++[j]):=by
 have hs:=(sX.mp hj).1;have nj:j∉js:=λq=>by obtain⟨i,hi,e⟩:=Ac q;have:=g.at' i j (by rw[gy hi,e]);rw[hj]at this;cases this
 refine⟨by rw[Array.size_setIfInBounds];exact g.size,gA.mpr ⟨g.nodup,by simp,λa ha b hb=>by simp at hb;rw[hb];exactλq=>nj (q▸ha)⟩,λa ha=>?_,λq a h=>?_,λa h1 h2=>?_⟩;·
  rcases cw.mp ha with h|h;·exact g.le a h
  ·simp at h;rw[g.size]at hs;exact l3 79190760706 hs h
 ·by_cases z:q<js.length;·rw[xt z]at h;have ne:j≠a:=λy=>nj (y▸e8 h);rw[afs ne];exact g.at' q a h
  ·rw[Dn (by exact l2 94470 z)]at h;have:q-js.length=0:=by apply xp;intro y;rw[nD (by dsimp;lia)]at h;contradiction
   rw[this]at h;simp at h;subst h;rw[Array.getElem?_setIfInBounds_self_of_lt hs];have:q=js.length:=l3 0x109129010100b23010106100 z this kQ;rw[this]
 ·rw[cw]at h2;rw[afs (λy=>h2 (.inr (by simp[y])))];exact g.free a h1 λy=>h2 (.inl y)
def OW.room{m:aa}{owner:b9 (d6 aa)}{js:ag aa}(g:OW m owner js)(h:js.length<=m):∃e,e<=m/\owner[e]?=af ah:=by apply xp;intro q;have:∀j,j<=m->j∈js:=λj hj=>xp λz=>q (aA j hj (g.free j hj z));have:=JC g.nodup this g.le;exact l2 2714779905 h this
def Tx{m:aa}(gm:lu m):∀(hs:ag bp)(owner:b9 (d6 aa))(js:ag aa),OW m owner js->js.length+hs.length<=m+1->∃JG xW,hs.foldl (λacc h=>do let(owner,k)←acc;let j←QW m owner (aga m) (mR h%(m+1)) (mR h);pure (owner.setIfInBounds j (af k),k+1)) (af (owner,js.length))=af (JG,xW.length)/\OW m JG xW/\xW.length=js.length+hs.length:=by intro hs;induction hs with|nil=>exactλowner js g u=>(bZ owner js rfl g rfl)|cons h hs ih=>intro owner js g hl;refine aq (g.room (l3 139365306513 hl)) λe e1 e2=>?_;have pv:=PV.start {mask:=m,place:=#[],dummies:=#[],finger:=0,led:=ai,moves:=0,plain:=ai} h;refine bL (reach (q:=(mR h%(m+1),mR h)) gm pv.AQ e1) λk k0 k1 k2=>?_;refine aq (Tw (m:=m) e2 (aga m) (mR h%(m+1)) (mR h) pv.i (aA k (by exact l2 0xfb1908db1901 k1) k2)) λr r1 r2=>?_;refine ba (ih _ (js++[r]) (g.add r2) (by simp;exact l3 0x2d10d972d1d091 hl)) λo' xW a b c=>?_;refine(bZ o' xW ?_ b (by simp at c⊢;exact l3 49585550645507 c));rw[agC,←a];congr 1;simp only[bind,Option.bind,r1,bD];rfl
def Tz{m:aa}(gm:lu m){hashes:b9 bp}(hl:hashes.size<=m+1):∃owner js,afS m hashes=af owner/\OW m owner js/\js.length=hashes.size:=by refine ba (Tx gm hashes.toList _ [] (OW.fresh m) (by simpa using hl)) λo js a b c=>?_;refine(bZ o js ?_ b (by simpa using c));delta afS;rw[←Array.foldl_toList];rw[a];rfl
def TA{m finger moves:aa}{led plain:bw}(gm:lu m){hashes:b9 bp}(hl:hashes.size<=m+1):∃t order,agh m finger moves led plain hashes=af (t,order)/\order.toList.Perm (bS hashes.size)/\t.place.size=hashes.size/\t.dummies=#[]/\jt t.place/\(∀j∈t.place.toList,j<=t.mask)/\t.mask=m/\t.led=led/\t.plain=plain:=by
 refine ba (Tz gm hl) λo js a g c=>?_;have key:∀j q,j<=m->(o.getD j ah=af q↔js[q]?=af j):=by
  intro j q hj;rw[QX];constructor;·
   intro h;have h':o[j]?=af (af q):=by cases z:o[j]? with|none=>rw[z]at h;contradiction|some x=>rw[z]at h;simp at h;rw[h]
   obtain⟨i,hi,e⟩:=Ac (xp λz=>by rw[g.free j hj z]at h';cases h');have e':js[i]?=af j:=by rw[gy hi,e]
   have:=g.at' i j e';rw[h']at this;have:q=i:=by simpa using this
   rw[this];exact e'
  ·intro h;rw[g.at' q j h];rfl
 generalize hL:(bS (m+1)).filterMap (λj=>(o.getD j ah).map (j,·))=live;have mem:∀p,p∈live↔p.1<=m/\js[p.2]?=af p.1:=by
  intro p;rw[←hL,Rn];constructor;·
   rintro⟨j,hj,h⟩;have j5:j<=m:=by have:=dT.mp hj;exact l2 17243394 this
   cases z:o.getD j ah with|none=>rw[z]at h;contradiction|some q=>rw[z]at h;simp at h;subst h;exact⟨j5,(key j q j5).mp z⟩
  ·rintro⟨h1,h2⟩;exact(aA p.1 (dT.mpr (l2 30441729 h1)) (by rw[(key _ _ h1).mpr h2];rfl))
 have JH:live.Pairwise (λp q=>p.1<q.1):=by
  rw[←hL];refine ah4 _ (R:=(·<·)) (λx y kR p hp q hq=>?_) List.pairwise_lt_range;have a1:p.1=x:=by cases z:o.getD x ah with|none=>rw[z]at hp;contradiction|some v=>rw[z]at hp;simp at hp;rw[←hp]
  have a2:q.1=y:=by cases z:o.getD y ah with|none=>rw[z]at hq;contradiction|some v=>rw[z]at hq;simp at hq;rw[←hq]
  exact l4 55530504728834 kR a1 a2
 have perm:(live.map (·.2)).Perm (bS hashes.size):=by
  refine(QZ ?_ Ak).mpr λq=>?_;·refine jX.mpr (JH.imp_of_mem λ{p q}hp hq iE e=>?_);have h1:=((mem p).mp hp).2;rw[e,(((mem q).mp hq).2)]at h1;simp at h1;exact l2 167850242 iE h1
  ·rw[bt,dT,←c];constructor;·rintro⟨p,hp,rfl⟩;exact(iQ.mp ((mem p).mp hp).2).1
   ·intro h;have e:=gy h;exact(aA ((js[q],q)) ((mem _).mpr ⟨g.le _ (agt h),e⟩) rfl)
 refine⟨{mask:=m,place:=(live.map (·.1)).toArray,dummies:=#[],finger,led,moves,plain},(live.map (·.2)).toArray,?_,?_⟩;·delta agh;rw[a];refine(?_:af _=af _);rw[hL]
 ·refine(D9 (by simpa using perm) (by simpa using(by have:=perm.length_eq;simpa using this)) rfl ?_ ?_ rfl rfl rfl);·show List.Pairwise _ (live.map (·.1)).toArray.toList;exact jX.mpr JH
  ·intro j hj;refine aq (bt.mp (by simpa using hj:j∈live.map (·.1))) λp hp aC=>?_;rw[←aC];exact((mem p).mp hp).1
def TB{t:fc}{hashes:b9 bp}{wanted:aa}(gm:lu (vA wanted-1))(hl:hashes.size<=vA wanted-1+1):∃t' order,t.relaid hashes wanted=af (t',order)/\order.toList.Perm (bS hashes.size)/\t'.place.size=hashes.size/\t'.dummies=#[]/\jt t'.place/\(∀j∈t'.place.toList,j<=t'.mask)/\t'.mask=vA wanted-1/\t'.led=t.led/\t'.plain=t.plain:=TA gm hl
def TC:vA 20=32:=by decide+kernel
def TF:vA 76=128:=by decide+kernel
def fK.add{t:fc}{n:aa}(g:fK t n)(hn:n+1<64){j:aa}(h1:j<=t.mask)(h2:j∉t.place.toList)(pl:bw):∃t1,(t.put j).1=t1/\t1.place.size=n+1/\t1.fill=n+1/\t1.dummies=#[]/\t1.mask=t.mask/\t1.led=t.led/\t1.plain=t.plain/\n+1<=t.mask/\(({t1 with plain:=pl}:fc).tooFull=aD->fK {t1 with plain:=pl} (n+1))/\(({t1 with plain:=pl}:fc).tooFull=ai->∀hashes:b9 bp,hashes.size=n+1->vA (p9 (n+1))<=128/\∃t' order,({t1 with plain:=pl}:fc).relaid hashes (p9 (n+1))=af (t',order)/\order.toList.Perm (bS (n+1))/\fK t' (n+1)/\t'.led=t.led/\t'.plain=pl):=by
 have hs:(pZ t.place (fS t.place j) j).size=n+1:=by rw[Ek,g.size]
 have hd:(if agl t.dummies j then fc.eraseAt t.dummies (fS t.dummies j)else t.dummies)=#[]:=by rw[g.rO,has_none];rfl
 have e1:(t.put j).1={t with place:=pZ t.place (fS t.place j) j,dummies:=#[]}:=by delta fc.put;rw[hd]
 have hm:=g.mask;have hr:=g.room;unfold lu at hm;have hf:∀b:bw,(({t with place:=pZ t.place (fS t.place j) j,dummies:=#[],plain:=b}:fc).fill)=n+1:=λb=>by show(pZ t.place (fS t.place j) j).size+0=_;rw[hs]
 refine(S8 _ e1 hs (hf _) rfl rfl rfl rfl (cM (by lia) (λq=>⟨hs,rfl,Tu g.up h2,λa ha=>?_,g.mask,?_⟩) (λq hashes he=>?_)));·
  clear h2 hs hd e1 hm hr;rcases Tv ha with rfl|ha;·exact h1
  ·exact g.le a ha
 ·unfold af0 at q;rw[hf pl]at q;simp only[decide_eq_false_iff_not,ahq]at q;refine(?_:5*(n+1)<3*t.mask);have:(n+1)*5<t.mask*3:=q;lia
 ·unfold af0 at q;simp only[hf pl]at q;have hg:p9 (n+1)=4*(n+1):=by delta p9;rw[aX (by exact l1 0xa0dc3504a2402a0d2 hn)];lia
  have hz:vA (p9 (n+1))=32/\n+1=5\/vA (p9 (n+1))=128/\n+1=19:=by
   rcases(by lia:(n+1=5/\t.mask=7)\/(n+1=19/\t.mask=31))with⟨a,_⟩|⟨a,_⟩;·left;rw[hg,a];exact⟨TC,rfl⟩
   ·right;rw[hg,a];exact⟨TF,rfl⟩
  refine SW (TB (t:={t with place:=pZ t.place (fS t.place j) j,dummies:=#[],plain:=pl}) (hashes:=hashes) (wanted:=p9 (n+1)) (by delta lu;lia) (by lia)) λt' order a b c d e f g' bg=>bx bg λh i=>?_;refine(dD (by lia) (rJ t' order a (he▸b) ⟨he▸c,d,e,f,by rw[g'];delta lu;lia,by rw[g'];lia⟩ h i))
def fK.fresh(f k:aa)(led:bw):fK (agb f k led) 0:=⟨rfl,rfl,.nil,λj h=>(by simp[agb]at h),.inl rfl,by show 5*0<3*7;decide⟩
def fK.fits{t:fc}{n:aa}(g:fK t n):t.fits n=ai:=by
 have h3:t.fill=n:=by delta fc.fill;rw[g.rO,g.size];rfl
 simp only[RJ,g.size,h3,jr,agP,AH];exact l2 74048814725484994 g.room
end
section
inductive V where|none|bool(b:bw)|int(i:bp)|str(s:aI)|tup(vs:ag V)|ref(a:aa)
inductive aV where|list(vs:ag V)|dict(es:ag (V×V))|set(vs:ag V)|inst(C dx:aa)|attrs(es:ag (aI×V))|range(a b:bp)|items(d:aa)
abbrev aE:=aa->d6 aV
abbrev Loc:=aI->d6 V
noncomputable def aE.put(st:aE)(a:aa)(o:aV):aE:=λb=>if b=a then af o else st b
def aE.lY(st:aE)(a:aa)(o:aV):(st.put a o) a=af o:=by simp[aE.put]
def aE.gj{st:aE}(h:b≠a):(st.put a o) b=st b:=by simp[aE.put,h]
noncomputable def Loc.up(l:Loc)(x:aI)(v:V):Loc:=λy=>if y=x then af v else l y
noncomputable abbrev gO(items:b9 aF)(n:aa):cY:={cls:=.type "tuple",data:=.seq items n}
class Hid where
 hO:aa->bw
variable [dq:Hid]
mutual noncomputable def aM(h:cL):V->aF->Prop|.none,x=>x=.none|.bool b,x=>x=.bool b|.int i,x=>∃t,x=.int i t|.str s,x=>∃t,x=.str s t|.ref a,x=>x=.ref a|.tup vs,x=>∃a items n,x=.ref a/\h.get? a=af (gO items n)/\bB h vs items.toList/\Hid.hO a=aD noncomputable def bB(h:cL):ag V->ag aF->Prop|[],xs=>xs=[]|v::vs,xs=>∃x ys,xs=x::ys/\aM h v x/\bB h vs ys end
def aM.none:aM h .none .none:=rfl
def aM.bool(b):aM h (.bool b) (.bool b):=rfl
def aM.int(i t):aM h (.int i) (.int i t):=⟨t,rfl⟩
def aM.str{h:cL}(s t):aM h (.str s) (.str s t):=⟨t,rfl⟩
def aM.ref(a):aM h (.ref a) (.ref a):=rfl
def aM.tup(g:h.get? a=af (gO items n))(r:bB h vs items.toList)(x:Hid.hO a=aD):aM h (.tup vs) (.ref a):=(mX a items n rfl g r x)
def bB.nil:bB h [] []:=rfl
def bB.cons{h:cL}{v:V}{vs:ag V}{x:aF}{xs:ag aF}(a:aM h v x)(b:bB h vs xs):bB h (v::vs) (x::xs):=⟨x,xs,rfl,a,b⟩
def cK(h h':cL):Prop:=∀b o items n,h.get? b=af o->o.cls=.type "tuple"->o.data=.seq items n->h'.get? b=af o
mutual theorem aM.keep{h h':cL}(k:cK h h'):∀{v:V}{x:aF},aM h v x->aM h' v x|.none,_,r=>r|.bool _,_,r=>r|.int _,_,r=>r|.str _,_,r=>r|.ref _,_,r=>r|.tup _,_,⟨a,i,n,e,g,r,x⟩=>(mX a i n e (k _ _ _ _ g rfl rfl) (bB.keep k r) x)theorem bB.keep{h h':cL}(k:cK h h'):∀{v:ag V}{x:ag aF},bB h v x->bB h' v x|[],_,r=>r|_::_,_,⟨x,xs,e,a,b⟩=>(bZ x xs e (aM.keep k a) (bB.keep k b))end
def bB.length(r:bB h vs xs):xs.length=vs.length:=by induction vs generalizing xs with|nil=>rw[r];rfl|cons v vs ih=>refine ba r λx ys aC a b=>?_;rw[aC];exact aO (·+1) (ih b)
def bB.get_some(r:bB h vs xs){i:aa}(e:vs[i]?=af v):∃x,xs[i]?=af x/\aM h v x:=by induction vs generalizing xs i with|nil=>contradiction|cons u vs ih=>refine ba r λx ys aC a b=>?_;rw[aC];induction i using jo with|zero=>rw[←bR e];exact(aA _ rfl a)|succ i=>exact ih b e
def bB.append(r:bB h vs xs)(q:bB h us ys):bB h (vs++us) (xs++ys):=by induction vs generalizing xs with|nil=>rw[r];exact q|cons v vs ih=>refine ba r λx zs aC a b=>?_;rw[aC];exact(bZ x _ rfl a (ih b))
def bB.take(r:bB h vs xs)(n:aa):bB h (vs.take n) (xs.take n):=by induction vs generalizing xs n with|nil=>rw[r];simp only[List.take_nil];rfl|cons v vs ih=>refine ba r λx ys aC a b=>?_;rw[aC];induction n using jo with|zero=>rfl|succ n=>exact(bZ x _ rfl a (ih b n))
def bB.drop(r:bB h vs xs)(n:aa):bB h (vs.drop n) (xs.drop n):=by induction vs generalizing xs n with|nil=>rw[r];simp only[List.drop_nil];rfl|cons v vs ih=>refine ba r λx ys aC a b=>?_;rw[aC];induction n with|zero=>exact(bZ x ys rfl a b)|succ n=>exact ih b n
def bB.set(r:bB h vs xs)(n:aa)(q:aM h v x):bB h (vs.set n v) (xs.set n x):=by induction vs generalizing xs n with|nil=>rw[r];rfl|cons v vs ih=>refine ba r λy ys aC a b=>?_;rw[aC];induction n using jo with|zero=>exact(bZ x ys rfl q b)|succ n=>exact(bZ y _ rfl a (ih b n))
def bB.eraseIdx(r:bB h vs xs)(n:aa):bB h (vs.eraseIdx n) (xs.eraseIdx n):=by induction vs generalizing xs n with|nil=>rw[r];rfl|cons v vs ih=>refine ba r λy ys aC a b=>?_;rw[aC];induction n using jo with|zero=>exact b|succ n=>exact(bZ y _ rfl a (ih b n))
theorem bB.replicate{h:cL}{v:V}{x:aF}(q:aM h v x):∀n:aa,bB h (oV n v) (oV n x)|0=>rfl|n+1=>(bZ x _ rfl q (bB.replicate q n))
inductive ju(h:cL):ag (aI×V)->ag DV->Prop|nil:ju h [] []|cons{n v t hs x es ds}:aM h v x->ju h es ds->ju h ((n,v)::es) (⟨hs,.str n t,x⟩::ds)
noncomputable def ew(h:cL)(p:aa->bw):cL:=⟨h.objs.mapIdx λi o=>if p i then{o with data:=.freed}else o,h.life⟩
def AX(h:cL)(p:aa->bw)(b:aa):(ew h p).get? b=if p b then Option.none else h.get? b:=by
 delta ew cL.get?;rw[Array.getElem?_mapIdx];cases e:h.objs[b]? with
  |none=>simp|some o=>
   rw[IA];by_cases q:p b=ai;·simp[q]
   ·simp[q]
def eD{b:aa}:(ew h p).get? b=af o↔p b=aD/\h.get? b=af o:=by rw[AX];cases p b<;>simp
end
section
variable [dq:Hid]
mutual noncomputable def V.decEq:(a b:V)->SN (a=b)
 |.none,.none=>.isTrue rfl|.bool a,.bool b=>if h:a=b then .isTrue (by rw[h])else .isFalse λq=>h (by cases q;rfl)|.int a,.int b=>if h:a=b then .isTrue (by rw[h])else .isFalse λq=>h (by cases q;rfl)|.str a,.str b=>if h:a=b then .isTrue (by rw[h])else .isFalse λq=>h (by cases q;rfl)|.ref a,.ref b=>if h:a=b then .isTrue (by rw[h])else .isFalse λq=>h (by obtain rfl:=V.ref.inj q;rfl)|.tup a,.tup b=>match V.JI a b with|.isTrue h=>.isTrue (by rw[h])|.isFalse h=>.isFalse λq=>h (by obtain rfl:=V.tup.inj q;rfl)
 |.none,.bool _|.none,.int _|.none,.str _|.none,.ref _|.none,.tup _=>.isFalse nofun|.bool _,.none|.bool _,.int _|.bool _,.str _|.bool _,.ref _|.bool _,.tup _=>.isFalse nofun|.int _,.bool _|.int _,.none|.int _,.str _|.int _,.ref _|.int _,.tup _=>.isFalse nofun|.str _,.bool _|.str _,.int _|.str _,.none|.str _,.ref _|.str _,.tup _=>.isFalse nofun|.ref _,.bool _|.ref _,.int _|.ref _,.str _|.ref _,.none|.ref _,.tup _=>.isFalse nofun|.tup _,.bool _|.tup _,.int _|.tup _,.str _|.tup _,.ref _|.tup _,.none=>.isFalse nofun noncomputable def V.JI:(a b:ag V)->SN (a=b)|[],[]=>.isTrue rfl|[],_::_=>.isFalse nofun|_::_,[]=>.isFalse nofun|a::as,b::bs=>match V.decEq a b,V.JI as bs with|.isTrue h,.isTrue k=>.isTrue (by rw[h,k])|.isFalse h,_=>.isFalse λq=>h (by obtain⟨rfl,rfl⟩:=cq q;rfl)|_,.isFalse k=>.isFalse λq=>k (by clear k;obtain⟨rfl,rfl⟩:=cq q;rfl)end
noncomputable instance:SO V:=V.decEq
mutual noncomputable def V.hash(w:aZ):V->bp|.int i=>hashInt i|.str s=>hashStr w s|.tup vs=>Sx (Dm (V.hashes w vs))|_=>0 noncomputable def V.hashes(w:aZ):ag V->ag bp|[]=>[]|v::vs=>V.hash w v::V.hashes w vs end
mutual noncomputable def bO:aa->V->bw|_,.int _=>ai|_,.str _=>ai|n+1,.tup vs=>eU n vs|_,_=>aD noncomputable def eU:aa->ag V->bw|_,[]=>ai|n,v::vs=>bO n v&&eU n vs end
def aM.ofInt(k:bO n v=ai)(r:aM h v (.int i t)):v=.int i:=by clear k;induction v using V.casesOn with|int j=>obtain⟨u,e⟩:=r;injection e with zc;subst zc;rfl|str j=>refine dh r λu e=>?_;contradiction|tup vs=>refine gN r λo o o e o=>?_;contradiction|ref a=>exact by contradiction|none=>exact by contradiction|bool b=>exact by contradiction
def aM.ofStr(k:bO n v=ai)(r:aM h v (.str i t)):v=.str i:=by clear k;induction v using V.casesOn with|str j=>obtain⟨u,e⟩:=r;injection e with zc;subst zc;rfl|int j=>refine dh r λu e=>?_;contradiction|tup vs=>refine gN r λo o o e o=>?_;contradiction|ref a=>exact by contradiction|none=>exact by contradiction|bool b=>exact by contradiction
def aM.TG{a:aa}(k:bO n v=ai)(r:aM h v (.ref a)):∃m vs items c,n=m+1/\v=.tup vs/\eU m vs=ai/\h.get? a=af (gO items c)/\bB h vs items.toList:=by
 induction v using V.casesOn with
  |tup vs=>refine eS r λb items c e g r o=>?_;rw[IE e];induction n using jo with|zero=>exact by contradiction|succ m=>exact(rL m vs items c rfl rfl k g r)
  |ref a=>exact nomatch n,k|str j=>refine dh r λu e=>?_;contradiction|int j=>refine dh r λu e=>?_;contradiction|none=>exact by contradiction|bool b=>exact by contradiction
mutual theorem bO.inj{h:cL}:∀{n:aa}{v v':V}{x:aF},bO n v=ai->bO n v'=ai->aM h v x->aM h v' x->v=v'|_,.int _,_,_,_,k',⟨_,e⟩,r'=>(aM.ofInt k' (e▸r')).symm|_,.str _,_,_,_,k',⟨_,e⟩,r'=>(aM.ofStr k' (e▸r')).symm|n,.tup vs,v',x,k,k',⟨a,i,c,e,g,r,_⟩,r'=>by obtain⟨m,us,j,d,rfl,rfl,k2,g2,r2⟩:=aM.TG k' (e▸r');cases g.symm.trans g2;exact aO V.tup (eU.inj (v:=vs) (v':=us) k k2 r r2)|n,.ref _,_,_,k,_,_,_=>nomatch n,k|n,.none,_,_,k,_,_,_=>nomatch n,k|n,.bool _,_,_,k,_,_,_=>nomatch n,k theorem eU.inj{h:cL}:∀{n:aa}{v v':ag V}{x:ag aF},eU n v=ai->eU n v'=ai->bB h v x->bB h v' x->v=v'|_,[],[],_,_,_,_,_=>rfl|_,[],_::_,_,_,_,e,⟨_,_,e',_⟩=>nomatch e.symm.trans e'|_,_::_,[],_,_,_,⟨_,_,e',_⟩,e=>nomatch e.symm.trans e'|_,v::vs,u::us,_,k,k',⟨x,xs,e,a,b⟩,⟨y,ys,e',a',b'⟩=>by cases e.symm.trans e';have k:=bM.mp k;have k':=bM.mp k';rw[bO.inj k.1 k'.1 a a',eU.inj k.2 k'.2 b b']end
inductive eH(w:aZ)(h:cL):ag (V×V)->ag DV->Prop|nil:eH w h [] []|cons{k v kx x es ds}:aM h k kx->aM h v x->bO 7 k=ai->eH w h es ds->eH w h ((k,v)::es) (⟨V.hash w k,kx,x⟩::ds)
inductive eV(w:aZ)(h:cL):ag V->ag (bp×aF)->Prop|nil:eV w h [] []|cons{v x vs xs}:aM h v x->bO 7 v=ai->eV w h vs xs->eV w h (v::vs) ((V.hash w v,x)::xs)
def j6(w:aZ)(h:cL):aV->cY->Prop|.list vs,o=>∃items n,o=listOf items n/\bB h vs items.toList|.dict es,o=>∃ds n,o=jG ds n/\eH w h es ds/\(es.map (·.1)).Nodup|.set vs,o=>∃es n t,o=⟨.type "set",ah,.set es n t,#[]⟩/\eV w h vs es.toList/\es.size<64/\fK t es.size/\t.led=!w.params.followText "set-order"|.inst C dx,o=>o=SK C dx|.attrs es,o=>∃ds n,o=jG ds n/\ju h es ds/\ds.length<=100|.range a b,o=>∃t u v,o={cls:=.type "range",dict:=ah,data:=.fields #[.int a t,.int b u,.int 1 v],slots:=#[]}|.items d,o=>o={cls:=.type "dict_items",dict:=ah,data:=.fields #[.ref d],slots:=#[]}
def ju.keep(k:cK h h')(r:ju h es ds):ju h' es ds:=by induction r with|nil=>exact .nil|cons a _ ih=>exact .cons (a.keep k) ih
def eH.keep(k:cK h h')(r:eH w h es ds):eH w h' es ds:=by induction r with|nil=>exact .nil|cons a b c _ ih=>exact .cons (a.keep k) (b.keep k) c ih
def eV.keep(k:cK h h')(r:eV w h es ds):eV w h' es ds:=by induction r with|nil=>exact .nil|cons a c _ ih=>exact .cons (a.keep k) c ih
def j6.keep(k:cK h h')(r:j6 w h o ro):j6 w h' o ro:=by induction o with|list vs=>refine eR r λi n a b=>?_;exact(eK i n a (b.keep k))|dict vs=>refine ba r λi n a b c=>?_;exact(bZ i n a (b.keep k) c)|set vs=>refine fX r λi n t a b c=>?_;exact⟨i,n,t,a,b.keep k,c⟩|inst C dx=>exact r|attrs vs=>refine ba r λi n a b c=>?_;exact(bZ i n a (b.keep k) c)|range a b=>exact r|items d=>exact r
def j6.xX(r:j6 w h o ro):ro.cls≠.type "tuple":=by induction o with|list vs=>refine eR r λi n aC b=>?_;rw[aC];(first|(show cS "list"≠_;decide)|(decide))|dict vs=>refine ba r λi n aC b c=>?_;rw[aC];show cS "dict"≠_;decide|set vs=>refine fX r λi n t bT b c=>?_;rw[bT];show cS "set"≠_;decide|inst C dx=>rw[r];exact nofun|attrs vs=>refine eR r λi n aC b=>?_;rw[aC];(first|(decide)|(show cS "dict"≠_;decide))|range a b=>refine xS r λt u v bT=>?_;rw[bT];show cS "range"≠_;decide|items d=>rw[r];show cS "dict_items"≠_;decide
structure bE where
 h:cL
 os:fT
 g:b9 GenState
structure Gd(K:cJ)(h:cL):Prop where
 dM:K.In h
 top:∃mg mb,h.Ns fw mg/\h.Ns AB mb/\∀x:aI,x≠"__name__"->mb x=vM x
 lim:h.NoLimit
def Gd.keeps{K:cJ}(g:Gd K h)(k:∀b o,h.get? b=af o->h'.get? b=af o):Gd K h':=⟨g.dM.keeps k,let⟨mg,mb,a,b,c⟩:=g.top;⟨mg,mb,a.keeps k,b.keeps k,c⟩,g.lim.keeps k⟩
structure SRel(w:aZ)(P:bE)(s:aK)(st:aE):Prop where
 keep:∀b o,P.h.get? b=af o->s.heap.get? b=af o
 apart:∀a o,st a=af o->P.h.get? a=ah
 obj:∀a o,st a=af o->∃ro,s.heap.get? a=af ro/\j6 w s.heap o ro
 os:s.os=P.os
 gens:s.gens=P.g
 big:∀a o,st a=af o->1<a
 wide:∃b o,1<b/\P.h.get? b=af o
 j7:∀a,Hid.hO a=ai->∃o,P.h.get? a=af o
structure aH(w:aZ)(P:bE)(s:aK)(env:bI)(loc:Loc)(st:aE):Prop extends SRel w P s st where
 kind:env.scope.kind=.function
 glob:env.globals=fw
 lZ:env.builtins=AB
 ns:∃m,s.heap.Ns env.locals m/\∀x v,loc x=af v->env.kindOf x=af .local->∃y,m x=af y/\aM s.heap v y
 cells:∀x v,loc x=af v->env.kindOf x=af .cell->∃c y,env.cells.lookup x=af c/\s.heap.IsCell c (af y)/\aM s.heap v y
 cell:∀x c,(x,c)∈env.cells->∃v₀,s.heap.IsCell c v₀
 named:∀x,env.kindOf x=af .cell->(env.cells.lookup x).isSome=ai
 inj:env.cells.Pairwise λx y=>x.2≠y.2
 lx:P.h.get? env.locals=ah
 lst:st env.locals=ah
 cst:∀x c,(x,c)∈env.cells->st c=ah/\P.h.get? c=ah
structure dY(A:cQ)(r:aa):Prop where
 handled:A.handled=ah
 depth:A.depth+2*r<1000
 units:A.units+30*r<9900
def dY.le(a:dY A r)(h:q<=r):dY A q:=⟨a.handled,by have:=a.depth;exact l3 0x3e83a021c2983e83a121c292101120 h this,by have:=a.units;lia⟩
def dY.room(a:dY A r):A.depth<ahm:=by have:=a.depth;unfold ahm;exact br (dE _ _) this
def dY.deeper(a:dY A (r+1)):dY (A.deeper env) r:=⟨a.handled,by have:=a.depth;refine(?_:A.depth+1+_<_);exact l2 0x3e83a121c0d983e83a1d21c092 this,by have:=a.units;refine(?_:A.units+3+_<_);exact l2 0x26ac4a11e2c3b099826ac4a1d1e2c092 this⟩
def dY.line(a:dY A r):A.units<fA:=by have:=a.units;unfold fA;exact br (dE _ _) this
section
variable{w:aZ}{P:bE}{s:aK}{env:bI}{loc:Loc}{st:aE}
def SRel.El{a:aa}(r:SRel w P s st)(h:P.h.get? a=af o):st a=ah:=by cases e:st a with|none=>rfl|some o'=>have:=r.apart a o' e;rw[this]at h;contradiction
noncomputable def own(env:bI)(st:aE)(a:aa):bw:=(st a).isSome||a==env.locals||env.cells.any λp=>p.2==a
def bE.all(env:bI)(st:aE)(s:aK):bE:=⟨ew s.heap (own env st),s.os,s.gens⟩
def bE.rest(st:aE)(s:aK):bE:=⟨ew s.heap λa=>(st a).isSome,s.os,s.gens⟩
def mZ(h1:st a=ah)(h2:a≠env.locals)(h3:∀x,(x,a)∉env.cells):own env st a=aD:=by simp only[own,af7,Option.isSome_eq_false_iff,afC,SQ,agj,D0];exact⟨⟨h1,h2⟩,λp hp q=>h3 p.1 (q▸hp)⟩
def tw{P P':bE}(up:∀b o,P.h.get? b=af o->P'.h.get? b=af o){a:aa}(h:P'.h.get? a=ah):P.h.get? a=ah:=by cases q:P.h.get? a with|none=>rfl|some x=>rw[up a x q]at h;contradiction
def SRel.weak(S:SRel w P s st)(S':SRel w P' s' ak)(up:∀b o,P.h.get? b=af o->P'.h.get? b=af o)(ho:P'.os=P.os)(hg:P'.g=P.g):SRel w P s' ak:=⟨λb o e=>S'.keep b o (up b o e),λa o e=>tw up (S'.apart a o e),S'.obj,S'.os.trans ho,S'.gens.trans hg,S'.big,S.wide,S.j7⟩
def aH.weak(S:SRel w P s st)(F':aH w P' s' AY cu ak)(up:∀b o,P.h.get? b=af o->P'.h.get? b=af o)(ho:P'.os=P.os)(hg:P'.g=P.g):aH w P s' AY cu ak:=⟨S.weak F'.toSRel up ho hg,F'.kind,F'.glob,F'.lZ,F'.ns,F'.cells,F'.cell,F'.named,F'.inj,tw up F'.lx,F'.lst,λx c hc=>⟨(F'.cst x c hc).1,tw up (F'.cst x c hc).2⟩⟩
def xY{p:aa->bw}(q:p b=ai):(ew h p).get? b=ah:=by rw[AX,a0 q]
def TH(e:st a=af o):own env st a=ai:=by unfold own;rw[e];rfl
def TJ:own env st env.locals=ai:=by unfold own;rw[jr,Aw];rfl
def TK{c:aa}(h:(x,c)∈env.cells):own env st c=ai:=by delta own;rw[Iz.mpr (aA _ h (jr c)),Aw]
def aH.sub(F:aH w P s env loc st):∀b o,P.h.get? b=af o->(bE.all env st s).h.get? b=af o:=λb o e=>eD.mpr ⟨mZ (F.El e) (λq=>by rw[q,F.lx]at e;nomatch e) (λx hx=>by rw[(F.cst x b hx).2]at e;nomatch e),F.keep b o e⟩
def aH.hide(F:aH w P s env loc st)(p:aa->bw)(hp:∀b,own env st b=ai->p b=ai)(hP:∀b o,P.h.get? b=af o->p b=aD):aH w ⟨ew s.heap p,s.os,s.gens⟩ s env loc st:=⟨⟨λb o e=>(eD.mp e).2,λa o e=>xY (hp a (TH e)),F.obj,rfl,rfl,F.big,let⟨b,o,x,y⟩:=F.wide;(eK b o x (eD.mpr ⟨hP b o y,F.keep b o y⟩)),λa q=>let⟨o,y⟩:=F.j7 a q;⟨o,eD.mpr ⟨hP a o y,F.keep a o y⟩⟩⟩,F.kind,F.glob,F.lZ,F.ns,F.cells,F.cell,F.named,F.inj,xY (hp _ TJ),F.lst,λx c hc=>⟨(F.cst x c hc).1,xY (hp c (TK hc))⟩⟩
def aH.all(F:aH w P s env loc st):aH w (bE.all env st s) s env loc st:=F.hide _ (λu h=>h) λb o e=>(eD.mp (F.sub b o e)).1
def aH.TL(F:aH w P s env loc st){a:aa}(h:(bE.all env st s).h.get? a=ah):P.h.get? a=ah:=tw F.sub h
def aH.TM(F:aH w P s env loc st)(S':SRel w (bE.all env st s) s' ak):SRel w P s' ak:=F.toSRel.weak S' F.sub F.os F.gens
def aH.back(F:aH w P s env loc st)(F':aH w (bE.all env st s) s' AY cu ak):aH w P s' AY cu ak:=F'.weak F.toSRel F.sub F.os F.gens
def aH.tup(F:aH w P s env loc st){b:aa}(e:s.heap.get? b=af o)(c:o.cls=.type "tuple")(d:o.data=.seq items n):own env st b=aD:=by
 refine mZ ?_ ?_ ?_;·cases q:st b with|none=>rfl|some m=>refine aq (F.obj b m q) λro h1 h2=>?_;rw[e]at h1;obtain rfl:=bR h1;exact bA c h2.xX
 ·rintro rfl;refine aq F.ns λm bQ u=>?_;refine fX bQ λo' es ep h1 h2 u=>?_;rw[e]at h1;obtain rfl:=bR h1;rw[d]at h2;contradiction
 ·intro x hx;refine eR (F.cell x b hx) λv₀ o' h1 h2=>?_;rw[e]at h1;obtain rfl:=bR h1;rw[d]at h2;contradiction
def aH.ly(F:aH w P s env loc st)(F':aH w (bE.all env st s) s' AY cu ak):cK s.heap s'.heap:=λb o items n e c d=>F'.keep b o (eD.mpr ⟨F.tup e c d,e⟩)
def SRel.sub(F:SRel w P s st):∀b o,P.h.get? b=af o->(bE.rest st s).h.get? b=af o:=λb o e=>eD.mpr ⟨by rw[F.El e];rfl,F.keep b o e⟩
def SRel.rest(F:SRel w P s st):SRel w (bE.rest st s) s st where
 keep:=λb o e=>(eD.mp e).2
 apart:=λa o e=>by refine(?_:(ew s.heap λa=>(st a).isSome).get? a=ah);rw[AX,a0 (by simp[e])]
 obj:=F.obj
 os:=rfl
 gens:=rfl
 big:=F.big
 wide:=let⟨b,o,x,y⟩:=F.wide;(eK b o x (F.sub b o y))
 j7:=λa q=>let⟨o,y⟩:=F.j7 a q;⟨o,F.sub a o y⟩
def SRel.back(F:SRel w P s st)(F':SRel w (bE.rest st s) s' ak):SRel w P s' ak:=F.weak F' F.sub F.os F.gens
def SRel.tup(F:SRel w P s st){b:aa}(e:s.heap.get? b=af o)(c:o.cls=.type "tuple"):st b=ah:=by cases q:st b with|none=>rfl|some m=>refine aq (F.obj b m q) λro h1 h2=>?_;rw[e]at h1;obtain rfl:=bR h1;exact bA c h2.xX
def SRel.ly(F:SRel w P s st)(F':SRel w (bE.rest st s) s' ak):cK s.heap s'.heap:=λb o u u e c u=>F'.keep b o (eD.mpr ⟨by rw[F.tup e c];rfl,e⟩)
def aH.JJ(F:aH w P s env loc st)(F':SRel w (bE.rest st s) s' ak):aH w P s' env loc ak:=by
 have kp:∀{b o},s.heap.get? b=af o->st b=ah->s'.heap.get? b=af o:=λ{b o}e q=>F'.keep b o (eD.mpr ⟨by rw[q];rfl,e⟩);have tk:=F.toSRel.ly F';refine aq F.ns λm hm hl=>?_;have TN:s'.heap.Ns env.locals m:=by refine gN hm λo es ep h1 r=>?_;exact⟨o,es,ep,kp h1 F.lst,r⟩
 have cl:∀x c v,(x,c)∈env.cells->s.heap.IsCell c v->s'.heap.IsCell c v:=λx c v hc hv=>by refine aq hv λo h1 h2=>?_;exact(aA o (kp h1 (F.cst x c hc).1) h2)
 have no:∀{b o},s.heap.get? b=af o->st b=ah->ak b=ah:=λ{b o}e q=>by cases z:ak b with|none=>rfl|some m=>have h1:=F'.apart b m z;have h2:(bE.rest st s).h.get? b=af o:=eD.mpr ⟨by rw[q];rfl,e⟩;rw[h1]at h2;nomatch h2
 exact{(F.toSRel.back F')with kind:=F.kind,glob:=F.glob,lZ:=F.lZ,ns:=(aA m TN (λx v a b=>let⟨y,c,d⟩:=hl x v a b;(aA y c (d.keep tk)))),cells:=λx v a b=>let⟨c,y,d,e,f⟩:=F.cells x v a b;(bZ c y d (cl x c _ (mem_of_lookup d) e) (f.keep tk)),cell:=λx c hc=>let⟨v,hv⟩:=F.cell x c hc;(gE v (cl x c v hc hv)),named:=F.named,inj:=F.inj,lx:=F.lx,lst:=let⟨o,_,_,h1,_⟩:=hm;no h1 F.lst,cst:=λx c hc=>⟨let⟨v,o,h1,_⟩:=F.cell x c hc;no h1 (F.cst x c hc).1,(F.cst x c hc).2⟩}
def SRel.tB(F:SRel w P s st)(h:s.heap.objs.size<=a):Hid.hO a=aD:=by cases q:Hid.hO a with|false=>rfl|true=>refine dh (F.j7 a q) λo e=>?_;exact bA (bj (dW (F.keep a o e)) h) (i6 _)
end
end
section
variable [dq:Hid]
def vT{X Y:Prop}(z:if ai=ai then X else Y):X:=z
def vU{X Y:Prop}(z:if aD=ai then X else Y):Y:=z
section
variable(prog:cx)(w:aZ)(K:cJ)
inductive tC(P:bE)(env:bI)(loc:Loc)(Q:V->aE->Prop)(x:aF)(s:aK):Prop|mk(v:V)(st:aE):aM s.heap v x->aH w P s env loc st->Q v st->tC P env loc Q x s
def WE(r:aa)(env:bI)(t:fU aF)(loc:Loc)(st:aE)(Q:V->aE->Prop):Prop:=∀A P s,dY A r->Gd K P.h->aH w P s env loc st->aY (aU prog w) A t (tC w P env loc Q) (λu u=>dv) s
def OV(r:aa)(env:bI)(t:ag aF->fU aF)(vs:ag V)(loc:Loc)(st:aE)(Q:V->aE->Prop):Prop:=∀A P s xs,dY A r->Gd K P.h->aH w P s env loc st->bB s.heap vs xs->aY (aU prog w) A (t xs) (tC w P env loc Q) (λu u=>dv) s
inductive JK(P:bE)(env:bI)(loc:Loc)(Q:bw->aE->Prop)(b:bw)(s:aK):Prop|mk(st:aE):aH w P s env loc st->Q b st->JK P env loc Q b s
def WT(r:aa)(env:bI)(t:fU bw)(loc:Loc)(st:aE)(Q:bw->aE->Prop):Prop:=∀A P s,dY A r->Gd K P.h->aH w P s env loc st->aY (aU prog w) A t (JK w P env loc Q) (λu u=>dv) s
inductive JL(P:bE)(env:bI)(loc:Loc)(Q:ag V->aE->Prop)(xs:ag aF)(s:aK):Prop|mk(vs:ag V)(st:aE):bB s.heap vs xs->aH w P s env loc st->Q vs st->JL P env loc Q xs s
def WL(r:aa)(env:bI)(t:fU (ag aF))(loc:Loc)(st:aE)(Q:ag V->aE->Prop):Prop:=∀A P s,dY A r->Gd K P.h->aH w P s env loc st->aY (aU prog w) A t (JL w P env loc Q) (λu u=>dv) s
inductive Em(P:bE)(env:bI)(N:Loc->aE->Prop)(s:aK):Prop|mk(loc:Loc)(st:aE):aH w P s env loc st->N loc st->Em P env N s
inductive JM(P:bE)(R:V->aE->Prop)(x:aF)(s:aK):Prop|mk(v:V)(st:aE):aM s.heap v x->SRel w P s st->R v st->JM P R x s
def TQ(P:bE)(env:bI)(N:Loc->aE->Prop)(R:V->aE->Prop)(f:Flow)(s:aK):Prop:=match f with|.next=>Em w P env N s|.ret x=>JM w P R x s|_=>dv
def WF(r:aa)(env:bI)(t:fU Flow)(loc:Loc)(st:aE)(N:Loc->aE->Prop)(R:V->aE->Prop):Prop:=∀A P s,dY A r->Gd K P.h->aH w P s env loc st->aY (aU prog w) A t (TQ w P env N R) (λu u=>dv) s
abbrev TR(P:bE)(env:bI)(N:Loc->aE->Prop)(_:kK)(s:aK):Prop:=Em w P env N s
end
section
variable{prog:cx}{w:aZ}{K:cJ}{r:aa}{env:bI}{loc:Loc}{st:aE}{A:cQ}{P:bE}{s:aK}
def WE.mono(h:WE prog w K r env t loc st Q)(k:∀v ak,Q v ak->Q' v ak):WE prog w K r env t loc st Q':=λA P s a g F=>cC (h A P s a g F) (λu u zf=>by obtain⟨v,ak,x,y,z⟩:=zf;exact⟨v,ak,x,y,k v ak z⟩) λu u x=>x
def OV.mono(h:OV prog w K r env t vs loc st Q)(k:∀v ak,Q v ak->Q' v ak):OV prog w K r env t vs loc st Q':=λA P s xs a g F z=>cC (h A P s xs a g F z) (λu u zf=>by obtain⟨v,ak,x,y,z⟩:=zf;exact⟨v,ak,x,y,k v ak z⟩) λu u x=>x
def WF.mono(h:WF prog w K r env t loc st N R)(k:∀l ak,N l ak->N' l ak)(k':∀v ak,R v ak->R' v ak):WF prog w K r env t loc st N' R':=λA P s a g F=>cC (h A P s a g F) (λf s' z=>by induction f with|next=>obtain⟨l,ak,x,y⟩:=z;exact⟨l,ak,x,k _ _ y⟩|ret v=>obtain⟨l,ak,x,y,z⟩:=z;exact⟨l,ak,x,y,k' _ _ z⟩|_=>exact z) λu u x=>x
structure En(P:bE)(env:bI)(st:aE)(s s':aK):Prop where
 keep:∀b o,s.heap.get? b=af o->own env st b=aD->s'.heap.get? b=af o
 tup:cK s.heap s'.heap
def WE.use(h:WE prog w K r env t loc st Q)(a:dY A r)(g:Gd K P.h)(F:aH w P s env loc st)(k:∀x s' v ak,aM s'.heap v x->aH w P s' env loc ak->Q v ak->En P env st s s'->R x s'):aY (aU prog w) A t R (λu u=>dv) s:=cC (h A (bE.all env st s) s a (g.keeps F.sub) F.all) (λx s'⟨v,ak,p,q,z⟩=>k x s' v ak p (F.back q) z ⟨λb o e o'=>q.keep b o (eD.mpr (dD o' e)),F.ly q⟩) λu u x=>x
def WL.use(h:WL prog w K r env t loc st Q)(a:dY A r)(g:Gd K P.h)(F:aH w P s env loc st)(k:∀x s' v ak,bB s'.heap v x->aH w P s' env loc ak->Q v ak->En P env st s s'->R x s'):aY (aU prog w) A t R (λu u=>dv) s:=cC (h A (bE.all env st s) s a (g.keeps F.sub) F.all) (λx s'⟨v,ak,p,q,z⟩=>k x s' v ak p (F.back q) z ⟨λb o e o'=>q.keep b o (eD.mpr (dD o' e)),F.ly q⟩) λu u x=>x
def aH.tok(F:aH w P s env loc st)(t:aa):aH w P {s with toks:=t} env loc st:={F with keep:=F.keep,apart:=F.apart,obj:=F.obj,os:=F.os,gens:=F.gens}
def aH.grow(F:aH w P s env loc st)(k:∀b o,s.heap.get? b=af o->h'.get? b=af o):aH w P {s with heap:=h'} env loc st:=have tk:cK s.heap h':=λb o j j e j j=>k b o e;{F with keep:=λb o e=>k b o (F.keep b o e),apart:=F.apart,obj:=λa o e=>let⟨ro,x,y⟩:=F.obj a o e;(aA ro (k _ _ x) (y.keep tk)),os:=F.os,gens:=F.gens,ns:=let⟨m,x,y⟩:=F.ns;(aA m (x.keeps k) (λn v p q=>let⟨z,u,t⟩:=y n v p q;(aA z u (t.keep tk)))),cells:=λx v p q=>let⟨c,y,u,t,z⟩:=F.cells x v p q;(bZ c y u (t.keeps k) (z.keep tk)),cell:=λx c hc=>let⟨v,hv⟩:=F.cell x c hc;(gE v (hv.keeps k))}
def aH.put{a:aa}(F:aH w P s env loc st)(k:∀b x,b≠a->s.heap.get? b=af x->h'.get? b=af x)(ha:(st a).isSome=ai\/(s.heap.get? a=ah/\1<a))(ho:∃ro,h'.get? a=af ro/\j6 w h' o ro):aH w P {s with heap:=h'} env loc (st.put a o):=by
 have TS:∀ro,s.heap.get? a=af ro->ro.cls≠.type "tuple":=λro e=>by
  rcases ha with q|q;·obtain⟨m,q⟩:=mJ.mp q;refine aq (F.obj a m q) λTU x y=>?_;rw[e]at x;rw[bR x];exact y.xX
  ·rw[q.1]at e;nomatch e
 have tk:cK s.heap h':=λb o j j e c j=>k b o (λq=>TS o (q▸e) c) e;have nP:P.h.get? a=ah:=by
  rcases ha with q|q;·obtain⟨m,q⟩:=mJ.mp q;exact F.apart a m q
  ·cases e:P.h.get? a with|none=>rfl|some x=>rw[F.keep _ _ e]at q;nomatch q.1
 have nL:env.locals≠a:=λq=>by
  rcases ha with z|z;·rw[←q,F.lst]at z;nomatch z
  ·refine aq F.ns λm bQ j=>?_;refine gN bQ λj j j h1 j=>?_;rw[q,z.1]at h1;nomatch h1
 have nC:∀x c,(x,c)∈env.cells->c≠a:=λx c hc q=>by
  rcases ha with z|z;·rw[←q,(F.cst x c hc).1]at z;nomatch z
  ·refine eR (F.cell x c hc) λv o h1 j=>?_;rw[q,z.1]at h1;nomatch h1
 have kc:∀{x c v},(x,c)∈env.cells->s.heap.IsCell c v->h'.IsCell c v:=λ{x c v}hc zf=>aq zf λo h1 h2=>(aA o (k _ _ (nC x c hc) h1) h2);exact{F with
  keep:=λb o e=>k b o (λq=>by rw[q,nP]at e;nomatch e) (F.keep b o e),apart:=λb x e=>by
   by_cases q:b=a;·rw[q];exact nP
   ·rw[aE.gj q]at e;exact F.apart b x e,obj:=λb x e=>by
   by_cases q:b=a;·subst q;rw[aE.lY]at e;rw[←bR e];exact ho
   ·rw[aE.gj q]at e;refine aq (F.obj b x e) λro u v=>?_;exact(aA ro (k _ _ q u) (v.keep tk)),os:=F.os,gens:=F.gens,big:=λb x e=>by
   by_cases q:b=a;·
    subst q;rcases ha with z|z;·obtain⟨m,z⟩:=mJ.mp z;exact F.big b m z
    ·exact z.2
   ·rw[aE.gj q]at e;exact F.big b x e,ns:=by refine aq F.ns λm bQ y=>?_;refine gN bQ λo es ep h1 h2=>?_;exact(aA m ⟨o,es,ep,k _ _ nL h1,h2⟩ (λn v p q=>let⟨z,u,t⟩:=y n v p q;(aA z u (t.keep tk)))),cells:=λx v p q=>let⟨c,y,u,t,z⟩:=F.cells x v p q;(bZ c y u (kc (mem_of_lookup u) t) (z.keep tk)),cell:=λx c hc=>let⟨v,hv⟩:=F.cell x c hc;(gE v (kc hc hv)),lst:=by rw[aE.gj nL];exact F.lst,cst:=λx c hc=>⟨by rw[aE.gj (nC x c hc)];exact(F.cst x c hc).1,(F.cst x c hc).2⟩}
def aH.new(F:aH w P s env loc st)(hf:ro.isFreed=aD)(ho:∀h',cK s.heap h'->j6 w h' o ro):st s.heap.objs.size=ah/\aH w P {s with heap:=s.heap.push ro} env loc (st.put s.heap.objs.size o):=by
 have e:s.heap.get? s.heap.objs.size=ah:=by cases q:s.heap.get? s.heap.objs.size with|none=>rfl|some x=>exact bA (dW q) (i6 _)
 have e1:=let⟨b,x,h1,h2⟩:=F.wide;df h1 (dW (F.keep b x h2));refine⟨?_,F.put (λb x u e=>cB _ e) (.inr ⟨e,e1⟩) (aA ro (eG _ hf) (ho _ λb x u u e u u=>cB _ e))⟩;cases q:st s.heap.objs.size with|none=>rfl|some m=>refine aq (F.obj _ m q) λro x u=>?_;rw[e]at x;nomatch x
def aH.TX(F:aH w P s env loc st)(hk:env.kindOf x=af .local)(hv:aM s.heap v y)(hm:s.heap.Ns env.locals m)(hl:∀x v,loc x=af v->env.kindOf x=af .local->∃y,m x=af y/\aM s.heap v y)(hn:h'.Ns env.locals λz=>if z=x then af y else m z)(sb:s9 env.locals s.heap h')(t:aa):aH w P {s with heap:=h',toks:=t} env (loc.up x v) st:=by
 have k:∀{b o},b≠env.locals->s.heap.get? b=af o->h'.get? b=af o:=λ{b o}q e=>(sb.2 b q).trans e;have tk:cK s.heap h':=λb o i n e j d=>k (λq=>by refine fX hm λo' es ep h1 h2 j=>?_;rw[q,h1]at e;injection e with zc;subst zc;rw[d]at h2;contradiction) e;have nC:∀x c,(x,c)∈env.cells->c≠env.locals:=λx c hc q=>by refine eR (F.cell x c hc) λv o h1 h2=>?_;refine fX hm λo' es ep h3 h4 j=>?_;rw[q,h3]at h1;injection h1 with zc;subst zc;rw[h2]at h4;contradiction
 have kc:∀{x c v},(x,c)∈env.cells->s.heap.IsCell c v->h'.IsCell c v:=λ{x c v}hc zf=>aq zf λo h1 h2=>(aA o (k (nC x c hc) h1) h2);exact{F with
  keep:=λb o e=>k (λq=>by rw[q,F.lx]at e;nomatch e) (F.keep b o e),apart:=F.apart,obj:=λb o e=>by refine aq (F.obj b o e) λro u z=>?_;exact(aA ro (k (λq=>by rw[q,F.lst]at e;nomatch e) u) (z.keep tk)),os:=F.os,gens:=F.gens,ns:=(aA _ hn (λn u p q=>by
   delta Loc.up at p;by_cases z:n=x;·subst z;rw[a0 rfl]at p;rw[←bR p];exact(aA y (a0 rfl) (hv.keep tk))
   ·rw[aX z]at p;refine aq (hl n u p q) λy' a b=>?_;exact(aA y' (by exact(aX z)▸a) (b.keep tk)))),cells:=λn u p q=>by
   delta Loc.up at p;by_cases z:n=x;·subst z;rw[hk]at q;nomatch q
   ·rw[aX z]at p;refine ba (F.cells n u p q) λc y' a b d=>?_;exact(bZ c y' a (kc (mem_of_lookup a) b) (d.keep tk)),cell:=λx c hc=>let⟨v,hv⟩:=F.cell x c hc;(gE v (kc hc hv))}
def aH.TY(F:aH w P s env loc st)(hk:env.kindOf x=af .cell)(hv:aM s.heap v y)(hc:env.cells.lookup x=af c)(hn:h'.IsCell c (af y))(sb:s9 c s.heap h'):aH w P {s with heap:=h'} env (loc.up x v) st:=by
 have k:∀{b o},b≠c->s.heap.get? b=af o->h'.get? b=af o:=λ{b o}q e=>(sb.2 b q).trans e;have hm:=mem_of_lookup hc;refine eR (F.cell x c hm) λv₀ oc JN JO=>?_;have tk:cK s.heap h':=λb o i n e j d=>k (λq=>by rw[q,JN]at e;injection e with zc;subst zc;rw[d]at JO;contradiction) e;have nL:env.locals≠c:=λq=>by obtain⟨m,⟨o',es,ep,h3,h4,_⟩,_⟩:=F.ns;rw[q,JN]at h3;injection h3 with zc;subst zc;rw[JO]at h4;contradiction
 exact{F with
  keep:=λb o e=>k (λq=>by rw[q,(F.cst x c hm).2]at e;nomatch e) (F.keep b o e),apart:=F.apart,obj:=λb o e=>by refine aq (F.obj b o e) λro u z=>?_;exact(aA ro (k (λq=>by rw[q,(F.cst x c hm).1]at e;nomatch e) u) (z.keep tk)),os:=F.os,gens:=F.gens,ns:=by
   obtain⟨m,⟨o,es,ep,h1,h2⟩,hl⟩:=F.ns;exact(aA m ⟨o,es,ep,k nL h1,h2⟩ (λn u p q=>by
    delta Loc.up at p;by_cases z:n=x;·subst z;rw[hk]at q;nomatch q
    ·rw[aX z]at p;refine aq (hl n u p q) λy' a b=>?_;exact(aA y' a (b.keep tk)))),cells:=λn u p q=>by
   delta Loc.up at p;by_cases z:n=x;·subst z;rw[a0 rfl]at p;obtain rfl:=bR p;exact(bZ c y hc hn (hv.keep tk))
   ·rw[aX z]at p;refine ba (F.cells n u p q) λc' y' a b d=>?_;refine(bZ c' y' a ?_ (d.keep tk));refine aq b λo h1 h2=>?_;exact(aA o (k (λe=>z (name_of_addr F.inj (mem_of_lookup a) (e▸hm))) h1) h2),cell:=λn c' TZ=>by
   by_cases q:c'=c;·exact q▸((gE _ hn))
   ·refine eR (F.cell n c' TZ) λv o h1 h2=>?_;exact(eK v o (k q h1) h2)}
def Eo(F:aH w P s env loc st)(hv:aM s.heap v y)(hk:env.kindOf x=af .local\/env.kindOf x=af .cell)(h:∀s',aH w P s' env (loc.up x v) st->Q () s'):aY (aU prog w) A (storeName env x y) Q (λu u=>dv) s:=by
 rcases hk with hk|hk;·refine aq F.ns λm hm hl=>?_;exact wpAny_storeName_local hk hm (λh' hn sb=>h _ (F.TX hk hv hm hl hn sb _)) (by rw[F.kind];rfl)
 ·refine dh (mJ.mp (F.named x hk)) λc hc=>?_;obtain⟨v₀,T3⟩:=F.cell x c (mem_of_lookup hc);exact wpAny_storeName_cell F.kind hk hc T3 λh' hn sb=>h _ (F.TY hk hv hc hn sb)
def Ep(F:aH w P s env loc st)(hv:aM s.heap v y)(hk:env.kindOf x=af .local\/env.kindOf x=af .cell)(h:∀s',aH w P s' env (loc.up x v) st->Q () s'):aY (aU prog w) A (vO (.Name x pos) env y) Q (λu u=>dv) s:=wpAny_assign_Name (Eo F hv hk h)
def T4(hl:loc x=af v)(h:Q v st)(hk:aB ((env.kindOf x==af .local||env.kindOf x==af .cell)=ai) tT)(hd:aB ((x==("__debug__":aI))=aD) tF):WE prog w K r env (bc (.Name x pos) env) loc st Q:=λA P s a g F=>by
 refine wpAny_Name ?_ hd;simp only[DF,D0]at hk;rcases hk with hk|hk;·refine aq F.ns λm hm z=>?_;refine aq (z x v hl hk) λy e q=>?_;exact wpAny_loadName_local F.kind hk hm e ⟨v,st,q,F,h⟩
 ·refine ba (F.cells x v hl hk) λc y e q z=>?_;exact wpAny_loadName_cell F.kind hk e q ⟨v,st,z,F,h⟩
def JP(h:N loc st):WF prog w K r env (mV [] env) loc st N R:=λA P s a g F=>IH ⟨loc,st,F,h⟩
def JQ(h:WF prog w K r env (j3 x env) loc st (λl ak=>WF prog w K r env (mV xs env) l ak N R) R):WF prog w K r env (mV (x::xs) env) loc st N R:=λA P s a g F=>by refine wpAny_execs_cons (cC (h A P s a g F) (λf s' z=>?_) λu u x=>x);induction f with|next=>obtain⟨l,ak,x,y⟩:=z;exact y A P s' a g x|_=>exact z
def T5(h:WE prog w K r env (bc e env) loc st R):WF prog w K r env (j3 (.Return (af e) pos) env) loc st N R:=λA P s a g F=>wpAny_Return_some (cC (h A P s a g F) (λx s' zf=>by obtain⟨v,ak,p,q,z⟩:=zf;exact⟨v,ak,p,q.toSRel,z⟩) λu u x=>x)
def T6(h:WE prog w K r env (bc e env) loc st λu ak=>N loc ak)(hi:aB (interactive env=aD) tF)(hs:aB (qd e ah pos.line env=pure aD) tR):WF prog w K r env (j3 (.Expr e pos) env) loc st N R:=λA P s a g F=>wpAny_Expr_any (cC (h A P s a g F) (λx s' zf=>by obtain⟨v,ak,_,q,z⟩:=zf;exact⟨loc,ak,q,z⟩) λu u x=>x) hi hs
def T7(h:WE prog w K r env (bc e env) loc st λv ak=>N (loc.up x v) ak)(hk:aB ((env.kindOf x==af .local||env.kindOf x==af .cell)=ai) tT)(hs:aB (qd e (af (.Name x pos')) pos.line env=pure aD) tR):WF prog w K r env (j3 (.Assign [.Name x pos'] e pos) env) loc st N R:=λA P s a g F=>wpAny_Assign_Name (cC (h A P s a g F) (λx' s'⟨v,ak,p,q,z⟩=>Eo q p (by simpa using hk) λnO F'=>⟨_,_,F',z⟩) λu u x=>x) hs
def T8(h:WT prog w K r env (fe c env (bc c env)) loc st λx ak=>if x then WF prog w K r env (mV b env) loc ak N R else WF prog w K r env (mV e env) loc ak N R):WF prog w K r env (j3 (.If c b e pos) env) loc st N R:=λA P s a g F=>by refine wpAny_If (cC (h A P s a g F) (λx s'⟨ak,q,z⟩=>?_) λu u x=>x);induction x with|true=>exact vT z A P s' a g q|false=>exact vU z A P s' a g q
end
end
section
variable [dq:Hid]
section
variable{prog:cx}{w:aZ}{K:cJ}{r:aa}{env:bI}{loc:Loc}{st:aE}{A:cQ}{P:bE}{s:aK}
abbrev dI(prog:cx)(w:aZ)(K:cJ)(r:aa)(env:bI)(t:aF->aF->fU aF)(u v:V)(loc:Loc)(st:aE)(Q:V->aE->Prop):Prop:=∀A P s x y,dY A r->Gd K P.h->aH w P s env loc st->aM s.heap u x->aM s.heap v y->aY (aU prog w) A (t x y) (tC w P env loc Q) (λo o=>dv) s
abbrev AZ(prog:cx)(w:aZ)(K:cJ)(r:aa)(env:bI)(t:aF->fU aF)(u:V)(loc:Loc)(st:aE)(Q:V->aE->Prop):Prop:=∀A P s x,dY A r->Gd K P.h->aH w P s env loc st->aM s.heap u x->aY (aU prog w) A (t x) (tC w P env loc Q) (λo o=>dv) s
def T9(h:dI prog w K r env t u v loc st Q)(a:dY A r)(g:Gd K P.h)(F:aH w P s env loc st)(ru:aM s.heap u x)(rv:aM s.heap v y)(k:∀x s' v ak,aM s'.heap v x->aH w P s' env loc ak->Q v ak->En P env st s s'->R x s'):aY (aU prog w) A (t x y) R (λj j=>dv) s:=cC (h A (bE.all env st s) s x y a (g.keeps F.sub) F.all ru rv) (λx s'⟨v,ak,p,q,z⟩=>k x s' v ak p (F.back q) z ⟨λb o e o'=>q.keep b o (eD.mpr (dD o' e)),F.ly q⟩) λj j x=>x
def Ua(h:Q (.int i) st):WE prog w K r env (bc (.Constant (.int i) k pos) env) loc st Q:=λA P s a g F=>Iw ⟨_,st,.int _ _,F.tok _,h⟩
def Ub(h:Q (.str x) st):WE prog w K r env (bc (.Constant (.str x) k pos) env) loc st Q:=λA P s a g F=>Calls.Constant_str ⟨_,st,.str _ _,F.tok _,h⟩
def Uc(h:Q (.bool x) st):WE prog w K r env (bc (.Constant (.bool x) k pos) env) loc st Q:=λA P s a g F=>aG ⟨_,st,.bool _,F,h⟩
def Ud(h:Q .none st):WE prog w K r env (bc (.Constant .none k pos) env) loc st Q:=λA P s a g F=>aG ⟨_,st,.none,F,h⟩
def Ue(h:WE prog w K r env (bc x env) loc st λu ak=>AZ prog w K r env (unaryOp op) u loc ak Q):WE prog w K r env (bc (.UnaryOp op x pos) env) loc st Q:=λA P s a g F=>wpAny_UnaryOp (h.use a g F λx s' v ak rv F' z o=>z A P s' x a g F' rv)
def Ug(h:WE prog w K r env (bc x env) loc st λu aQ=>WE prog w K r env (bc y env) loc aQ λv bP=>dI prog w K r env (mS op) u v loc bP Q):WE prog w K r env (bc (.BinOp x op y pos) env) loc st Q:=λA P s a g F=>wpAny_BinOp (h.use a g F λx s1 u aQ ru F1 z1 o=>z1.use a g F1 λy s2 v bP rv F2 z2 k2=>z2 A P s2 x y a g F2 (ru.keep k2.tup) rv)
def Uh(h:WE prog w K r env (bc x env) loc st λu aQ=>WE prog w K r env (bc y env) loc aQ λv bP=>dI prog w K r env (fJ op) u v loc bP Q)(hm:aB (i7 op y=aD) tU):WE prog w K r env (bc (.Compare x [op] [y] pos) env) loc st Q:=λA P s a g F=>wpAny_Compare1 (h.use a g F λx s1 u aQ ru F1 z1 o=>z1.use a g F1 λy s2 v bP rv F2 z2 k2=>z2 A P s2 x y a g F2 (ru.keep k2.tup) rv) hm
def JR(h:WT prog w K r env (fe c env (bc c env)) loc st λb ak=>if b then WE prog w K r env (bc x env) loc ak Q else WE prog w K r env (bc y env) loc ak Q):WE prog w K r env (bc (.IfExp c x y pos) env) loc st Q:=λA P s a g F=>by refine wpAny_IfExp (cC (h A P s a g F) (λb s'⟨ak,q,z⟩=>?_) λu u x=>x);induction b with|true=>exact vT z A P s' a g q|false=>exact vU z A P s' a g q
def Ui(h:WE prog w K r env (bc x env) loc st λu aQ=>∃b,u=.bool b/\if b then WE prog w K r env (bc y env) loc aQ Q else Q (.bool aD) aQ):WE prog w K r env (bc (.BoolOp .And [x,y] pos) env) loc st Q:=λA P s a g F=>by refine wpAny_And2 (h.use a g F λx s1 u aQ ru F1 z o=>?_);obtain⟨b,rfl,z⟩:=z;subst ru;refine vB ?_;induction b with|true=>exact vT z A P s1 a g F1|false=>exact⟨_,_,.bool _,F1,vU z⟩
def Uj(h:WT prog w K r env (fe x env (bc x env)) loc st λb ak=>Q (!b) ak):WT prog w K r env (fe (.UnaryOp .Not x pos) env whole) loc st Q:=λA P s a g F=>wpAny_isTrue_Not (cC (h A P s a g F) (λb s' zf=>by obtain⟨ak,q,z⟩:=zf;exact⟨ak,q,z⟩) λu u x=>x)
def Uk(h:WE prog w K r env (bc e env) loc st λu ak=>∃b,u=.bool b/\Q b ak)(he:aB (fe e env (bc e env)=(do let v←bc e env;mU e.pos;o9 [v] (truthy v))) tR):WT prog w K r env (fe e env (bc e env)) loc st Q:=λA P s a g F=>by refine isTrue_plain (cC (h A P s a g F) (λx s'⟨v,ak,rv,F',b,e,z⟩=>?_) λo o x=>x) he;subst e;rw[rv];exact vB ⟨ak,F',z⟩
def Ul(h:WE prog w K r env (bc x env) loc st λu aQ=>WE prog w K r env (bc y env) loc aQ λv bP=>dI prog w K r env (fJ op) u v loc bP λc ma=>∃b,c=.bool b/\Q b ma)(hm:aB (i7 op y=aD) tU):WT prog w K r env (fe (.Compare x [op] [y] pos) env whole) loc st Q:=λA P s a g F=>by refine wpAny_isTrue_Compare1 (h.use a g F λx s1 u aQ ru F1 z1 o=>z1.use a g F1 λy s2 v bP rv F2 z2 k2=>cC (z2 A P s2 x y a g F2 (ru.keep k2.tup) rv) (λc s3⟨v,ma,rc,F3,b,e,z⟩=>?_) λo o x=>x) hm;subst e;rw[rc];exact vB ⟨ma,F3,z⟩
def Um(h:Q ai st):WT prog w K r env (fe (.BoolOp .And [] pos) env whole) loc st Q:=λA P s a g F=>isTrue_and_nil ⟨st,F,h⟩
def JS(h:Q aD st):WT prog w K r env (fe (.BoolOp .Or [] pos) env whole) loc st Q:=λA P s a g F=>isTrue_or_nil ⟨st,F,h⟩
def JT(h:WT prog w K r env (fe x env (bc x env)) loc st λb ak=>if b then WT prog w K r env (fe (.BoolOp .And rest pos) env whole) loc ak Q else Q aD ak):WT prog w K r env (fe (.BoolOp .And (x::rest) pos) env whole) loc st Q:=λA P s a g F=>by refine isTrue_and (cC (h A P s a g F) (λb s'⟨ak,q,z⟩=>?_) λu u x=>x);induction b with|true=>exact vT z A P s' a g q|false=>exact⟨ak,q,vU z⟩
def xZ(h:WT prog w K r env (fe x env (bc x env)) loc st λb ak=>if b then Q ai ak else WT prog w K r env (fe (.BoolOp .Or rest pos) env whole) loc ak Q):WT prog w K r env (fe (.BoolOp .Or (x::rest) pos) env whole) loc st Q:=λA P s a g F=>by refine isTrue_or (cC (h A P s a g F) (λb s'⟨ak,q,z⟩=>?_) λu u x=>x);induction b with|true=>exact⟨ak,q,vT z⟩|false=>exact vU z A P s' a g q
def Un(h:WE prog w K r env (bc x env) loc st λu aQ=>WE prog w K r env (bc y env) loc aQ λv bP=>dI prog w K r env (fJ o1) u v loc bP λc ma=>∃b,c=.bool b/\if b then WE prog w K r env (bc z env) loc ma λt A0=>dI prog w K r env (fJ o2) v t loc A0 λc nQ=>∃b,c=.bool b/\Q b nQ else Q aD ma)(hm:aB (lastMarks [o1,o2] [y,z]=aD) tU):WT prog w K r env (fe (.Compare x [o1,o2] [y,z] pos) env whole) loc st Q:=λA P s a g F=>by refine isTrue_chain (h.use a g F λx s1 u aQ ru F1 z1 o=>?_) hm;refine wb (dU (z1.use a g F1 λy s2 v bP rv F2 z2 k2=>wb (lV (wb (dU ?_)))));refine T9 z2 a g F2 (ru.keep k2.tup) rv λc s3 cv ma rc F3 z3 k3=>?_;obtain⟨b,rfl,z3⟩:=z3;subst rc;refine wb (wpAny_release' (wb (dU (vB ?_))));induction b with|false=>exact aG ⟨_,F3,z3⟩|true=>refine wb (dU (z3.use a g F3 λt s4 tv A0 rt F4 z4 k4=>wb (lV (wb (wpAny_operate' (cC (z4 A P s4 _ _ a g F4 ((rv.keep k3.tup).keep k4.tup) rt) (λc s5⟨c',nQ,rc,F5,b,e,z⟩=>?_) λo o x=>x))))));subst e;rw[rc];exact dU (vB ⟨nQ,F5,z⟩)
def JU(h:Q (.int (a+b)) st):dI prog w K r env (mS .Add) (.int a) (.int b) loc st Q:=λA P s x y u u F ru rv=>by obtain⟨_,rfl⟩:=ru;obtain⟨_,rfl⟩:=rv;exact add_int ⟨_,st,.int _ _,F.tok _,h⟩
def Uo(h:Q (.int (a-b)) st):dI prog w K r env (mS .Sub) (.int a) (.int b) loc st Q:=λA P s x y u u F ru rv=>by obtain⟨_,rfl⟩:=ru;obtain⟨_,rfl⟩:=rv;exact sub_int ⟨_,st,.int _ _,F.tok _,h⟩
def Up(hm:IntMulOk a b)(h:Q (.int (a*b)) st):dI prog w K r env (mS .Mult) (.int a) (.int b) loc st Q:=λA P s x y u u F ru rv=>by obtain⟨_,rfl⟩:=ru;obtain⟨_,rfl⟩:=rv;exact mul_int ⟨_,st,.int _ _,F.tok _,h⟩ hm
def Uq(hb:b≠0)(h:Q (.int (a.fmod b)) st):dI prog w K r env (mS .Mod) (.int a) (.int b) loc st Q:=λA P s x y u u F ru rv=>by obtain⟨_,rfl⟩:=ru;obtain⟨_,rfl⟩:=rv;exact mod_int hb ⟨_,st,.int _ _,F.tok _,h⟩
def Ur(h:Q (.int (-a)) st):AZ prog w K r env (unaryOp .USub) (.int a) loc st Q:=λA P s x u u F ru=>by obtain⟨_,rfl⟩:=ru;exact neg_int ⟨_,st,.int _ _,F.tok _,h⟩
def JV(h:Q (.bool (decide (a<b))) st):dI prog w K r env (fJ .Lt) (.int a) (.int b) loc st Q:=λA P s x y u u F ru rv=>by obtain⟨_,rfl⟩:=ru;obtain⟨_,rfl⟩:=rv;exact lt_int ⟨_,st,.bool _,F,h⟩
def JW(h:Q (.bool (decide (a<=b))) st):dI prog w K r env (fJ .LtE) (.int a) (.int b) loc st Q:=λA P s x y u u F ru rv=>by obtain⟨_,rfl⟩:=ru;obtain⟨_,rfl⟩:=rv;exact le_int ⟨_,st,.bool _,F,h⟩
def Us(h:Q (.bool (decide (a>b))) st):dI prog w K r env (fJ .Gt) (.int a) (.int b) loc st Q:=λA P s x y u u F ru rv=>by obtain⟨_,rfl⟩:=ru;obtain⟨_,rfl⟩:=rv;exact gt_int ⟨_,st,.bool _,F,h⟩
def Ut(h:Q (.bool (decide (a>=b))) st):dI prog w K r env (fJ .GtE) (.int a) (.int b) loc st Q:=λA P s x y u u F ru rv=>by obtain⟨_,rfl⟩:=ru;obtain⟨_,rfl⟩:=rv;exact ge_int ⟨_,st,.bool _,F,h⟩
def JX(h:Q (.bool (decide (a=b))) st):dI prog w K r env (fJ .Eq) (.int a) (.int b) loc st Q:=λA P s x y u u F ru rv=>by obtain⟨_,rfl⟩:=ru;obtain⟨_,rfl⟩:=rv;exact eq_int ⟨_,st,(by exact .bool _),F,h⟩
def Uu(h:Q (.bool (decide (a≠b))) st):dI prog w K r env (fJ .NotEq) (.int a) (.int b) loc st Q:=λA P s x y u u F ru rv=>by obtain⟨_,rfl⟩:=ru;obtain⟨_,rfl⟩:=rv;exact ne_int ⟨_,st,(by exact(show(a !=b)=decide (a≠b)from by by_cases e:a=b<;>simp[e])▸(.bool _)),F,h⟩
def JY(h:Q (.bool (decide (a=b))) st):dI prog w K r env (fJ .Eq) (.str a) (.str b) loc st Q:=λA P s x y u u F ru rv=>by obtain⟨_,rfl⟩:=ru;obtain⟨_,rfl⟩:=rv;exact eq_str ⟨_,st,(by exact .bool _),F,h⟩
def Uv(h:Q (.bool (decide (a≠b))) st):dI prog w K r env (fJ .NotEq) (.str a) (.str b) loc st Q:=λA P s x y u u F ru rv=>by obtain⟨_,rfl⟩:=ru;obtain⟨_,rfl⟩:=rv;exact ne_str ⟨_,st,(by exact(show(a !=b)=decide (a≠b)from by by_cases e:a=b<;>simp[e])▸(.bool _)),F,h⟩
def Uw(h:Q (.bool ai) st):dI prog w K r env (fJ .Is) .none .none loc st Q:=λA P s x y u u F ru rv=>by rw[ru];rw[rv];exact wpAny_is_plain (by rfl) ⟨_,st,.bool _,F,h⟩
def Ux(h:Q (.bool aD) st):dI prog w K r env (fJ .Is) (.tup vs) .none loc st Q:=λA P s x y u u F ru rv=>by refine gN ru λu u u bT u=>?_;rw[bT];rw[rv];exact wpAny_is_other (by rfl) nofun ⟨_,st,.bool _,F,h⟩
def Uy(h:Q (.bool ai) st):dI prog w K r env (fJ .IsNot) (.ref v) .none loc st Q:=λA P s x y u u F ru rv=>by rw[ru];rw[rv];exact wpAny_isNot_other (by rfl) nofun ⟨_,st,.bool _,F,h⟩
def JZ(h:Q [] st):WL prog w K r env (o7 []) loc st Q:=λA P s a g F=>Calls.spliced_nil ⟨[],st,.nil,F,h⟩
def A1(h:WE prog w K r env x loc st λv ak=>WL prog w K r env (o7 xs) loc ak λvs nR=>Q (v::vs) nR):WL prog w K r env (o7 ((aD,x)::xs)) loc st Q:=λA P s a g F=>Calls.spliced_cons (h.use a g F λx s1 v aQ rv F1 z1 u=>z1.use a g F1 λxs s2 vs bP Uz F2 z2 k2=>⟨v::vs,bP,.cons (rv.keep k2.tup) Uz,F2,z2⟩)
def J0(h:WL prog w K r env (o7 (kI pos (kF es env))) loc st λvs ak=>vs.length<=AD/\Q (.tup vs) ak):WE prog w K r env (bc (.Tuple es k pos) env) loc st Q:=λA P s a g F=>Tuple_ (cC (h A P s a g F) (λxs s'⟨vs,ak,rv,F',hz,z⟩=>by refine RY ?_ (by exact rv.length▸hz);exact⟨_,ak,.tup (eG _ rfl) (by simpa using rv.keep λb o u u e u u=>cB _ e) (F'.tB (bq _)),F'.grow λb o e=>cB _ e,z⟩) λu u x=>x)
def J1(h:WL prog w K r env (o7 (kI pos (kF es env))) loc st λvs ak=>vs.length<=AD/\∀a,ak a=ah->Q (.ref a) (ak.put a (.list vs))):WE prog w K r env (bc (.List es pos) env) loc st Q:=λA P s a g F=>List_ (cC (h A P s a g F) (λxs s'⟨vs,ak,rv,F',hz,z⟩=>by refine Sb ?_ (by exact rv.length▸hz);refine bx (F'.new (o:=.list vs) (ro:={cls:=.type "list",data:=.seq xs.toArray}) rfl λh' k=>(eK xs.toArray 0 rfl (by simpa using rv.keep k))) λn F2=>?_;exact⟨_,_,.ref _,F2,z _ n⟩) λu u x=>x)
end
end
section
variable [dq:Hid]
def ju.get(r:ju h es ds)(name:aI):match es.lookup name with|af v=>∃x,getL name ds=af (af x)/\aM h v x|ah=>getL name ds=af ah:=by
 induction r with
  |nil=>exact rfl|@cons n v t hs x es ds a b ih=>
   dsimp only[lj];by_cases q:name=n;·rw[q];rw[jr];exact(aA x (by simp[getL,IV]) a)
   ·rw[(by simpa using q:(name==n)=aD)];unfold getL at ih⊢;simp only[An,IV,(by simpa usingλe=>q e.symm:(n==name)=aD)]at ih⊢;exact ih
noncomputable def qi(es:ag (aI×V))(name:aI)(v:V):ag (aI×V):=match es with|[]=>[(name,v)]|(n,u)::r=>if n=name then(n,v)::r else(n,u)::qi r name v
def ju.set(r:ju h es ds)(q:aM h v x)(hs:bp)(t:Tok):ju h (qi es name v) (xQ name hs (.str name t) x ds):=by
 induction r with
  |nil=>exact .cons q .nil|@cons n v' t' hV x' es ds a b ih=>
   by_cases e:n=name;·rw[(show qi ((n,v')::es) name v=(n,v)::es from a0 e),←e];unfold xQ;rw[IV,jr];exact .cons q b
   ·rw[(show qi ((n,v')::es) name v=(n,v')::qi es name v from aX e)];unfold xQ;rw[IV,(by simpa using e:(n==name)=aD)];exact .cons a ih
def J2(name:aI)(hs:bp)(k v:aF):∀ds:ag DV,(xQ name hs k v ds).length<=ds.length+1:=by
 intro ds;induction ds with
  |nil=>simp[xQ]|cons e r ih=>
   unfold xQ;split;·simp
   ·have:=ih;exact Ai this
def ju.length(r:ju h es ds):ds.length=es.length:=by induction r with|nil=>rfl|cons _ _ ih=>simp[ih]
structure ey(K:cJ)(C:aa)(name:aI):Prop where
 plain:Jj K C name=ai
 dict:Jd K C=ai
 find:∃attr,th K (.ref C) name=af attr/\noGet K attr=ai
structure A3(K:cJ)(C:aa)(name:aI):Prop where
 set:th K (.ref C) "__setattr__"=af (af (.builtin "object.__setattr__"))
 over:plainOver K C=ai
 UB:takerIn K C name=af ah
 dict:Jd K C=ai
structure dN(K:cJ)(C:aa)(name:aI)(f:aa):Prop where
 plain:Jj K C name=ai
 find:th K (.ref C) name=af (af (.ref f))
 fn:isFn K (.ref f)=ai
 keep:lX K (.ref f)=ai
def UC(r:aM h v x):handedIn x=ai:=by induction v using V.casesOn with|int i=>obtain⟨_,rfl⟩:=r;rfl|str i=>obtain⟨_,rfl⟩:=r;rfl|tup vs=>refine gN r λu u u bT u=>?_;rw[bT];rfl|ref a=>rw[r];rfl|none=>rw[r];rfl|bool b=>rw[r];rfl
section
variable{prog:cx}{w:aZ}{K:cJ}{r:aa}{env:bI}{loc:Loc}{st:aE}{A:cQ}{P:bE}{s:aK}
def SRel.inst(F:SRel w P s st)(h1:st a=af (.inst C dx))(h2:st dx=af (.attrs es)):∃ds n,W.InstAt s.heap a (SK C dx) C (af (jG ds n))/\s.heap.get? dx=af (jG ds n)/\ju s.heap es ds/\ds.length<=100:=by refine aq (F.obj a _ h1) λro e1 aC=>?_;subst aC;refine aq (F.obj dx _ h2) λrd e2 bg=>ba bg λds n iF h3 h4=>?_;clear bg;subst iF;exact(rI ds n ⟨e1,rfl,rfl,e2⟩ e2 h3 h4)
def UD(h1:st a=af (.inst C dx))(h2:st dx=af (.attrs es))(h3:es.lookup name=af v)(ok:ey K C name)(h:Q v st):AZ prog w K r env (λx=>Jk x name ai) (.ref a) loc st Q:=λA P s x ao g F ru=>by rw[ru];refine fV (F.toSRel.inst h1 h2) λds n I u R u=>?_;have z:=R.get name;rw[h3]at z;refine aq z λy e ry=>?_;refine aq ok.find λattr f1 f2=>?_;exact get_value ((g.keeps F.keep).dM) I (Ss ok.plain).1 (findObj_own ok.dict f1 f2 e) (UC ry) ⟨v,st,ry,F.tok _,h⟩
def UE(h:WE prog w K r env (bc o env) loc st λu ak=>AZ prog w K r env (λx=>Jk x name ai) u loc ak Q)(he:aB (bc (.Attribute o name pos) env=(do let o'←bc o env;mU pos.atName;let r←o9 [o'] (Jk o' name ai);IK o o' r;pure r)) tR):WE prog w K r env (bc (.Attribute o name pos) env) loc st Q:=λA P s a g F=>Attribute_any_ (h.use a g F λx s' v ak rv F' z y=>z A P s' x a g F' rv) he
noncomputable def led(h:cL)(L d:aa)(l:ag aa):ag (hJ×cY):=l.filterMap λa=>if a=L\/a=d then ah else(h.get? a).map (a,·)
def tD:p∈led h L d l↔p.1∈l/\p.1≠L/\p.1≠d/\h.get? p.1=af p.2:=by
 rw[Rn];constructor;·
  intro zi;refine aq zi λa ha e=>?_;split at e;·nomatch e
  ·rename_i q;refine aq (lR.mp e) λo e1 aC=>?_;rw[←aC];exact(ip ha (λe=>q (.inl e)) (λe=>q (.inr e)) e1)
 ·intro zi;refine il zi λa b c e=>?_;exact(aA p.1 a (by rw[aX (by simp[b,c]),e];rfl))
noncomputable abbrev vV:cL:=⟨#[],{}⟩
def aH.ledger{d:aa}(F:aH w P s env loc st)(e:s.heap.get? d=af o)(hd:d≠env.locals):∃m post,Fr vV env.locals s.heap m/\News vV env.locals s.heap ((d,o)::post)/\(∀p∈post,p.1≠d)/\(∀b x,s.heap.get? b=af x->b≠env.locals->b≠d->(b,x)∈post)/\∀x v,loc x=af v->env.kindOf x=af .local->∃y,m x=af y/\aM s.heap v y:=by
 refine aq F.ns λm hm hl=>?_;refine(rJ m (led s.heap env.locals d (bS s.heap.objs.size)) ⟨hm,λb o e=>(by contradiction),cF _⟩ (λp hp=>?_) (λp hp=>(tD.mp hp).2.2.1) (λb x e1 e2 e3=>tD.mpr (ip (dT.mpr (dW e1)) e2 e3 e1)) hl);rcases cg.mp hp with rfl|hp;·exact(cM e hd rfl)
 ·exact⟨(tD.mp hp).2.2.2,(tD.mp hp).2.1,rfl⟩
def aH.UG(F:aH w P s env loc st)(gQ:(st d).isSome=ai)(e₀:s.heap.get? d=af o₀)(UH:o₀.cls≠.type "tuple")(hp:∀b x,s.heap.get? b=af x->b≠env.locals->b≠d->(b,x)∈post)(hl:∀x v,loc x=af v->env.kindOf x=af .local->∃y,m x=af y/\aM s.heap v y)(F':Fr vV env.locals h' m)(N':News vV env.locals h' ((d,o')::post))(ho:j6 w h' mo o')(t:aa):aH w P {s with heap:=h',toks:=t} env loc (st.put d mo):=by
 have k:=λ{b x}a c e=>(N' _ (.tail _ (hp b x e a c))).1;have hd:d≠env.locals:=λq=>by obtain⟨m,z⟩:=mJ.mp gQ;rw[q,F.lst]at z;nomatch z
 refine fX F.ns.choose_spec.1 λoL rQ rR eL dL j=>?_;have tk:cK s.heap h':=λb o i n e c dd=>k (λq=>by rw[q,eL]at e;obtain rfl:=bR e;rw[dd]at dL;contradiction) (λq=>by rw[q,e₀]at e;obtain rfl:=bR e;exact UH c) e;have nC:∀x c,(x,c)∈env.cells->c≠env.locals/\c≠d:=λx c hc=>by
  refine eR (F.cell x c hc) λv o h1 h2=>?_;refine⟨λq=>?_,λq=>?_⟩;·rw[q,eL]at h1;obtain rfl:=bR h1;rw[h2]at dL;contradiction
  ·obtain⟨mm,z⟩:=mJ.mp gQ;rw[←q,(F.cst x c hc).1]at z;nomatch z
 have kc:∀{x c v},(x,c)∈env.cells->s.heap.IsCell c v->h'.IsCell c v:=λ{x c v}hc zf=>aq zf λo h1 h2=>(aA o (k (nC x c hc).1 (nC x c hc).2 h1) h2);exact{F with
  keep:=λb o e=>k (λq=>by rw[q,F.lx]at e;nomatch e) (λq=>by obtain⟨mm,z⟩:=mJ.mp gQ;rw[q,F.apart d mm z]at e;nomatch e) (F.keep b o e),apart:=λb x e=>by
   by_cases q:b=d;·obtain⟨mm,z⟩:=mJ.mp gQ;rw[q];exact F.apart d mm z
   ·rw[aE.gj q]at e;exact F.apart b x e,obj:=λb x e=>by
   by_cases q:b=d;·subst q;rw[aE.lY]at e;rw[←bR e];exact(aA o' ((N' _ (.head _)).1) ho)
   ·rw[aE.gj q]at e;refine aq (F.obj b x e) λro u v=>?_;exact(aA ro (k (λz=>by rw[z,F.lst]at e;nomatch e) q u) (v.keep tk)),os:=F.os,gens:=F.gens,big:=λb x e=>by
   by_cases q:b=d;·subst q;obtain⟨mm,z⟩:=mJ.mp gQ;exact F.big b mm z
   ·rw[aE.gj q]at e;exact F.big b x e,ns:=(aA m F'.ns (λn v p q=>let⟨z,u,t⟩:=hl n v p q;(aA z u (t.keep tk)))),cells:=λx v p q=>let⟨c,y,u,t,z⟩:=F.cells x v p q;(bZ c y u (kc (mem_of_lookup u) t) (z.keep tk)),cell:=λx c hc=>let⟨v,hv⟩:=F.cell x c hc;(gE v (kc hc hv)),lst:=by rw[aE.gj hd.symm];exact F.lst,cst:=λx c hc=>⟨by rw[aE.gj (nC x c hc).2];exact(F.cst x c hc).1,(F.cst x c hc).2⟩}
def UI(F:aH w P s env loc st)(g:Gd K P.h)(h1:st a=af (.inst C dx))(h2:st dx=af (.attrs es))(hz:es.length<100)(ok:A3 K C name)(rv:aM s.heap v x)(h:∀s',aH w P s' env loc (st.put dx (.attrs (qi es name v)))->Q () s'):aY (aU prog w) A (setAttr (.ref a) name x) Q (λu u=>dv) s:=by
 refine fV (F.toSRel.inst h1 h2) λds n I ed R u=>?_;refine j4 (F.ledger ed (λq=>by rw[q,F.lst]at h2;nomatch h2)) λm post Fm N np hp hl=>?_;have X:=(g.keeps F.keep).dM;have J3:(lookIn name (jG ds n)).isSome=ai:=by
  dsimp only[lookIn_dict];have z:=R.get name;split at z;·refine aq z λy e u=>?_;rw[e];rfl
  ·rw[z];rfl
 refine set_plain X I ok.set (osa_dict (s:={s with toks:=s.toks+1}) (pre:=[]) (post:=post) (es:=xQ name (DG w.params name) (.str name (s.toks+1)) x ds) Fm N X I rfl ok.over ok.UB ok.dict J3 (λu hp=>by contradiction) np (putName_dict _ _ _ _ _ _) rfl (by have:=J2 name (DG w.params name) (.str name (s.toks+1)) x ds;have:=R.length;exact l2 0x3e83a170d11642a01 ‹_› ‹_›) λh' F' N'=>h _ ?_);have tk:cK s.heap h':=λb o i k e c dd=>(N' _ (.tail _ (hp b o e (λq=>by refine fX F.ns.choose_spec.1 λoL rQ rR eL dL u=>?_;rw[q,eL]at e;injection e with zc;subst zc;rw[dd]at dL;contradiction) (λq=>by rw[q,ed]at e;clear dd;injection e with zc;subst zc;exact bA c (by show cS "dict"≠_;decide))))).1;exact F.UG (mo:=.attrs (qi es name v)) (by rw[h2];rfl) ed (by show cS "dict"≠_;decide) hp hl F' N' (bZ _ _ rfl ((R.keep tk).set (rv.keep tk) _ _) (bG (J2 _ _ _ _ _) (by have:=R.length;exact br (e9 this) hz))) _
def UJ(h:WE prog w K r env (bc e env) loc st λv aQ=>WE prog w K r env (bc o env) loc aQ λu bP=>∃a C dx es,u=.ref a/\bP a=af (.inst C dx)/\bP dx=af (.attrs es)/\es.length<100/\A3 K C name/\N loc (bP.put dx (.attrs (qi es name v))))(hs:aB (qd e (af (.Attribute o name pos')) pos.line env=pure aD) tR):WF prog w K r env (j3 (.Assign [.Attribute o name pos'] e pos) env) loc st N R:=λA P s a g F=>by refine plainObj_wpAny_Assign_Attribute (h.use a g F λx s1 v aQ rv F1 z q=>z.use a g F1 λy s2 u bP ru F2 z k=>?_) hs;obtain⟨b,C,dx,es,rfl,h1,h2,h3,ok,z⟩:=z;rw[ru];exact UI F2 g h1 h2 h3 ok (rv.keep k.tup) λs' F'=>⟨_,_,F',z⟩
def kS(M:Model)(K:cJ)(f:aF):Prop:=∀h,K.In h->∃k,(k=Keeper.frame\/k=Keeper.machine\/k=Keeper.boundFrame)/\Jq M h (keeperOf f) k
def kS.builtin{id:nN}:kS M K (.builtin id):=λh u=>⟨.machine,.inr (.inl rfl),As rfl⟩
def kS.type{id:nN}:kS M K (.type id):=λh u=>⟨.machine,.inr (.inl rfl),As rfl⟩
def kS.ref{f:aa}(h:lX K (.ref f)=ai):kS M K (.ref f):=keeps_K h
def x6(a:dY A r)(g:Gd K P.h)(F:aH w P s env loc st)(rf:bB s.heap fv first)(hk:kS (aU prog w) K f)(h:WL prog w K r env (o7 (t)) loc st R)(k:∀xs s' vs ak,bB s'.heap vs xs->bB s'.heap fv first->aH w P s' env loc ak->R vs ak->aY (aU prog w) A (dR f (first++xs)) Q (λu u=>dv) s')(hp:aB ((t).any (·.1)=aD) tF)(he:t=[]\/∃x l,t=(aD,x)::l:=by first|exact .inl rfl|exact .inr ⟨_,_,rfl⟩):aY (aU prog w) A (tc pos f first (t) []) Q (λu u=>dv) s:=by
 refine callWith_of (P:=K.In) (by rw[hp];rfl) hk ?_;rcases he with rfl|⟨x,l,he⟩;·refine evalArgs_nil3 ⟨(g.keeps F.keep).dM,?_⟩;have z:=h.use a g F (R:=λxs s'=>xs=[]->s'=s->aY (aU prog w) A (dR f (first++[])) Q (λu u=>dv) s) (λxs s' vs ak rx F' z kk e1 e2=>by subst e1;subst e2;exact k [] _ vs ak rx rf F' z);exactλΓ p hΓ=>(λΓ p hΓ=>z Γ p hΓ rfl rfl) Γ p hΓ Γ p hΓ
 ·rw[he]at h⊢;refine Calls.evalArgs_plain (h.use a g F λxs s' vs ak rx F' z kk=>⟨(g.keeps F'.keep).dM,k xs s' vs ak rx (rf.keep kk.tup) F' z⟩)
def UK(hf:∀A P s R,Gd K P.h->aH w P s env loc st->R f s->aY (aU prog w) A (bc x env) R (λu u=>dv) s)(hk:kS (aU prog w) K f)(h:WL prog w K r env (o7 (kI pos (kF args env))) loc st λvs ak=>OV prog w K r env (λxs=>dR f xs) vs loc ak Q)(he:aB (bc (.Call x args [] pos) env=(do tc pos (←bc x env) [] (kI pos (kF args env)) (backToKw pos (keywordEach [] env)))) tR)(hp:aB ((kI pos (kF args env)).any (·.1)=aD) tF)(hx:args=[]\/∃x l,kI pos (kF args env)=(aD,x)::l:=by first|exact .inl rfl|exact .inr ⟨_,_,rfl⟩):WE prog w K r env (bc (.Call x args [] pos) env) loc st Q:=λA P s a g F=>by exact he▸(wb (hf A P s _ g F (x6 a g F (fv:=[]) (first:=[]) .nil hk h (λxs s' vs ak rx u F' z=>z A P s' xs a g F' rx) hp (hx.imp (λq=>by rw[q];rfl) id))))
def J4(e:hH K fw x=af (af f))(hx:env.kindOf x=af .globalImplicit)(hd:(x==("__debug__":aI))=aD):∀A P s R,Gd K P.h->aH w P s env loc st->R f s->aY (aU prog w) A (bc (.Name x pos) env) R (λu u=>dv) s:=λA P s R g F h=>by have g':=g.keeps F.keep;refine ba g'.top λmg mb h1 h2 h3=>?_;exact afB F.kind hx (Calls.loadGlobal_global (by exact F.glob▸h1) (mg_of g'.dM h1 e) h) hd
def A4(e:hH K fw x=af ah)(hb:vM x=af f)(hn:x≠"__name__")(hx:env.kindOf x=af .globalImplicit)(hd:(x==("__debug__":aI))=aD):∀A P s R,Gd K P.h->aH w P s env loc st->R f s->aY (aU prog w) A (bc (.Name x pos) env) R (λu u=>dv) s:=λA P s R g F h=>by have g':=g.keeps F.keep;refine ba g'.top λmg mb h1 h2 h3=>?_;exact afB F.kind hx (Calls.loadGlobal_builtin (by rw[F.glob];exact h1) (mg_none_of g'.dM h1 e) (by rw[F.lZ];exact h2) ((h3 x hn).trans hb) h) hd
def UL(e:hH K fw x=af ah)(hb:vM x=af f)(hn:x≠"__name__")(hk:kS (aU prog w) K f)(h:WL prog w K r env (o7 (kI pos (kF args env))) loc st λvs ak=>OV prog w K r env (λxs=>dR f xs) vs loc ak Q)(hx:aB (env.kindOf x=af .globalImplicit) tR)(hd:aB ((x==("__debug__":aI))=aD) tF)(he:aB (bc (.Call (.Name x p) args [] pos) env=(do tc pos (←bc (.Name x p) env) [] (kI pos (kF args env)) (backToKw pos (keywordEach [] env)))) tR)(hp:aB ((kI pos (kF args env)).any (·.1)=aD) tF)(hy:args=[]\/∃x l,kI pos (kF args env)=(aD,x)::l:=by first|exact .inl rfl|exact .inr ⟨_,_,rfl⟩):WE prog w K r env (bc (.Call (.Name x p) args [] pos) env) loc st Q:=UK (A4 e hb hn hx hd) hk h he hp hy
def Meth(prog:cx)(w:aZ)(K:cJ)(r:aa)(env:bI)(name:aI)(u:V)(loc:Loc)(st:aE)(f:aF):Prop:=kS (aU prog w) K f/\∀A P s x pl(R:aF×ag aF->aK->Prop),dY A r->Gd K P.h->aH w P s env loc st->aM s.heap u x->R (f,[x]) s->aY (aU prog w) A (getMethod x name pl) R (λo o=>dv) s
def Meth.inst(h1:st a=af (.inst C dx))(h2:st dx=af (.attrs es))(h3:es.lookup name=ah)(ok:dN K C name f):Meth prog w K r env name (.ref a) loc st (.ref f):=by refine⟨.ref ok.keep,λA P s x pl R ao g F ru h=>?_⟩;subst ru;refine fV (F.toSRel.inst h1 h2) λds n I u AR u=>?_;have z:=AR.get name;rw[h3]at z;exact method_fn (g.keeps F.keep).dM I (Ss ok.plain).1 (Ss ok.plain).2 ok.find (beq_iff_eq.mp ok.fn) (by refine(?_:(lookIn name (jG ds n)).map _=_);rw[lookIn_dict,z];rfl) h
def Spec(prog:cx)(w:aZ)(K:cJ)(r f:aa)(vs:ag V)(st:aE)(Q:V->aE->Prop):Prop:=∀A P s xs,dY A r->Gd K P.h->SRel w P s st->bB s.heap vs xs->nK (aU prog w) A (.call (.ref f) ⟨xs,[]⟩) (λres s'=>∃x v ak,res=.ok (.ret x)/\aM s'.heap v x/\SRel w P s' ak/\Q v ak) s
def Spec.mono(h:Spec prog w K r f vs st Q)(k:∀v ak,Q v ak->Q' v ak):Spec prog w K r f vs st Q':=λA P s xs a g F z=>xH (h A P s xs a g F z) λu u zf=>eS zf λx v ak e a b c=>(mX x v ak e a b (k v ak c))
def Spec.le(h:Spec prog w K q f vs st Q)(hq:q<=r):Spec prog w K r f vs st Q:=λA P s xs a g F z=>h A P s xs (a.le hq) g F z
def UM(h:Spec prog w K r f vs st Q):OV prog w K r env (λxs=>dR (.ref f) xs) vs loc st Q:=λA P s xs a g F rx=>by refine Sw (xH (h A (bE.rest st s) s xs a (g.keeps F.toSRel.sub) F.toSRel.rest rx) λres s' zf=>eS zf λx v ak e rv S' z=>?_);rw[e];exact⟨v,ak,rv,F.JJ S',z⟩
noncomputable abbrev tS(scope:jH)(L:aa)(cells:ag (aI×hJ))(qual:aI)(f:aa)(cd:aF):bI:={scope:=scope,locals:=L,globals:=fw,cells:=cells,qual:=qual,func:=af f,code:=cd,frame:=af L,builtins:=AB}
noncomputable def tZ:ag aI->ag V->Loc|n::ns,v::vs=>λx=>if x=n then af v else tZ ns vs x|_,_=>λu=>ah
def J5:∀{ns:ag aI}{vs:ag V}{xs:ag aF},bB h vs xs->∀{x:aI}{v:V},tZ ns vs x=af v->∃y,(ns.zip xs).lookup x=af y/\aM h v y:=by
 intro ns;induction ns with
  |nil=>intro vs xs _ x v e;contradiction|cons n ns ih=>
   intro vs xs r x v e;induction vs using b7 with
    |nil=>contradiction|cons u vs=>
     refine ba r λy ys aC a b=>?_;rw[aC];have e:(if x=n then af u else tZ ns vs x)=af v:=e;refine(?_:∃z,(match x==n with|ai=>af y|aD=>(ns.zip ys).lookup x)=af z/\_);by_cases q:x=n;·rw[a0 q]at e;rw[←bR e];rw[beq_iff_eq.mpr q];exact(aA y rfl a)
     ·rw[aX q]at e;exact(beq_eq_false_iff_ne.mpr q)▸(ih b e)
def Er:∀(kf:aI->d6 xN)(binds:ag (aI×aF))(m cm:aI->d6 aF),(binds.map (·.1)).Nodup->∀(x:aI)(y:aF),binds.lookup x=af y->(kf x=af .local->bindL kf binds m x=af y)/\(kf x≠af .local->bindC kf binds cm x=af y)
 |_,[],_,_,_,_,_,e=>by contradiction|kf,(n,v)::r,m,cm,nd,x,y,e=>by
  have UN:∀(r:ag (aI×aF))(m:aI->d6 aF)(x:aI),x∉r.map (·.1)->bindL kf r m x=m x:=by
   intro r;induction r with
    |nil=>intro m x _;rfl|cons p r ih=>
     intro m x hx;simp only[jk,cg,D3]at hx;obtain⟨n,v⟩:=p;rw[ih _ x hx.2];split;·simp[hx.1]
     ·rfl
  have UO:∀(r:ag (aI×aF))(m:aI->d6 aF)(x:aI),x∉r.map (·.1)->bindC kf r m x=m x:=by
   intro r;induction r with
    |nil=>intro m x _;rfl|cons p r ih=>
     intro m x hx;simp only[jk,cg,D3]at hx;obtain⟨n,v⟩:=p;rw[ih _ x hx.2];split;·rfl
     ·simp[hx.1]
  rw[jk,iZ]at nd;dsimp only[lj]at e;by_cases q:x=n;·
   subst q;rw[jr,Ib]at e;rw[e];refine⟨λhl=>?_,λhl=>?_⟩;·rw[UN _ _ _ nd.1,a0 hl];simp
   ·rw[UO _ _ _ nd.1,aX hl];simp
  ·rw[(by simpa using q:(x==n)=aD)]at e;exact Er kf r _ _ nd.2 x y e
def Es:∀(ns:ag aI)(xs:ag aF),xs.length=ns.length->(ns.zip xs).map (·.1)=ns:=λns xs h=>List.map_fst_zip (e9 h.symm)
def J6{f:aa}(ho:K.lookup f=af ⟨oc,od,.func fd,osl⟩)(hb:fd.body=.stmts body)(m5:fd.closure=[])(hg:fd.globals=fw)(UP:fd.builtins=AB)(J7:codeIn K fd.code fd.qualname=ai)(UQ:∀xs:ag aF,xs.length=ns.length->kG fd ⟨xs,[]⟩=pure (ns.zip xs))(hlen:vs.length=ns.length)(J8:ns.Nodup)(UR:(ns.all λn=>fd.scope.names.lookup n==af .local||fd.scope.names.lookup n==af .cell)=ai)(Et:(fd.scope.names.map (·.1)).Nodup)(US:fd.scope.isCoroutine=aD)(UT:fd.scope.isGenerator=aD)(hk:fd.scope.kind=.function)(h:∀L cells q c,WF prog w K r (tS fd.scope L cells q f c) (mV body (tS fd.scope L cells q f c)) (tZ ns vs) st (λu ak=>Q .none ak) Q):Spec prog w K (r+1) f vs st Q:=λA P s xs a g S rx=>by
 have g':=g.keeps S.keep;have A5:=rx.length.trans hlen;have lk:=λn hn=>by have:=f7.mp UR n hn;simpa using this
 have cs:∀(names:ag (aI×xN))(k:aa)(acc:ag (aI×hJ))(n:aI),names.lookup n=af .cell\/(acc.lookup n).isSome=ai->((DU k names acc).lookup n).isSome=ai:=λnames k acc n q=>cellsFrom_some names k acc q;refine codeAny_call_cells a.room (g'.dM _ _ ho) rfl g'.lim (codeRec_of g'.dM J7) hb (UQ xs A5) m5 (λx hx=>?_) (λs₁ I=>?_) US UT hk;·
  have hm:x.1∈ns:=by exact(Es ns xs A5)▸(gK hx)
  rcases lk x.1 hm with q|q;·exact .inl q
  ·exact .inr ⟨q,cs _ _ _ _ (.inl q)⟩
 ·have UU:callEnvC fd s.heap.objs.size f=tS fd.scope s.heap.objs.size (DU (s.heap.objs.size+1) fd.scope.names []) (fd.qualname++".<locals>.") f fd.code:=by delta callEnvC newEnv;rw[hg,UP]
  rw[UU]at I⊢;refine eR I.done λh₁ tk aC Eu=>?_;subst aC;have Ew:cK s.heap h₁:=λb o u u e u u=>Eu b o e;have nM:∀{b},s.heap.objs.size<=b->st b=ah/\P.h.get? b=ah:=λ{b}hb=>by
   constructor;·cases q:st b with|none=>rfl|some m=>refine aq (S.obj b m q) λro e u=>?_;exact bA (bj (dW e) hb) (i6 _)
   ·cases q:P.h.get? b with|none=>rfl|some m=>exact bA (bj (dW (S.keep b m q)) hb) (i6 _)
  have F:aH w P {s with heap:=h₁,toks:=tk} (tS fd.scope s.heap.objs.size (DU (s.heap.objs.size+1) fd.scope.names []) (fd.qualname++".<locals>.") f fd.code) (tZ ns vs) st:={
   keep:=λb o e=>Eu b o (S.keep b o e),apart:=S.apart,obj:=λb o e=>let⟨ro,x,y⟩:=S.obj b o e;(aA ro (Eu _ _ x) (y.keep Ew)),os:=S.os,gens:=S.gens,big:=S.big,wide:=S.wide,j7:=S.j7,kind:=hk,glob:=rfl,lZ:=rfl,ns:=(aA _ I.toInCall.ns (λx v e q=>by refine aq (J5 rx e) λy e1 ry=>?_;exact(aA y ((Er _ _ _ (λu=>ah) (by rw[Es ns xs A5];exact J8) x y e1).1 q) (ry.keep Ew)))),cells:=λx v e q=>by refine aq (J5 rx e) λy e1 ry=>?_;obtain⟨c,hc⟩:=mJ.mp (cs fd.scope.names (s.heap.objs.size+1) [] x (.inl q));refine(bZ c y hc ?_ (ry.keep Ew));have:=I.cell x c hc;rwa [(Er _ _ (λu=>ah) _ (by rw[Es ns xs A5];exact J8) x y e1).2 (by rw[q];decide)]at this,cell:=λx c hc=>(gE _ (I.cell x c (lookup_of_mem_nodup (cellsFrom_names fd.scope.names 0 (s.heap.objs.size+1) [] [] rfl▸(by
    have:∀(names:ag (aI×xN))(k:aa)(acc:ag (aI×hJ)),(names.map (·.1)).Nodup->(acc.map (·.1)).Nodup->(∀n∈acc.map (·.1),n∉names.map (·.1))->((DU k names acc).map (·.1)).Nodup:=by
     intro names;induction names with
      |nil=>intro k acc _ h2 _;exact h2|cons p r ih=>
       obtain⟨n,kd⟩:=p;intro k acc h1 h2 h3;rw[jk,iZ]at h1;unfold DU;split;·
        refine ih _ _ h1.2 ?_ ?_;·rw[jk,iZ];exact⟨λq=>h3 _ q (by simp),h2⟩
        ·intro m hm;rcases cg.mp hm with rfl|hm;·exact h1.1
         ·exactλq=>h3 m hm (bK _ q)
       ·exact ih _ _ h1.2 h2 λm hm q=>h3 m hm (bK _ q)
    exact this _ _ _ Et (by simp) (by simp))) hc))),named:=λx q=>cs _ _ _ _ (.inl q),inj:=I.apart,lx:=(nM (bq _)).2,lst:=(nM (bq _)).1,cst:=λx c hc=>nM (bF (I.above x c hc))};refine cC (h _ _ _ _ (A.deeper _) P _ a.deeper g F) (λfl s' z=>?_) λu u x=>x.elim;induction fl with|next=>obtain⟨l,ak,F',q⟩:=z;exact(mX _ _ ak rfl .none F'.toSRel q)|ret x=>obtain⟨v,ak,rv,S',q⟩:=z;exact(mX _ _ ak rfl rv S' q)|brk=>exact z.elim|cont=>exact z.elim
end
end
section
variable [dq:Hid]
def fB{a:aa}(e:h.get? a=af (gO items n)):Jr h a items:=⟨_,e,rfl,n,rfl⟩
def fO{h:cL}{a:aa}(e:h.get? a=af (listOf items n)):h.IsList a items:=⟨_,e,rfl,n,rfl⟩
def UW{i:aa}(h:i<16777216):afn (i:bp)=ai:=by delta afn;simp only[xy,AH];constructor<;>lia
def j8:AD=16777216:=by rw[DO]
section
variable{prog:cx}{w:aZ}{K:cJ}{r:aa}{env:bI}{loc:Loc}{st:aE}{A:cQ}{P:bE}{s:aK}
def SRel.list{a:aa}{vs:ag V}(F:SRel w P s st)(h:st a=af (.list vs)):∃items n,s.heap.get? a=af (listOf items n)/\bB s.heap vs items.toList/\items.size=vs.length:=by refine aq (F.obj a _ h) λro e bg=>eR bg λitems n iF z=>?_;clear bg;subst iF;exact(bZ items n e z (by rw[←fh,z.length]))
def aH.x7(F:aH w P s env loc st)(h:st a=af (.list vs))(e:s.heap.get? a=af (listOf items n))(z:∀h',cK s.heap h'->bB h' us (f items).toList):aH w P {s with heap:=s.heap.update a (qc f)} env loc (st.put a (.list us)):=by have tk:cK s.heap (s.heap.update a (qc f)):=λb o i k e1 c u=>(mK _ _ λq=>by rw[←q,e]at e1;obtain rfl:=bR e1;exact bA c (by show cS "list"≠_;decide)).trans e1;refine F.put (λb x q e1=>(mK _ _ (nJ q)).trans e1) (.inl (by rw[h];rfl)) ⟨_,vo _ e rfl,?_⟩;exact(eK _ _ rfl (z _ tk))
def UX(h1:st a=af (.list vs))(hz:vs.length<=16777216)(h:Q (.int vs.length) st):OV prog w K r env (λxs=>dR (.builtin "len") xs) [.ref a] loc st Q:=λA P s xs u u F rx=>by refine ba rx λu u aC ra rn=>?_;rw[aC];rw[ra];rw[rn];refine ba (F.toSRel.list h1) λitems n e z hl=>?_;refine len_list (fO e) (by rw[hl];lia) ?_;rw[hl];exact⟨_,st,.int _ _,F.tok _,h⟩
def UY(hz:vs.length<=16777216)(h:Q (.int vs.length) st):OV prog w K r env (λxs=>dR (.builtin "len") xs) [.tup vs] loc st Q:=λA P s xs u u F rx=>by refine ba rx λu u aC ra rn=>?_;rw[aC];rw[rn];refine eS ra λu u u bT e z hx=>?_;rw[bT];have hl:=z.length;dsimp only[fh]at hl;refine len_tuple (fB e) (by rw[hl];lia) ?_;rw[hl];exact⟨_,st,.int _ _,F.tok _,h⟩
def UZ(h1:st a=af (.set vs))(h:Q (.int vs.length) st):OV prog w K r env (λxs=>dR (.builtin "len") xs) [.ref a] loc st Q:=λA P s xs u u F rx=>by
 refine ba rx λu u aC ra rn=>?_;rw[aC];rw[ra];rw[rn];obtain⟨ro,e,es,n,t,rfl,z,pg,g,hm⟩:=F.obj a _ h1;have hl:es.size=vs.length:=by rw[←fh];clear e pg g hm h h1;generalize es.toList=l at z;induction z with|nil=>rfl|cons _ _ _ ih=>simp[ih]
 refine call_len_set e (cM rfl rfl rfl) rfl g.fits (by lia) ?_;exact hl▸(⟨_,st,.int _ _,F.tok _,h⟩)
def Meth.list{a:aa}{vs:ag V}{name:aI}{id:nN}(h:st a=af (.list vs))(slot:vP "list" name id)(nU:kH (.builtin id)=pure (.type "method_descriptor")):Meth prog w K r env name (.ref a) loc st (.builtin id):=by refine⟨.builtin,λA P s x pl R u u F ru hR=>?_⟩;subst ru;refine ba (F.toSRel.list h) λitems n e u u=>?_;exact RN (fO e).typeIs PySem.F.plainAttrs_list slot nU (λb hb=>by rw[←IE hb];exact(aA _ e rfl)) hR
def J9(h1:st a=af (.list vs))(hz:vs.length<16777216)(h:Q .none (st.put a (.list (vs++[v])))):OV prog w K r env (λxs=>dR (.builtin "list.append") xs) [.ref a,v] loc st Q:=λA P s xs u u F rx=>by refine ba rx λu u aC ra rn=>?_;rw[aC];obtain⟨_,_,rfl,rv,rn⟩:=rn;rw[ra];rw[rn];refine ba (F.toSRel.list h1) λitems n e z hl=>?_;refine DR lQ (aA _ e rfl) PySem.F.entry_list_append (PySem.F.args_list_append_2 _ _) (list_append a items n _ (by rw[hl];exact bF hz)) (dD e ?_);exact⟨_,_,.none,F.x7 h1 e λh' tk=>by rw[Af];exact(z.keep tk).append (.cons (rv.keep tk) .nil),h⟩
def U0(h1:st a=af (.list vs))(h2:st b=af (.list us))(hz:vs.length+us.length<=16777216)(h:Q .none (st.put a (.list (vs++us)))):OV prog w K r env (λxs=>dR (.builtin "list.extend") xs) [.ref a,.ref b] loc st Q:=λA P s xs u u F rx=>by refine ba rx λu u aC ra rn=>?_;rw[aC];obtain⟨_,_,rfl,rv,rn⟩:=rn;rw[ra];rw[rn];rw[rv];refine ba (F.toSRel.list h1) λitems n e z hl=>?_;refine ba (F.toSRel.list h2) λqj n2 e2 z2 j9=>?_;refine DR Dr (aA _ e rfl) PySem.F.entry_list_extend (PySem.F.args_list_extend_2 _ _) (AutoSeq1.list_extend_list_list_0 a items n b qj n2 (by simp only[aih,hl,j9,j8];lia) (by rw[hl,j8];exact bG (dE _ _) hz) (by rw[hl,j9];exact Aj hz)) (cM e e2 ?_);exact⟨_,_,.none,F.x7 h1 e λh' tk=>by rw[Ic];exact(z.keep tk).append (z2.keep tk),h⟩
def U1(h1:st a=af (.list (vs++[v])))(hz:vs.length<16777216)(h:Q v (st.put a (.list vs))):OV prog w K r env (λxs=>dR (.builtin "list.pop") xs) [.ref a] loc st Q:=λA P s xs u u F rx=>by
 refine ba rx λu u aC ra rn=>?_;rw[aC];rw[ra];rw[rn];refine ba (F.toSRel.list h1) λitems n e z hl=>?_;rw[bD]at hl;refine aq (z.get_some (i:=vs.length) (v:=v) (by simp)) λy hy ry=>?_;refine DR Ds (aA _ e rfl) afJ (PySem.F.args_list_pop_1 _) (MeetsSeq.list_pop_last a items n y (by exact jW▸hl.symm▸hy) (by exact hl▸j8▸hz)) (dD e ?_);have er:(items.eraseIdxIfInBounds (items.size-1)).toList=items.toList.take vs.length:=by rw[afr,hl,List.eraseIdx_eq_take_drop_succ,List.drop_eq_nil_of_le (by rw[fh,hl];exact f9 _),bN];rfl
 have F2:=F.x7 (f:=λxs=>xs.eraseIdxIfInBounds (items.size-1)) (us:=vs) h1 e λh' tk=>by rw[er];have:=(z.keep tk).take vs.length;simpa using this
 refine⟨v,_,ry.keep λb o i k e1 c u=>?_,F2,h⟩;exact(mK _ _ λq=>by rw[←q,e]at e1;obtain rfl:=bR e1;exact bA c (by show cS "list"≠_;decide)).trans e1
def U2{i:aa}(h1:st a=af (.list vs))(hi:vs[i]?=af v)(hz:vs.length<=16777216)(h:Q v (st.put a (.list (vs.eraseIdx i)))):OV prog w K r env (λxs=>dR (.builtin "list.pop") xs) [.ref a,.int i] loc st Q:=λA P s xs u u F rx=>by
 refine ba rx λu u aC ra rn=>?_;rw[aC];obtain⟨_,_,rfl,rv,rn⟩:=rn;rw[ra];rw[rn];obtain⟨t,rfl⟩:=rv;refine ba (F.toSRel.list h1) λitems n e z hl=>?_;refine aq (z.get_some hi) λy hy ry=>?_;have iE:=(iQ.mp hi).1;have hq:SA (i:bp) items.size=af i:=by delta SA;simp only[show¬((i:bp)<0)by lia,Js];rw[a0 (by simp;exact hl▸iE)];rfl
 have mt:=@MeetsSeq.list_pop_at a items n (i:bp) t i y (UW (bj iE hz)) hq (by exact jW▸hy) (by exact hl▸j8▸hz);have ar:=PySem.F.args_list_pop_2 (.ref a) (.int i t);generalize hI:(i:bp)=I at mt ar⊢;refine DR (T:="list") Ds (aA _ e rfl) afJ ar mt (dD e ?_);have F2:=F.x7 (f:=λxs=>xs.eraseIdxIfInBounds i) (us:=vs.eraseIdx i) h1 e λh' tk=>by rw[afr];exact(z.keep tk).eraseIdx i
 refine⟨v,_,ry.keep λb o i k e1 c u=>?_,F2,h⟩;exact(mK _ _ λq=>by rw[←q,e]at e1;obtain rfl:=bR e1;exact bA c (by show cS "list"≠_;decide)).trans e1
def U3(h1:st a=af (.list vs))(h2:st b=af (.list us))(hz:vs.length+us.length<=16777216)(h:∀c,st c=ah->Q (.ref c) (st.put c (.list (vs++us)))):dI prog w K r env (mS .Add) (.ref a) (.ref b) loc st Q:=λA P s x y u u F ru rv=>by rw[ru];rw[rv];refine ba (F.toSRel.list h1) λitems n e z hl=>?_;refine ba (F.toSRel.list h2) λqj n2 e2 z2 j9=>?_;refine PySem.P.add_list e e2 ?_ (by exact hl▸j9▸j8▸hz);refine bx (F.new (o:=.list (vs++us)) (ro:={cls:=.type "list",data:=.seq (items++qj)}) rfl λh' k=>(eK _ 0 rfl (by exact Ic.symm▸((z.keep k).append (z2.keep k))))) λm F2=>?_;exact⟨_,_,.ref _,F2,h _ m⟩
def Ey(hz:vs.length+us.length<=16777216)(h:Q (.tup (vs++us)) st):dI prog w K r env (mS .Add) (.tup vs) (.tup us) loc st Q:=λA P s x y _ _ F ru rv=>by
 refine eS ru λ_ _ _ bT e z hx=>?_;rw[bT];refine eS rv λ_ _ _ bT e2 z2 Ez=>?_;clear rv;subst bT;rename_i a items n b qj n2;have hl:=z.length;have j9:=z2.length;dsimp only[fh]at hl j9;by_cases q:items.isEmpty=ai;·
  refine Si (fB e).typeIs (fB e2).typeIs RQ Se Q5 Q3 (Q1 _ _) (AutoSeq1.tuple___add___tuple_tuple_0 a items n b qj n2 q) (cM e e2 ?_);have:vs=[]:=by rw[aft,hl]at q;exact Q6.mp q
  subst this;exact⟨_,st,.tup e2 z2 Ez,F,h⟩
 ·by_cases q2:qj.isEmpty=ai;·
   refine Si (fB e).typeIs (fB e2).typeIs RQ Se Q5 Q3 (Q1 _ _) (AutoSeq1.tuple___add___tuple_tuple_1 a items n b qj n2 q q2) (cM e e2 ?_);have:us=[]:=by rw[aft,j9]at q2;exact Q6.mp q2
   subst this;rw[bN]at h;exact⟨_,st,.tup e z hx,F,h⟩
  ·refine Si (fB e).typeIs (fB e2).typeIs RQ Se Q5 Q3 (Q1 _ _) (AutoSeq1.tuple___add___tuple_tuple_2 a items n b qj n2 q q2 (by exact hl▸j9▸j8▸hz)) (cM e e2 ?_);have k:cK s.heap (s.heap.push {cls:=.type "tuple",data:=.seq (items++qj)}):=λb o _ _ e _ _=>cB _ e;exact⟨_,st,.tup (eG _ rfl) (by rw[Ic];exact(z.keep k).append (z2.keep k)) (F.tB (bq _)),F.grow λb o e=>cB _ e,h⟩
def U4(h:WE prog w K r env (bc x env) loc st λu aQ=>WE prog w K r env (bc i env) loc aQ λv bP=>dI prog w K r env (IZ x i) u v loc bP Q):WE prog w K r env (bc (.Subscript x i pos) env) loc st Q:=λA P s a g F=>Jb (h.use a g F λx s1 u aQ ru F1 z1 o=>z1.use a g F1 λy s2 v bP rv F2 z2 k2=>z2 A P s2 x y a g F2 (ru.keep k2.tup) rv)
def U5(h1:st a=af (.list vs))(h0:0<=k)(hk:vs[k.toNat]?=af v)(hz:vs.length<=16777216)(h:Q v st)(hs:∀o j,∃ops,So i aD o j=SJ ops (DX o j):=by intro o j;exact⟨_,rfl⟩):dI prog w K r env (IZ x i) (.ref a) (.int k) loc st Q:=λA P s x y u u F ru rv=>by rw[ru];obtain⟨tk,rfl⟩:=rv;refine ba (F.toSRel.list h1) λitems n e z hl=>?_;refine aq (z.get_some hk) λy hy ry=>?_;obtain⟨ops,ho⟩:=hs (.ref a) (.int k tk);have iE:=(iQ.mp hk).1;exact AE (fO e).typeIs agT.lookup (wpAny_getItem_list (fO e) h0 (by lia) (by exact jW▸hy) ⟨v,st,ry,F,h⟩) ho
def U6(h0:0<=k)(hk:vs[k.toNat]?=af v)(hz:vs.length<=16777216)(h:Q v st)(hs:∀o j,∃ops,So i aD o j=SJ ops (DX o j):=by intro o j;exact⟨_,rfl⟩):dI prog w K r env (IZ x i) (.tup vs) (.int k) loc st Q:=λA P s x y u u F ru rv=>by refine eS ru λb items n bT e z hx=>?_;rw[bT];obtain⟨tk,rfl⟩:=rv;refine aq (z.get_some hk) λy hy ry=>?_;obtain⟨ops,ho⟩:=hs (.ref b) (.int k tk);have hl:=z.length;dsimp only[fh]at hl;have iE:=(iQ.mp hk).1;refine AE (fB e).typeIs agN.lookup (aik (j:=k.toNat) (fB e) (by lia) (by lia) ?_ (by exact jW▸hy) ⟨v,st,ry,F,h⟩) ho;delta SA;simp only[show¬(k<0)by lia,Js];rw[a0 (by simp;lia)]
def U7(h:WE prog w K r env (bc x env) loc st λu aQ=>∃vs,u=.tup vs/\1<=vs.length/\vs.length<=16777216/\Q (.tup (vs.drop 1)) aQ):WE prog w K r env (bc (.Subscript x (.Slice (af (.Constant (.int 1) k p1)) ah ah p) pos) env) loc st Q:=λA P s a g F=>by refine Jb (h.use a g F λy s1 u aQ ru F1 z1 q=>?_);obtain⟨vs,rfl,h1,h2,z1⟩:=z1;refine eS ru λt items n bT e z hx=>?_;rw[bT];have hl:=z.length;dsimp only[fh]at hl;refine Sn (RH (Iw (Ag (Ag ?_))));have e':(s1.heap.push {cls:=.type "slice",data:=.fields #[.int 1 s1.toks,.none,.none]}).get? t=af (gO items n):=cB _ e;have hsz:(s1.heap.push {cls:=.type "slice",data:=.fields #[.int 1 s1.toks,.none,.none]}).get? s1.heap.objs.size=af {cls:=.type "slice",data:=.fields #[.int 1 s1.toks,.none,.none]}:=eG _ rfl;refine AE (T:="tuple") (aA _ e' rfl) agN.lookup (getItem_tuple_from (a:=1) (u:=s1.toks) (fB e') (bH _ hsz rfl rfl) (bq _) ((Dy h1 hl.symm)) ?_ (by exact hl▸j8▸h2)) rfl;have k1:∀b o,s1.heap.get? b=af o->((s1.heap.push {cls:=.type "slice",data:=.fields #[.int 1 s1.toks,.none,.none]}).push {cls:=.type "tuple",data:=.seq (items.toList.drop 1).toArray}).get? b=af o:=λb o e=>cB _ (cB _ e);exact⟨_,aQ,.tup (eG _ rfl) (by simpa using(z.keep λb o q q e q q=>k1 b o e).drop 1) (F1.tB (by rw[mQ];exact kE _)),(F1.grow k1).tok _,z1⟩
def aH.A6(F:aH w P s env loc st):∃m post,Fr vV env.locals s.heap m/\News vV env.locals s.heap post/\(∀b x,s.heap.get? b=af x->b≠env.locals->(b,x)∈post)/\∀x v,loc x=af v->env.kindOf x=af .local->∃y,m x=af y/\aM s.heap v y:=by refine aq F.ns λm hm hl=>?_;refine(rI m (led s.heap env.locals env.locals (bS s.heap.objs.size)) ⟨hm,λb o e=>(by contradiction),cF _⟩ (λp hp=>⟨(tD.mp hp).2.2.2,(tD.mp hp).2.1,rfl⟩) (λb x e1 e2=>tD.mpr (ip (dT.mpr (dW e1)) e2 e2 e1)) hl)
def aH.x8(F:aH w P s env loc st){b:aa}(e:s.heap.get? b=af o)(d:o.data=.seq i k):b≠env.locals:=λq=>by refine fX F.ns.choose_spec.1 λoL rQ rR eL dL u=>?_;rw[q,eL]at e;obtain rfl:=bR e;rw[d]at dL;contradiction
def aH.EA(F:aH w P s env loc st)(k:∀b x,b≠env.locals->s.heap.get? b=af x->h'.get? b=af x)(hm:h'.Ns env.locals m)(hl:∀x v,loc x=af v->env.kindOf x=af .local->∃y,m x=af y/\aM s.heap v y)(t:aa):aH w P {s with heap:=h',toks:=t} env loc st:=by
 refine fX F.ns.choose_spec.1 λoL rQ rR eL dL j=>?_;have tk:cK s.heap h':=λb o i n e c dd=>k _ _ (F.x8 e dd) e;have nC:∀x c,(x,c)∈env.cells->c≠env.locals:=λx c hc q=>by refine eR (F.cell x c hc) λv o h1 h2=>?_;rw[q,eL]at h1;obtain rfl:=bR h1;rw[h2]at dL;contradiction
 have kc:∀{x c v},(x,c)∈env.cells->s.heap.IsCell c v->h'.IsCell c v:=λ{x c v}hc zf=>aq zf λo h1 h2=>(aA o (k _ _ (nC x c hc) h1) h2);exact{F with keep:=λb o e=>k _ _ (λq=>by rw[q,F.lx]at e;nomatch e) (F.keep b o e),apart:=F.apart,obj:=λb x e=>by refine aq (F.obj b x e) λro u v=>?_;exact(aA ro (k _ _ (λz=>by rw[z,F.lst]at e;nomatch e) u) (v.keep tk)),os:=F.os,gens:=F.gens,ns:=(aA m hm (λn v p q=>let⟨z,u,t⟩:=hl n v p q;(aA z u (t.keep tk)))),cells:=λx v p q=>let⟨c,y,u,t,z⟩:=F.cells x v p q;(bZ c y u (kc (mem_of_lookup u) t) (z.keep tk)),cell:=λx c hc=>let⟨v,hv⟩:=F.cell x c hc;(gE v (kc hc hv))}
def aH.adopt{a:aa}(F:aH w P s env loc st)(hb:1<a)(ha:P.h.get? a=ah)(hL:a≠env.locals)(hc:∀x,(x,a)∉env.cells)(e:s.heap.get? a=af ro)(ho:j6 w s.heap o ro):aH w P s env loc (st.put a o):={F with
 apart:=λb x q=>by
  by_cases z:b=a;·exact z▸ha
  ·rw[aE.gj z]at q;exact F.apart b x q,obj:=λb x q=>by
  by_cases z:b=a;·clear ha;subst z;rw[aE.lY]at q;rw[←bR q];exact(aA ro e ho)
  ·rw[aE.gj z]at q;exact F.obj b x q,big:=λb x q=>by
  by_cases z:b=a;·exact z▸hb
  ·rw[aE.gj z]at q;exact F.big b x q,lst:=by rw[aE.gj hL.symm];exact F.lst,cst:=λx c q=>⟨by rw[aE.gj (λz=>by rw[z]at q;exact hc x q)];exact(F.cst x c q).1,(F.cst x c q).2⟩}
def aH.beyond(F:aH w P s env loc st)(h:s.heap.objs.size<=a):st a=ah/\P.h.get? a=ah/\a≠env.locals/\(∀x,(x,a)∉env.cells)/\1<a:=by
 refine(AI ?_ ?_ ?_ ?_ ?_);rotate_left 4;·refine eR F.wide λb x h1 h2=>?_;exact bj (df h1 (dW (F.keep b x h2))) h
 ·cases q:st a with|none=>rfl|some m=>refine aq (F.obj _ m q) λro x u=>?_;exact bA (bj (dW x) h) (i6 _)
 ·cases q:P.h.get? a with|none=>rfl|some m=>exact bA (bj (dW (F.keep _ _ q)) h) (i6 _)
 ·rintro rfl;refine gN F.ns.choose_spec.1 λoL u u eL u=>?_;exact bA (bj (dW eL) h) (i6 _)
 ·intro x hx;refine eR (F.cell x a hx) λv o h1 u=>?_;exact bA (bj (dW h1) h) (i6 _)
def U8(h:WE prog w K r env (bc x env) loc st λu aQ=>∃y,u=.str y/\y.length<=16777216/\Q (.str (Sv y ah (af 1))) aQ)(hx:aB (∀o t r,IK x (.str o t) r=pure ()) tJ):WE prog w K r env (bc (.Subscript x (.Slice ah (af (.Constant (.int 1) k p1)) ah p) pos) env) loc st Q:=λA P s a g F=>by refine Jb (h.use a g F λy s1 u aQ ru F1 z1 z=>?_);obtain⟨y,rfl,h2,z1⟩:=z1;obtain⟨t,rfl⟩:=ru;refine Sn (Ag (RH (Iw (Ag ?_))));refine fV F1.A6 λm post Fm N hp hl=>?_;refine slice_strN_ns (s:={s1 with toks:=s1.toks+1}) Fm N (λh' t' c F' N'=>?_) rfl (hx _ _) (by exact h2);exact⟨_,aQ,.str _ _,F1.EA (λb x q e=>(N' _ (hp b x e q)).1) F'.ns hl _,z1⟩
def U9{n:aa}(h1:st a=af (.list [v]))(hn:n<=16777216)(h:∀c,st c=ah->Q (.ref c) (st.put c (.list (oV n v)))):dI prog w K r env (mS .Mult) (.ref a) (.int n) loc st Q:=λA P s x y u u F ru rv=>by
 rw[ru];obtain⟨t,rfl⟩:=rv;refine ba (F.toSRel.list h1) λitems k e z hl=>?_;refine fV F.A6 λm post Fm N hp jw=>?_;have hlen:items.size=1:=hl;refine mul_list Fm N e (by lia) (by lia) (by rw[hlen,DB];lia) λh' F' N'=>?_;refine kM (F.beyond (bq _)) λb1 b2 b3 b4 b5=>?_;refine⟨_,_,.ref _,(F.EA (λb x q e=>(N' _ (.tail _ (hp b x e q))).1) F'.ns jw s.toks).adopt (o:=.list (oV n v)) b5 b2 b3 b4 (N' _ (.head _)).1 (eK _ 0 rfl ?_),h _ b1⟩;refine aq (z.get_some (i:=0) (v:=v) rfl) λy hy ry=>?_;have ei:items=#[y]:=by apply Rz.mp;obtain⟨q,hq⟩:=z8.mp (fh.trans hlen);rw[hq]at hy;rw[←bR hy];exact hq
 rw[ei];have ef:∀n:aa,((oV n #[y]).foldl (λx1 x2=>x1++x2) #[]).toList=oV n y:=by
  have g:∀(n:aa)(acc:b9 aF),((oV n #[y]).foldl (λx1 x2=>x1++x2) acc).toList=acc.toList++oV n y:=by intro n;induction n with|zero=>intro acc;simp|succ n ih=>intro acc;simp only[List.replicate_succ,agC,ih,Ic,bW];rfl
  intro n;rw[g];rfl
 rw[ef];exact bB.replicate (ry.keep (λb o i n e c dd=>(N' _ (.tail _ (hp b _ e (F.x8 e dd)))).1)) n
end
end
section
variable [dq:Hid]
mutual noncomputable def fC:V->V->bw|.int _,.int _=>ai|.str _,.str _=>ai|.tup us,.tup vs=>rS us vs|_,_=>aD noncomputable def rS:ag V->ag V->bw|u::us,v::vs=>fC u v&&rS us vs|_,_=>ai end
mutual def eX:V->V->bw|.int a,.int b=>decide (a<b)|.str a,.str b=>decide (a.cps.toList<b.cps.toList)|.tup us,.tup vs=>jK us vs|_,_=>aD def jK:ag V->ag V->bw|[],[]=>aD|[],_::_=>ai|_::_,[]=>aD|u::us,v::vs=>if u=v then jK us vs else eX u v end
def nV:ag V->ag V->d6 (V×V)|u::us,v::vs=>if u=v then nV us vs else af (u,v)|_,_=>ah
def U':∀{us vs:ag V},nV us vs=ah->(us=vs↔us.length=vs.length):=by
 intro us;induction us with
  |nil=>intro vs _;clear a;induction vs with|nil=>exact⟨λo=>rfl,λo=>rfl⟩|cons _ _=>exact⟨nofun,nofun⟩
  |cons u us ih=>
   intro vs h;induction vs with
    |nil=>exact⟨nofun,nofun⟩|cons v vs=>
     have h:(if u=v then nV us vs else af (u,v))=ah:=h;by_cases q:u=v;·subst q;rw[a0 rfl]at h;exact⟨λe=>aO _ e,λe=>aO _ ((ih h).mpr (iC e))⟩
     ·rw[aX q]at h;contradiction
def J':∀{us vs:ag V}{p:V×V},nV us vs=af p->us≠vs/\jK us vs=eX p.1 p.2:=by
 intro us;induction us with
  |nil=>intro vs p h;nomatch vs<;>cases h|cons u us ih=>
   intro vs p h;induction vs using b7 with
    |nil=>contradiction|cons v vs=>
     have h:(if u=v then nV us vs else af (u,v))=af p:=h;refine(?_:_/\(if u=v then jK us vs else eX u v)=_);by_cases q:u=v;·rw[a0 q]at h⊢;exact⟨λe=>(ih h).1 (cq e).2,(ih h).2⟩
     ·rw[aX q]at h⊢;injection h with zc;rw[←zc];exact⟨λe=>q (cq e).1,rfl⟩
def Va:∀{us vs:ag V},nV us vs=ah->jK us vs=decide (us.length<vs.length):=by
 intro us;induction us with
  |nil=>intro vs _;clear a;induction vs<;>rfl|cons u us ih=>
   intro vs h;induction vs using b7 with
    |nil=>rfl|cons v vs=>
     have h:(if u=v then nV us vs else af (u,v))=ah:=h;refine(?_:(if u=v then jK us vs else eX u v)=decide (us.length+1<vs.length+1));by_cases q:u=v;·rw[a0 q]at h⊢;rw[ih h];exact decide_eq_decide.mpr af8.symm
     ·rw[aX q]at h;nomatch h
def t5{C:Prop}(ku:bO n u=ai)(ru:aM h u x)(hi:∀i t,u=.int i->x=.int i t->C)(hs:∀i t,u=.str i->x=.str i t->C)(ht:∀m us a xs k,n=m+1->u=.tup us->x=.ref a->h.get? a=af (gO xs k)->bB h us xs.toList->eU m us=ai->C):C:=by
 induction u using V.casesOn with
  |int i=>obtain⟨t,e⟩:=ru;exact hi i t rfl e|str i=>obtain⟨t,e⟩:=ru;exact hs i t rfl e|tup us=>refine eS ru λa xs k e g z o=>?_;induction n using jo with|zero=>exact by contradiction|succ m=>exact ht m us a xs k rfl rfl e g z ku
  |_=>exact nomatch n,ku
def Ka(h:fC (.int i) v=ai):∃j,v=.int j:=by induction v using V.casesOn with|int j=>exact(gE j rfl)|_=>exact rA h
def Kb(h:fC (.str i) v=ai):∃j,v=.str j:=by induction v using V.casesOn with|str j=>exact(gE j rfl)|_=>exact rA h
def Kc(h:fC (.tup us) v=ai):∃vs,v=.tup vs/\rS us vs=ai:=by induction v using V.casesOn with|tup j=>exact(aA j rfl h)|_=>exact rA h
def Kd(i j:bp):(i==j)=decide (V.int i=V.int j):=decide_eq_decide.mpr ⟨λe=>aO _ e,λe=>V.int.inj e⟩
def Ke(i j:aI):decide (i=j)=decide (V.str i=V.str j):=decide_eq_decide.mpr ⟨λe=>aO _ e,λe=>V.str.inj e⟩
def Vb(i j:ag V):decide (i=j)=decide (V.tup i=V.tup j):=decide_eq_decide.mpr ⟨λe=>aO _ e,λe=>V.tup.inj e⟩
def eU.cons{n:aa}{u:V}{us:ag V}(h:eU n (u::us)=ai):bO n u=ai/\eU n us=ai:=bM.mp h
section
variable{prog:cx}{w:aZ}{A:cQ}{E:aF->aK->Prop}{s:aK}
def EB(prog:cx)(w:aZ)(n:aa):Prop:=∀{A:cQ}{E:aF->aK->Prop}{s:aK}{u v:V}{x y:aF}{Q:bw->aK->Prop},A.units+n<fA->bO n u=ai->bO n v=ai->fC u v=ai->aM s.heap u x->aM s.heap v y->Q (decide (u=v)) s->aY (aU prog w) A (eqBool x y) Q E s
def Kf(ih:EB prog w n)(hu:A.units+n<fA){D:aF×aF->fU (ForInStep (d6 ahh×kK))}(hf:∀p b,f p b=(eqBool p.1 p.2>>=λe=>if(!e)=ai then D p else pure (.yield (ah,())))):∀(us vs:ag V)(xs ys:ag aF),bB s.heap us xs->bB s.heap vs ys->eU n us=ai->eU n vs=ai->rS us vs=ai->(∀u v x y,nV us vs=af (u,v)->bO n u=ai->bO n v=ai->fC u v=ai->aM s.heap u x->aM s.heap v y->aY (aU prog w) A (D (x,y)) (λr s'=>match r with|.done b=>R b s'|.yield _=>dv) E s)->(nV us vs=ah->R (ah,()) s)->aY (aU prog w) A (forIn (xs.zip ys) (ah,()) f) R E s:=by
 intro us;induction us with
  |nil=>intro vs xs ys r _ _ _ _ _ h2;rw[r];exact aG (h2 rfl)|cons u us ph=>
   intro vs xs ys r q ku kv ok h1 h2;refine ba r λx xs aC a b=>?_;rw[aC];induction vs using b7 with
    |nil=>rw[q];exact aG (h2 rfl)|cons v vs=>
     refine ba q λy ys aC c d=>?_;rw[aC];have ku:=eU.cons ku;have kv:=eU.cons kv;have ok:=bM.mp ok;have fd:nV (u::us) (v::vs)=if u=v then nV us vs else af (u,v):=rfl;rw[fd]at h1 h2;rw[List.zip_cons_cons,ID,hf];refine wb (cD (ih hu ku.1 kv.1 ok.1 a c ?_));by_cases q:u=v;·rw[a0 q]at h1 h2;rw[c7 q];exact aG (ph vs xs ys b d ku.2 kv.2 ok.2 h1 h2)
     ·rw[aX q]at h1;rw[dS q,a0 (show(!aD)=ai from rfl)];refine cC (h1 u v x y rfl ku.1 kv.1 ok.1 a c) (λr s' z=>?_) λo o x=>x;induction r with|done b=>exact aG z|yield b=>exact z.elim
def Kg(r:aM h (.tup us) x):∃a items k,x=.ref a/\h.get? a=af (gO items k)/\bB h us items.toList/\items.size=us.length:=let⟨a,i,k,e,g,z,_⟩:=r;(mX a i k e g z ((fh).symm.trans z.length))
def Vc(ih:EB prog w n)(hu:A.units+n<fA)(ea:s.heap.get? a=af (gO xs i))(eb:s.heap.get? b=af (gO ys j))(ra:bB s.heap us xs.toList)(rb:bB s.heap vs ys.toList)(ku:eU n us=ai)(kv:eU n vs=ai)(ok:rS us vs=ai)(h:P (.done (.ret (.bool (decide (us=vs))))) s):aY (aU prog w) A (Builtin.«tuple.__eq__» ⟨[.ref a,.ref b],[]⟩) P E s:=by
 refine wb (m:=Sy (.ref b) (.type "tuple")) (vD (aA _ eb rfl) Rl ?_);refine wb (DA ea rfl (wb (DA eb rfl ?_)));refine wb (Kf ih hu (λo o=>rfl) us vs _ _ ra rb ku kv ok (λu v x y e o o o o o=>?_) λe=>?_);·rw[dS (J' e).1]at h;exact wb (aG (aG (aG h)))
 ·have:(xs.size==ys.size)=decide (us=vs):=by rw[((fh).symm.trans ra.length),((fh).symm.trans rb.length)];exact decide_eq_decide.mpr (U' e).symm
  rw[←this]at h;exact aG h
def x9(prog:cx)(w:aZ):∀n,EB prog w n:=λn=>by
 induction n using p8 with
  |_ n ih=>
   intro A E s u v x y Q hu ku kv ok ru rv h;refine t5 ku ru (λi t e1 e2=>?_) (λi t e1 e2=>?_) λm us a xs k e0 e1 e2 ea ra ku=>?_;·subst e1 e2;obtain⟨j,rfl⟩:=Ka ok;obtain⟨_,rfl⟩:=rv;exact wpAny_eqBool_int ((Kd i j).symm▸h)
   ·subst e1 e2;obtain⟨j,rfl⟩:=Kb ok;obtain⟨_,rfl⟩:=rv;exact wpAny_eqBool_str ((Ke i j).symm▸h)
   ·clear ru;subst e0 e1 e2;refine aq (Kc ok) λvs bQ ok=>?_;subst bQ;refine eS rv λb ys j bT eb rb o=>?_;rw[bT];refine dU (show aY _ _ (if(xK a==xK b)=ai then _ else _) Q E s from ?_);by_cases nX:(xK a==xK b)=ai;·rw[a0 nX];clear rv;cases eq_of_beq nX;cases ea.symm.trans eb;cases eU.inj ku kv ra rb;exact wb (jZ (aG (c7 (rfl:V.tup us=V.tup us)▸h)))
    ·rw[aX nX];exact cD (afP (op:=.Eq) ⟨_,ea,rfl⟩ (aA _ eb rfl) RS (jj RS ⟨_,ea,rfl⟩ F.entry_tuple_eq (Vc (ih m (f9 m)) (by lia) ea eb ra rb ku kv ok (bH _ rfl (λe=>by contradiction) (vB ((Vb us vs).symm▸h)))) (F.args_tuple_eq_2 _ _)) ((br (dE _ _) hu)))
def Kh(prog:cx)(w:aZ)(n:aa):Prop:=∀{A:cQ}{E:aF->aK->Prop}{s:aK}{u:V}{x:aF}{Q:bp->aK->Prop},A.units+n<fA->bO n u=ai->aM s.heap u x->(∀t,Q (V.hash w u) {s with toks:=t})->aY (aU prog w) A (pyHash x) Q E s
theorem Ki(w:aZ)(k:V):∀done:ag V,V.hashes w (done++[k])=V.hashes w done++[V.hash w k]|[]=>rfl|_::done=>aO _ (Ki w k done)
def Vd(ih:Kh prog w n)(hu:A.units+(n+1)<fA)(ku:eU n us=ai)(ea:s.heap.get? a=af (gO xs i))(ra:bB s.heap us xs.toList)(h:∀t,Q (V.hash w (.tup us)) {s with toks:=t}):aY (aU prog w) A (pyHash (.ref a)) Q E s:=by
 have hT:s.TypeIs (.ref a) "tuple":=(aA _ ea rfl);first|skip|skip
 refine wb (wpAny_cRoomFor_or (.inr ((br (dE _ _) hu))) ?_);refine wb (xD hT DC.lookup ?_);refine wb (xD hT DC.lookup ?_);refine cD (m:=callSpecialIfBoundUnlessNone? (.ref a) "__hash__" _) (wpAny_callSpecialIfBoundUnlessNone?_slot hT DC (jj DC hT F.entry_tuple_hash ?_ (F.args_tuple_hash_1 _)));refine wb (m:=ahY (.ref a)) (DA ea rfl ?_);refine wb ?_;rw[←Ij];refine xB _ (λrest(b:b9 bp)s'=>∃done left t,us=done++left/\bB s.heap left rest/\eU n left=ai/\b.toList=V.hashes w done/\s'={s with toks:=t}) _ ?_ ?_ _ _ (AK ([]) us s.toks rfl ra ku rfl rfl);·intro x rest b s' g;refine xT g λdone left t e hl kl hb gF=>?_;rw[gF];induction left using b7 with|nil=>nomatch hl|cons k EC=>refine ba hl λu u e2 h1 pj=>?_;obtain⟨rfl,rfl⟩:=cq e2;have kl:=eU.cons kl;exact wb (ih (by lia) kl.1 h1 λt'=>aG (AK (done++[k]) EC t' (e.trans (bW done [k] EC).symm) pj kl.2 ((Af).trans ((aO (·++[V.hash w k]) hb).trans (Ki w k done).symm)) rfl))
 ·intro b s' g;refine xT g λdone left t e hl kl hb gF=>?_;rw[gF];induction left using b7 with
   |cons k EC=>refine eR hl λu u e2 u=>?_;contradiction|nil=>
    rw[bN]at e;subst e;show aY _ _ (retInt (Dm b.toList)) _ _ _;rw[hb];refine wpAny_ret_mkInt ?_;have h:∀t,Q (Sx (Dm (V.hashes w us))) {s with toks:=t}:=h;delta Sx at h;by_cases hr:(decide (-(2:bp)^63<=Dm (V.hashes w us))&&decide (Dm (V.hashes w us)<2^63))=ai;·rw[a0 hr]at h;show aY _ _ (if _ then _ else _) Q E _;rw[a0 hr];exact aG (h _)
    ·rw[aX hr]at h;show aY _ _ (if _ then _ else _) Q E _;rw[aX hr];exact wb (jZ (aG (h _)))
def t6(prog:cx)(w:aZ):∀n,Kh prog w n:=λn=>by
 induction n using p8 with
  |_ n ih=>
   intro A E s u x Q hu ku ru h;refine t5 ku ru (λi t e1 e2=>?_) (λi t e1 e2=>?_) λm us a xs k e0 e1 e2 ea ra ku=>?_;·subst e1 e2;exact wpAny_pyHash_int (h _)
   ·subst e1 e2;exact wpAny_pyHash_str (h _)
   ·clear ru;subst e0 e1 e2;exact Vd (ih m (f9 m)) hu ku ea ra h
def A7:∀(n:aa){A:cQ}{E:aF->aK->Prop}{s:aK}{u:V}{x:aF}{Q:bw->aK->Prop}(m:aa),n<=m->bO n u=ai->aM s.heap u x->Q ai s->aY (aU prog w) A (eqIsQuiet m x) Q E s:=λn=>by
 induction n using p8 with
  |_ n ih=>
   intro A E s u x Q m hm ku ru h;refine t5 ku ru (λi t e1 e2=>?_) (λi t e1 e2=>?_) λn us a items k e0 e1 e2 e z ku=>?_;·subst e1 e2;rw[agW m (by rfl)];exact aG h
   ·subst e1 e2;rw[agW m (by rfl)];exact aG h
   ·clear ru;subst e0 e1 e2;have hT:s.TypeIs (.ref a) "tuple":=(aA _ e rfl);induction m using jo with
     |zero=>exact bA hm (Dw n)|succ m=>
      unfold eqIsQuiet;refine wb (xD hT RS.lookup ?_);refine wb (m:=Sy (.ref a) (.type "tuple")) (vD hT Rl ?_);refine wb (oW e rfl ?_);refine wb (m:=forIn items _ _) ?_;rw[←Ij];refine xB _ (λrest r s'=>r.1=ah/\s'=s/\∃hW,eU n hW=ai/\bB s.heap hW rest) _ ?_ ?_ _ _ (cM rfl rfl (aA us ku z));·intro v rest r s' g;refine gf g λhr bQ bg=>aq bg λhW vW z'=>?_;rw[bQ];induction hW using b7 with|nil=>nomatch z'|cons u' hW=>refine ba z' λo o e2 q1 q2=>?_;obtain⟨rfl,rfl⟩:=cq e2;exact wb (ih n (f9 n) m (Dt hm) (eU.cons vW).1 q1 (aG (cM rfl rfl (aA _ ((eU.cons vW).2) q2))))
      ·intro r s' g;clear e;obtain⟨hr,rfl,_⟩:=g;obtain⟨r1,r2⟩:=r;subst hr;exact aG h
def Ve(prog:cx)(w:aZ)(n:aa):Prop:=∀{A:cQ}{E:aF->aK->Prop}{s:aK}{u v:V}{x y:aF}{Q:aF->aK->Prop},A.units+n<fA->bO n u=ai->bO n v=ai->fC u v=ai->aM s.heap u x->aM s.heap v y->Q (.bool (eX u v)) s->aY (aU prog w) A (richCompare .Lt x y) Q E s
def Vf(prog:cx)(w:aZ):∀n,Ve prog w n:=λn=>by
 induction n using p8 with
  |_ n ih=>
   intro A E s u v x y Q hu ku kv ok ru rv h;refine t5 ku ru (λi t e1 e2=>?_) (λi t e1 e2=>?_) λm us a xs k e0 e1 e2 ea ra ku=>?_;·subst e1 e2;obtain⟨j,rfl⟩:=Ka ok;obtain⟨_,rfl⟩:=rv;exact(show aY (aU prog w) A (fJ .Lt _ _) Q E s from lt_int h)
   ·subst e1 e2;obtain⟨j,rfl⟩:=Kb ok;obtain⟨_,rfl⟩:=rv;exact(show aY (aU prog w) A (fJ .Lt _ _) Q E s from lt_str h)
   ·clear ru;subst e0 e1 e2;refine aq (Kc ok) λvs bQ ok=>?_;subst bQ;refine eS rv λb ys j bT eb rb o=>?_;rw[bT];have h:Q (.bool (jK us vs)) s:=h;refine afP (op:=.Lt) ⟨_,ea,rfl⟩ ⟨_,eb,rfl⟩ agZ (jj agZ ⟨_,ea,rfl⟩ F.entry_tuple_lt ?_ (F.args_tuple_lt_2 _ _)) ((br (dE _ _) hu));refine wb (m:=Sy (.ref b) (.type "tuple")) (vD ⟨_,eb,rfl⟩ Rl ?_);refine wb (DA ea rfl (wb (DA eb rfl ?_)));refine wb (Kf (n:=m) (x9 prog w m) (by lia) (λo o=>rfl) us vs _ _ ra rb ku kv ok (λu v x y e k1 k2 k3 r1 r2=>?_) λe=>?_);·rw[(J' e).2]at h;exact wb (jZ (wb (ih m (f9 m) (by lia) k1 k2 k3 r1 r2 (wb (aG (aG (aG (bH _ rfl nofun h))))))))
    ·simp only[Va e,←((fh).symm.trans ra.length),←((fh).symm.trans rb.length)]at h;exact aG (bH _ rfl nofun h)
end
end
section
def eY(es:ag (V×V))(k:V):d6 aa:=es.findIdx? λp=>decide (p.1=k)
def cj(es:ag (V×V))(k:V):d6 V:=(es.find? λp=>decide (p.1=k)).map (·.2)
def dt(es:ag (V×V))(k v:V):ag (V×V):=match eY es k with|af i=>es.modify i λp=>(p.1,v)|ah=>es++[(k,v)]
def rT(es:ag (V×V))(k:V):ag (V×V):=match eY es k with|af i=>es.eraseIdx i|ah=>es
def rU(es:ag (V×V))(k:V):cj es k=(eY es k).bind λi=>(es[i]?).map (·.2):=by
 delta cj eY;induction es with
  |nil=>rfl|cons p es ih=>
   by_cases q:p.1=k;·simp[xw,q]
   ·simp only[An,xw,q,Js];rw[ih];cases es.findIdx? λp=>decide (p.1=k)<;>dsimp
def qk(h:eY es k=af i):∃v,es[i]?=af (k,v):=by delta eY at h;rw[QU]at h;refine aq h λhi hk u=>?_;have:=gD hk;exact⟨es[i].2,by rw[gy hi,←this]⟩
def rV:eY es k=ah↔∀p∈es,p.1≠k:=by delta eY;simp
def Kj(hn:(es.map (·.1)).Nodup)(h:es[i]?=af (k,v)):eY es k=af i:=by
 cases q:eY es k with
  |none=>exact bA rfl (rV.mp q _ (e8 h))|some j=>
   refine dh (qk q) λu hu=>?_;have j5:(es.map (·.1))[j]?=af k:=by rw[jh,hu];rfl
   rw[(List.getElem?_inj (iQ.mp j5).1 hn).mp (j5.trans (by rw[jh,h];rfl:(es.map (·.1))[i]?=af k).symm)]
def qm:cj es k=ah↔eY es k=ah:=by rw[rU];cases q:eY es k with|none=>simp|some i=>refine dh (qk q) λv hv=>?_;simp[hv]
section
variable [dq:Hid]
def eH.length(r:eH w h es ds):ds.length=es.length:=by induction r with|nil=>rfl|cons _ _ _ _ ih=>simp[ih]
def eH.get(r:eH w h es ds)(i:aa):(∃k v kx x,es[i]?=af (k,v)/\ds[i]?=af ⟨V.hash w k,kx,x⟩/\aM h k kx/\aM h v x/\bO 7 k=ai)\/(es[i]?=ah/\ds[i]?=ah):=by induction r generalizing i with|nil=>exact .inr (by simp)|cons a b c _ ih=>induction i using jo with|zero=>exact .inl (rL _ _ _ _ rfl rfl a b c)|succ i=>simpa using ih i
def eH.get_some(r:eH w h es ds){i:aa}(e:es[i]?=af (k,v)):∃kx x,ds[i]?=af ⟨V.hash w k,kx,x⟩/\aM h k kx/\aM h v x/\bO 7 k=ai:=by
 rcases r.get i with⟨k',v',kx,x,a,b,c,d,f⟩|⟨a,_⟩;·rw[a]at e;cases e;exact(rI kx x b c d f)
 ·rw[a]at e;nomatch e
def eH.A8(r:eH w h es ds)(m:e∈ds):∃k v,(k,v)∈es/\e.hash=V.hash w k/\aM h k e.key/\aM h v e.val/\bO 7 k=ai:=by
 refine dh (oP.mp m) λi hi=>?_;rcases r.get i with⟨k',v',kx,x,a,b,c,d,f⟩|⟨_,a⟩;·rw[b]at hi;clear m;rw[←bR hi];exact(rJ k' v' (e8 a) rfl c d f)
 ·rw[a]at hi;nomatch hi
def eH.append(r:eH w h es ds)(r':eH w h fD ds'):eH w h (es++fD) (ds++ds'):=by induction r with|nil=>exact r'|cons a b c _ ih=>exact .cons a b c ih
def eH.modify(r:eH w h es ds)(q:aM h v x)(i:aa):eH w h (es.modify i λp=>(p.1,v)) (ds.modify i λe=>{e with val:=x}):=by induction r generalizing i with|nil=>simp;exact .nil|cons a b c d ih=>induction i with|zero=>exact .cons a q c d|succ i=>exact .cons a b c (ih i)
def eH.erase(r:eH w h es ds)(i:aa):eH w h (es.eraseIdx i) (ds.eraseIdx i):=by induction r generalizing i with|nil=>exact .nil|cons a b c d ih=>induction i with|zero=>exact d|succ i=>exact .cons a b c (ih i)
def Kk(es:ag (V×V))(i:aa)(v:V):(es.modify i λp=>(p.1,v)).map (·.1)=es.map (·.1):=by induction es generalizing i with|nil=>simp|cons p es ih=>induction i using jo with|zero=>rfl|succ i=>simp[ih]
def Kl(hn:(es.map (·.1)).Nodup)(k v:V):((dt es k v).map (·.1)).Nodup:=by delta dt;cases q:eY es k with|some i=>rw[Kk];exact hn|none=>rw[cy,jk,List.map_nil];refine gA.mpr (cM hn (by simp) ?_);intro a ha b hb;rw[bU]at hb;subst hb;rintro rfl;refine aq (bt.mp ha) λp hp aC=>?_;subst aC;exact rV.mp q p hp rfl
def Vg(hn:(es.map (·.1)).Nodup)(k:V):((rT es k).map (·.1)).Nodup:=by delta rT;cases q:eY es k with|none=>exact hn|some i=>exact afO ((List.eraseIdx_sublist es i).map _) hn
section
variable{prog:cx}{w:aZ}{A:cQ}{E:aF->aK->Prop}{s:aK}
def Km(r:eH w h es ds)(k:V)(p:DV->bw)(hp:∀k' v x,(k',v)∈es->aM h k' x.key->x.hash=V.hash w k'->p x=decide (k'=k)):ds.findIdx? p=eY es k:=by delta eY;induction r with|nil=>rfl|@cons k' v' kx x es ds a b c _ ih=>rw[xw,xw,hp k' v' _ aR a rfl,ih λk' v x m=>hp k' v x (bK _ m)]
def Vh(he:eH w h es ds)(hj:eY es k=af j):j∈ahn ds.toArray.size (λi=>ds.toArray[i]?.map (·.hash)) (V.hash w k):=by refine dh (qk hj) λu hu=>?_;refine eR (he.get_some hu) λkx x e o=>?_;refine gM.mpr ⟨dT.mpr (iQ.mp e).1,?_⟩;show(DM _ ds.toArray[j]?==_)=ai;exact(((Rf ..).trans e))▸(jr _)
def qn(es:ag (V×V))(k:V)(rest:ag aa)(b:d6 (d6 aa)×d6 aa):Prop:=rest.Nodup/\(∀i∈rest,i<es.length)/\b.1=ah/\((b.2=ah/\∀j,eY es k=af j->j∈rest)\/∃j,b.2=af j/\eY es k=af j/\j∉rest)
def qn.Kn(g:qn es k (x::rest) b)(e:es[x]?=af (k',u))(ne:k'≠k):qn es k rest b:=(ip ((iZ.mp g.1).2) (λi hi=>g.2.1 i (bK _ hi)) g.2.2.1 (g.2.2.2.imp (λq=>⟨q.1,λj hj=>(cg.mp (q.2 j hj)).elim (λz=>by obtain⟨u',hu⟩:=qk hj;simp only[z,e]at hu;clear e;cases hu;exact bA rfl ne) id⟩) λzf=>bL zf λj q1 q2 q3=>(bH j q1 q2 (λz=>q3 (bK _ z)))))
def qn.hit(g:qn es k (x::rest) b)(hx:eY es k=af x):b.2=ah/\qn es k rest (ah,af x):=by
 refine il g λg1 g2 g3 g4=>?_;refine(AI ?_ ((iZ.mp g1).2) (λi hi=>g2 i (bK _ hi)) rfl (.inr (bH x rfl hx ((iZ.mp g1).1))));rcases g4 with q|⟨j,q1,q2,q3⟩;·exact q.1
 ·rw[hx]at q2;clear q1;obtain rfl:=bR q2;exact bA aR q3
def qn.fin(g:qn es k [] b):b.2=eY es k:=by
 rcases g.2.2.2 with⟨q1,q2⟩|⟨j,q1,q2,_⟩;·rw[q1];cases e:eY es k with|none=>rfl|some j=>exact by cases q2 j e
 ·rw[q1,q2]
def Vi{jp:bw->fU α}{Jl:ag aF}{Q:α->aK->Prop}(hk:aM s.heap k (.ref a))(kk:bO 7 k=ai)(gQ:∀v∈Jl,∃k',aM s.heap k' v/\bO 7 k'=ai)(h:aY (aU prog w) A (jp aD) Q E s):aY (aU prog w) A (if(Jl==[xK a])=ai then pure aD>>=jp else tableMayTell (.ref a) Jl>>=jp) Q E s:=by
 split;·exact cD (aG h)
 refine wb ?_;delta tableMayTell;split;·exact aG h
 refine wb (A7 7 8 (kE 7) kk hk (wb ?_));refine xB _ (λrest r s'=>s'=s/\r=(ah,())/\∀v∈rest,∃k',aM s.heap k' v/\bO 7 k'=ai) _ ?_ ?_ _ _ (cM rfl rfl gQ);·intro x rest r s' g;clear hk kk gQ;obtain⟨rfl,rfl,hr⟩:=g;refine aq (hr x aR) λk' hb qo=>?_;exact wb (A7 7 8 (kE 7) qo hb (aG (cM rfl rfl (λv hv=>hr v (bK _ hv)))))
 ·intro r s' g;clear hk kk gQ;obtain⟨rfl,rfl,_⟩:=g;exact aG h
def Vj(hu:A.units+7<fA)(ho:s.heap.get? d=af (jG ds n))(he:eH w s.heap es ds)(hn:(es.map (·.1)).Nodup)(hk:aM s.heap k (.ref a))(kk:bO 7 k=ai)(ok:∀p∈es,fC p.1 k=ai)(h:Q (eY es k) s):aY (aU prog w) A (dictFind d (.ref a) (V.hash w k)) Q E s:=by
 have Ko:¬(ds.toArray.any λe=>e.key==xK a&&e.hash !=V.hash w k)=ai:=by rw[List.any_toArray,Iz];intro zi;refine aq zi λe me hc=>?_;refine j4 (he.A8 me) λk' v' u hh r1 u qo=>?_;have hc:=bM.mp hc;rw[eq_of_beq hc.1]at r1;exact bA (hh.trans (aO _ (bO.inj qo kk r1 hk))) (bne_iff_ne.mp hc.2)
 have gQ:∀v∈(ahn ds.toArray.size (λi=>ds.toArray[i]?.map (·.hash)) (V.hash w k)).filterMap (λi=>ds.toArray[i]?.map (·.key)),∃k',aM s.heap k' v/\bO 7 k'=ai:=by intro v hv;refine aq (Rn.mp hv) λi u hi=>?_;refine aq (lR.mp hi) λe t7 aC=>?_;rw[←aC];refine j4 (he.A8 (e8 ((Rf ..).symm.trans t7))) λk' v' u u r1 u qo=>?_;exact(aA k' r1 qo)
 refine dU (cD (xx ho rfl ?_));dsimp only;rw[aX (show¬((xK a::_).all carriedByValue)=ai from nofun),aX Ko];refine Vi hk kk gQ ?_;refine cD ?_;refine xB _ (λrest b s'=>s'=s/\qn es k rest b) _ ?_ ?_ _ _ (AI rfl (Ak.filter _) (λi hi=>by have:=dT.mp (gM.mp hi).1;rwa [Ru,he.length]at this) rfl (.inl ⟨rfl,λj hj=>Vh he hj⟩));·
  intro x rest b s' g;clear gQ;obtain⟨rfl,g⟩:=g;obtain⟨b1,b2⟩:=b;have ED:=g.2.2.1;subst ED;rcases he.get x with zq|zq;·
   refine D8 zq λk' v' kx vx A9 hex r1 r2 qo=>?_;rw[((Rf ..).trans hex)];dsimp only;by_cases hh:(V.hash w k'==V.hash w k)=ai;·
    rw[a0 hh];refine wb (DH ho rfl (wb (x9 prog w 7 hu qo kk (ok _ (e8 A9)) r1 hk (cD (DH ho rfl ?_)))));rw[aX (show¬(n !=n)=ai from by rw[bne_self_eq_false];exact nofun)];by_cases Ba:k'=k;·
     rw[c7 Ba];clear hex;cases Ba;have hx:=Kj hn A9;refine bx (g.hit hx) λq1 q2=>?_;subst q1;refine cD (jZ ?_);rw[hx]at h;split;·exact aG (aG h)
     ·exact aG ⟨rfl,q2⟩
    ·rw[dS Ba];exact wb (jZ (aG ⟨rfl,g.Kn A9 Ba⟩))
   ·rw[aX hh];exact aG ⟨rfl,g.Kn A9 λe=>hh (by exact e▸(jr _))⟩
  ·exact bA (g.2.1 x aR) (Sk.mpr (List.getElem?_eq_none_iff.mp zq.1))
 ·intro b s' g;clear hu ho he hn hk kk ok Ko gQ;obtain⟨rfl,g⟩:=g;obtain⟨b1,b2⟩:=b;have ED:=g.2.2.1;rw[ED];rw[g.fin];exact aG h
def Kp(h:fC v (.int i)=ai):∃j,v=.int j:=by induction v using V.casesOn with|int j=>exact(gE j rfl)|_=>exact rA h
def Kq(h:fC v (.str i)=ai):∃j,v=.str j:=by induction v using V.casesOn with|str j=>exact(gE j rfl)|_=>exact rA h
def Bb(hu:A.units+7<fA)(ho:s.heap.get? d=af (jG ds n))(he:eH w s.heap es ds)(hn:(es.map (·.1)).Nodup)(hk:aM s.heap k x)(kk:bO 7 k=ai)(ok:∀p∈es,fC p.1 k=ai)(h:Q (eY es k) s):aY (aU prog w) A (dictFind d x (V.hash w k)) Q E s:=by
 refine t5 kk hk (λi t e1 e2=>?_) (λi t e1 e2=>?_) λm us a xs c u u e2 u u u=>by subst e2;exact Vj hu ho he hn hk kk ok h
 ·subst e1 e2;refine agS (knd:=intKind prog w) (k:=i) (jr i) ho rfl ?_ ?_;·intro e me;refine j4 (he.A8 (agr.mp me)) λk' v' m hh r1 u qo=>?_;obtain⟨j,rfl⟩:=Kp (ok _ m);obtain⟨t,e⟩:=r1;exact(aA j (by rw[e];exact jr j) hh)
  ·rw[afW,Km he (.int i) _ λk' v e m r1 hh=>by obtain⟨j,rfl⟩:=Kp (ok _ m);obtain⟨t,e⟩:=r1;exact e▸((Kd j i))];exact h
 ·subst e1 e2;refine agS (knd:=nH prog w) (k:=i) (jr i) ho rfl ?_ ?_;·intro e me;refine j4 (he.A8 (agr.mp me)) λk' v' m hh r1 u qo=>?_;obtain⟨j,rfl⟩:=Kq (ok _ m);obtain⟨t,e⟩:=r1;exact(aA j (by rw[e];exact jr j) hh)
  ·rw[afW,Km he (.str i) _ λk' v e m r1 hh=>by clear hh;obtain⟨j,rfl⟩:=Kq (ok _ m);obtain⟨t,e⟩:=r1;exact e▸(Eq.trans (agE.mpr ⟨λe=>c7 (eq_of_beq e),λe=>beq_iff_eq.mpr (gD e)⟩) (Ke j i))];exact h
end
end
end
section
set_option tactic.hygienic true
set_option tactic.hygienic true
variable [dq:Hid]
def eM(es:ag (V×V))(k:V):Prop:=bO 7 k=ai/\∀p∈es,fC p.1 k=ai
section
variable{prog:cx}{w:aZ}{K:cJ}{r:aa}{env:bI}{loc:Loc}{st:aE}{A:cQ}{P:bE}{s:aK}{E:aF->aK->Prop}
def dY.key(a:dY A (r+1)):A.units+7<fA:=by have:=a.units;unfold fA;exact l2 0x26ac4a7b09826ac4a1d1e2c092 this
def dY.nY(a:dY A (r+1)):A.in1.units+7<fA:=by have:=a.units;delta fA;lia
def SRel.dict(F:SRel w P s st)(h:st d=af (.dict es)):∃ds n,s.heap.get? d=af (jG ds n)/\eH w s.heap es ds/\(es.map (·.1)).Nodup/\(d==DQ)=aD:=by refine aq (F.obj d _ h) λro e bg=>ba bg λds n iF z nd=>?_;clear bg;subst iF;refine(rI ds n e z nd ?_);have:=F.big d _ h;rw[SQ];clear e;rintro rfl;exact bA this (by decide)
def jL{d:aa}(e:s.heap.get? d=af (jG ds n)):s.TypeIs (.ref d) "dict":=⟨_,e,rfl⟩
def aH.Bc(F:aH w P s env loc st)(h:st d=af (.dict es))(e:s.heap.get? d=af (jG ds n))(hf:f (jG ds n)=jG ds' n')(z:∀h',cK s.heap h'->eH w h' fD ds')(nd:(fD.map (·.1)).Nodup):aH w P {s with heap:=s.heap.update d f} env loc (st.put d (.dict fD)):=by have tk:cK s.heap (s.heap.update d f):=λb o i k e1 c u=>(mK _ _ λq=>by rw[←q,e]at e1;obtain rfl:=bR e1;exact bA c (by show cS "dict"≠_;decide)).trans e1;refine F.put (λb x q e1=>(mK _ _ (nJ q)).trans e1) (.inl (by rw[h];rfl)) ⟨_,vo _ e (by rw[hf];rfl),?_⟩;rw[hf];exact(bZ _ _ rfl (z _ tk) nd)
def EE(hu:A.units+7<fA)(F:aH w P s env loc st)(h1:st d=af (.dict es))(hk:aM s.heap k x)(kk:eM es k)(hn:cj es k=ah->∀t,Q ah {s with toks:=t})(hs:∀v y,cj es k=af v->aM s.heap v y->∀t,Q (af y) {s with toks:=t}):aY (aU prog w) A (DZ d x) Q E s:=by
 refine fV (F.toSRel.dict h1) λds n e z nd u=>?_;delta DZ;try with_reducible refine dU ?_
 refine wb (t6 prog w 7 hu kk.1 hk λt=>wb (Bb (s:={s with toks:=t}) hu e z nd hk kk.1 kk.2 ?_));cases q:eY es k with|none=>exact aG (hn (qm.mpr q) t)|some i=>refine dh (qk q) λv hv=>?_;refine fV (z.get_some hv) λkx y e1 u r2 u=>?_;refine cD (xx (s:={s with toks:=t}) e rfl ?_);exact((by simp[e1]:(ds.toArray[i]?).map (·.val)=af y))▸(aG (hs v y (by rw[rU,q];simp[hv]) r2 t))
def Bd(hu:A.units+7<fA)(F:aH w P s env loc st)(h1:st d=af (.dict es))(hk:aM s.heap k x)(hv:aM s.heap v y)(kk:eM es k)(hz:es.length<=16777216)(h:∀s',aH w P s' env loc (st.put d (.dict (dt es k v)))->cK s.heap s'.heap->Q () s'):aY (aU prog w) A (DY d x y) Q E s:=by
 refine fV (F.toSRel.dict h1) λds n e z nd u=>?_;have tk:∀f,cK s.heap (s.heap.update d f):=λf b o i k e1 c u=>(mK _ _ λq=>by rw[←q,e]at e1;obtain rfl:=bR e1;exact bA c (by show cS "dict"≠_;decide)).trans e1;delta DY;try with_reducible refine dU ?_
 refine wb (t6 prog w 7 hu kk.1 hk λt=>?_);delta dictSetHashed;try with_reducible refine dU ?_
 refine wb (Bb (s:={s with toks:=t}) hu e z nd hk kk.1 kk.2 ?_);have pn:=Kl nd k v;unfold dt at h pn;clear hu;cases q:eY es k with
  |none=>
   rw[q]at h pn;refine wb (jZ (Rt (s:={s with toks:=t}) e rfl (h _ ((F.tok t).Bc (n':=n+1) (ds':=ds++[⟨V.hash w k,x,y⟩]) h1 e ?_ (λh' tk=>?_) pn) (tk _)) (by exact bG (e9 z.length) hz)));·simp[RO]
   ·exact(z.keep tk).append (.cons (hk.keep tk) (hv.keep tk) kk.1 .nil)|some i=>
   rw[q]at h pn;refine wb (jZ (wb (wpAny_updateDict (s:={s with toks:=t}) e rfl (wpAny_point (h _ ((F.tok t).Bc (n':=n) (ds':=ds.modify i λe=>{e with val:=y}) h1 e ?_ (λh' tk=>?_) pn) (tk _))))));·simp[cY.mapDict]
   ·exact(z.keep tk).modify (hv.keep tk) i
def Vk(hu:A.units+7<fA)(F:aH w P s env loc st)(h1:st d=af (.dict es))(hk:aM s.heap k x)(hv:aM s.heap v y)(kk:eM es k)(hz:es.length<=16777216)(hs:∀v y,cj es k=af v->aM s.heap v y->∀t,Q y {s with toks:=t})(h:cj es k=ah->∀s',aH w P s' env loc (st.put d (.dict (es++[(k,v)])))->cK s.heap s'.heap->Q y s'):aY (aU prog w) A (R5 d x y) Q E s:=by
 refine fV (F.toSRel.dict h1) λds n e z nd u=>?_;have tk:∀f,cK s.heap (s.heap.update d f):=λf b o i k e1 c u=>(mK _ _ λq=>by rw[←q,e]at e1;obtain rfl:=bR e1;exact bA c (by show cS "dict"≠_;decide)).trans e1;delta R5;try with_reducible refine dU ?_
 refine wb (t6 prog w 7 hu kk.1 hk λt=>?_);refine cD (Bb (s:={s with toks:=t}) hu e z nd hk kk.1 kk.2 ?_);have pn:=Kl nd k v;unfold dt at pn;clear hu;cases q:eY es k with
  |none=>
   rw[q]at pn;refine cD (jZ (cD (Rt (s:={s with toks:=t}) e rfl (aG (h (qm.mpr q) _ ((F.tok t).Bc (n':=n+1) (ds':=ds++[⟨V.hash w k,x,y⟩]) h1 e ?_ (λh' tk=>?_) pn) (tk _))) (by exact bG (e9 z.length) hz))));·simp[RO]
   ·exact(z.keep tk).append (.cons (hk.keep tk) (hv.keep tk) kk.1 .nil)|some i=>refine dh (qk q) λv' m6=>?_;refine fV (z.get_some m6) λkx y' e1 u r2 u=>?_;refine cD (xx (s:={s with toks:=t}) e rfl ?_);exact((by simp[e1]:ds.toArray[i]?=af ⟨V.hash w k,kx,y'⟩))▸(wb (jZ (aG (hs v' y' (by rw[rU,q];simp[m6]) r2 t))))
def Vl(hu:A.units+7<fA)(F:aH w P s env loc st)(h1:st d=af (.dict es))(hk:aM s.heap k x)(kk:eM es k)(hz:es.length<=16777216)(hv:cj es k=af v)(h:∀e s',aM s'.heap v e.val->aH w P s' env loc (st.put d (.dict (rT es k)))->cK s.heap s'.heap->Q (af e) s'):aY (aU prog w) A (afx d x) Q E s:=by
 refine fV (F.toSRel.dict h1) λds n e z nd u=>?_;have tk:∀f,cK s.heap (s.heap.update d f):=λf b o i k e1 c u=>(mK _ _ λq=>by rw[←q,e]at e1;obtain rfl:=bR e1;exact bA c (by show cS "dict"≠_;decide)).trans e1;delta afx;try with_reducible refine dU ?_
 refine wb (t6 prog w 7 hu kk.1 hk λt=>?_);refine wb (Bb (s:={s with toks:=t}) hu e z nd hk kk.1 kk.2 ?_);have pn:=Vg nd k;unfold rT at pn h;rw[rU]at hv;cases q:eY es k with
  |none=>rw[q]at hv;simp at hv|some i=>
   rw[q]at pn h hv;refine dh (qk q) λv' m6=>?_;obtain rfl:v'=v:=by simpa [m6]using hv
   refine fV (z.get_some m6) λkx y' e1 u r2 u=>?_;have hi:=(iQ.mp e1).1;refine cD (xx (s:={s with toks:=t}) e rfl ?_);rw[(by simp[e1]:ds.toArray[i]?=af ⟨V.hash w k,kx,y'⟩)];refine wb (Rt (s:={s with toks:=t}) e rfl (aG (h _ _ (r2.keep (tk _)) ((F.tok t).Bc (n':=n+1) (ds':=ds.eraseIdx i) h1 e ?_ (λh' tk=>?_) pn) (tk _))) (by exact bG (e9 z.length) hz) (by have:=List.length_eraseIdx_le ds i;simp[hi];exact Aj this));·simp[RO]
   ·exact(z.keep tk).erase i
def Kr(hu:A.in1.units+7<fA)(F:aH w P s env loc st)(h1:st d=af (.dict es))(hk:aM s.heap k x)(kk:eM es k)(h:∀t,Q (cj es k).isSome {s with toks:=t}):aY (aU prog w) A (Jg (.ref d) x) Q E s:=by
 refine fV (F.toSRel.dict h1) λds n e z nd hd=>?_;delta Jg;try with_reducible refine dU ?_
 refine wb (xD (jL e) RG.lookup ?_);refine cD (wpAny_callSpecialUnlessNone?_slot (name:=qa "__contains__") (jL e) RG (jj RG (jL e) entry_dict_contains ?_ (args_dict_contains _ _)));refine(?_:aY _ _ (DZ d x>>=_) _ _ s);refine wb (EE hu F h1 hk kk (λq t=>?_) λv y q u t=>?_);·have:=h t;rw[q]at this;exact wb (wpAny_pendingKey_other hd (aG (aA _ rfl (vB this))))
 ·have:=h t;rw[q]at this;exact aG (aA _ rfl (vB this))
def Vm(h1:st d=af (.dict es))(kk:eM es k)(h:Q (.bool (cj es k).isSome) st):dI prog w K (r+1) env (fJ .In) k (.ref d) loc st Q:=λA P s x y a u F rk rd=>by rw[rd];exact wb (Kr a.nY F h1 rk kk λt=>aG ⟨_,st,.bool _,F.tok t,h⟩)
def Vn(h1:st d=af (.dict es))(kk:eM es k)(h:Q (.bool (!(cj es k).isSome)) st):dI prog w K (r+1) env (fJ .NotIn) k (.ref d) loc st Q:=λA P s x y a u F rk rd=>by rw[rd];exact wb (Kr a.nY F h1 rk kk λt=>aG ⟨_,st,.bool _,F.tok t,h⟩)
def Vo(h1:st d=af (.dict es))(kk:eM es k)(hv:cj es k=af v)(h:Q v st):dI prog w K (r+1) env DX (.ref d) k loc st Q:=λA P s x y a u F rd rk=>by
 rw[rd];refine fV (F.toSRel.dict h1) λds n e z nd hd=>?_;delta DX;try with_reducible refine dU ?_
 refine wb (agQ (jL e) (by decide) ?_);refine cD (sY (name:=qa "__getitem__") (jL e) RM (jj RM (jL e) entry_dict_getitem ?_ (args_dict_getitem _ _)));refine(?_:aY _ _ (DZ d y>>=_) _ _ s);refine wb (EE a.nY F h1 rk kk (λq=>by rw[q]at hv;nomatch hv) λv' y q ry t=>?_);rw[q]at hv;obtain rfl:=bR hv;exact aG (aA _ rfl (aG ⟨_,st,ry,F.tok t,h⟩))
def Vp(a:dY A (r+1))(F:aH w P s env loc st)(h1:st d=af (.dict es))(hk:aM s.heap k x)(hv:aM s.heap v y)(kk:eM es k)(hz:es.length<=16777216)(h:∀s',aH w P s' env loc (st.put d (.dict (dt es k v)))->Q () s'):aY (aU prog w) A (SI (.ref d) x y) Q E s:=by
 refine fV (F.toSRel.dict h1) λds n e z nd hd=>?_;delta SI;try with_reducible refine dU ?_
 refine wb (agQ (jL e) (by decide) ?_);refine wb (sY (name:=qa "__setitem__") (jL e) agU (jj agU (jL e) entry_dict_setitem ?_ (args_dict_setitem _ _ _)));refine wb (Dv (jL e) ?_);refine(?_:aY _ _ (DY d x y>>=_) _ _ s);exact wb (Bd a.nY F h1 hk hv kk hz λs' F' u=>aG (aA .none rfl (aG (h s' F'))))
def Meth.dict{id:nN}(h:st d=af (.dict es))(slot:vP "dict" name id)(nU:kH (.builtin id)=pure (.type "method_descriptor")):Meth prog w K r env name (.ref d) loc st (.builtin id):=by refine⟨.builtin,λA P s x pl R u u F ru hR=>?_⟩;subst ru;refine ba (F.toSRel.dict h) λds n e u u=>?_;exact RN (jL e) PySem.F.plainAttrs_dict slot nU (λb hb=>by rw[←IE hb];exact(aA _ e rfl)) hR
def Vq(h1:st d=af (.dict es))(kk:eM es k)(h:Q ((cj es k).getD u) st):OV prog w K (r+1) env (λxs=>dR (.builtin "dict.get") xs) [.ref d,k,u] loc st Q:=λA P s xs a _ F rx=>by
 obtain⟨_,_,rfl,rd,rx⟩:=rx;obtain⟨_,_,rfl,rk,rx⟩:=rx;obtain⟨_,_,rfl,ru,rx⟩:=rx;rw[rd];subst rx;rename_i x y;refine fV (F.toSRel.dict h1) λds n e z nd hd=>?_;refine jj pV (jL e) PySem.F.entry_dict_get ?_ (PySem.F.args_dict_get_3 _ _ _);refine(?_:aY _ _ (DZ d x>>=_) _ _ s);refine wb (EE a.nY F h1 rk kk (λq t=>?_) λv' y q ry t=>?_);·rw[q]at h;exact wb (wpAny_missed_other hd (aG ⟨_,rfl,_,st,ru,F.tok t,h⟩))
 ·rw[q]at h;exact aG ⟨_,rfl,_,st,ry,F.tok t,h⟩
def Vr(h1:st d=af (.dict es))(kk:eM es k)(hz:es.length<=16777216)(h:match cj es k with|af v=>Q v st|ah=>Q u (st.put d (.dict (es++[(k,u)])))):OV prog w K (r+1) env (λxs=>dR (.builtin "dict.setdefault") xs) [.ref d,k,u] loc st Q:=λA P s xs a _ F rx=>by
 obtain⟨_,_,rfl,rd,rx⟩:=rx;obtain⟨_,_,rfl,rk,rx⟩:=rx;obtain⟨_,_,rfl,ru,rx⟩:=rx;rw[rd];subst rx;rename_i x y;refine fV (F.toSRel.dict h1) λds n e z nd hd=>?_;refine jj zW (jL e) PySem.F.entry_dict_setdefault ?_ (PySem.F.args_dict_setdefault_3 _ _ _);refine wb ?_;refine wb (Dv (jL e) ?_);refine aG ?_;refine(?_:aY _ _ (if(d==DQ)=ai then _ else(R5 d x y>>=_)) _ _ s);rw[aX (by exact hd▸fH)];refine wb (Vk a.nY F h1 rk ru kk hz (λv y q ry t=>?_) λq s' F' tk=>?_);·rw[q]at h;exact aG ⟨_,rfl,_,st,ry,F.tok t,h⟩
 ·rw[q]at h;exact aG ⟨_,rfl,_,_,ru.keep tk,F',h⟩
def Vs(h1:st d=af (.dict es))(kk:eM es (.int i))(hz:es.length<=16777216)(hv:cj es (.int i)=af v)(h:Q v (st.put d (.dict (rT es (.int i))))):OV prog w K (r+1) env (λxs=>dR (.builtin "dict.pop") xs) [.ref d,.int i] loc st Q:=λA P s xs a u F rx=>by obtain⟨_,_,rfl,rd,rx⟩:=rx;obtain⟨_,_,rfl,rk,rx⟩:=rx;rw[rd];rw[rx];have Vt:=rk;obtain⟨_,rfl⟩:=rk;refine fV (F.toSRel.dict h1) λds n e z nd hd=>?_;refine jj afM (jL e) PySem.F.entry_dict_pop ?_ (PySem.F.args_dict_pop_2 _ _);refine cD ?_;refine wb (Dv (jL e) ?_);refine aG ?_;dsimp only[keyPart,xR];refine cD (aG ?_);refine wb (Vl a.nY F h1 Vt kk hz hv λe s' re F' tk=>?_);exact wb (Sm (aG ⟨_,rfl,_,_,re,F',h⟩))
end
end
section
variable [dq:Hid]
def ir(fp:ag aa)(s s':aK):Prop:=∃h' t,s'={s with heap:=h',toks:=t}/\∀b o,b∉fp->s.heap.get? b=af o->h'.get? b=af o
def Off(P:bE)(env:bI)(st:aE)(b:aa):Prop:=P.h.get? b=ah/\st b=ah/\b≠env.locals/\∀x,(x,b)∉env.cells
section
variable{prog:cx}{w:aZ}{K:cJ}{r:aa}{env:bI}{loc:Loc}{st:aE}{A:cQ}{P:bE}{s:aK}
def aH.EG(F:aH w P s env loc st)(h:ir fp s s')(off:∀b∈fp,Off P env st b)(nt:∀b∈fp,∃o,s.heap.get? b=af o/\(o.cls≠.type "tuple"\/∀i n,o.data≠.seq i n)):aH w P s' env loc st/\cK s.heap s'.heap:=by refine eR h λh' t aC k=>?_;rw[aC];have tk:cK s.heap h':=λb o i n e c d=>k b o (λq=>by refine aq (nt b q) λo' e' c'=>?_;rw[e]at e';obtain rfl:=bR e';exact c'.elim (λx=>x c) λx=>x _ _ d) e;have kc:∀{x c v},(x,c)∈env.cells->s.heap.IsCell c v->h'.IsCell c v:=λ{x c v}hc zf=>aq zf λo h1 h2=>(aA o (k _ _ ((λhc q=>(off _ q).2.2.2 _ hc) hc) h1) h2);refine⟨?_,tk⟩;exact{F with keep:=λb o e=>k _ _ ((λe q=>by rw[(off _ q).1]at e;nomatch e) e) (F.keep b o e),obj:=λb x e=>by refine aq (F.obj b x e) λro u v=>?_;exact(aA ro (k _ _ ((λe q=>by rw[(off _ q).2.1]at e;nomatch e) e) u) (v.keep tk)),ns:=by refine aq F.ns λm bQ y=>?_;refine gN bQ λo es ep h1 h2=>?_;exact(aA m ⟨o,es,ep,k _ _ (λq=>(off _ q).2.2.1 rfl) h1,h2⟩ (λn v p q=>let⟨z,u,t⟩:=y n v p q;(aA z u (t.keep tk)))),cells:=λx v p q=>let⟨c,y,u,t,z⟩:=F.cells x v p q;(bZ c y u (kc (mem_of_lookup u) t) (z.keep tk)),cell:=λx c hc=>let⟨v,hv⟩:=F.cell x c hc;(gE v (kc hc hv))}
def aH.nZ(F:aH w P s env loc st)(h:ir fp s s')(off:∀b∈fp,Off P env st b)(nt:∀b∈fp,∃o,s.heap.get? b=af o/\o.cls≠.type "tuple"):aH w P s' env loc st/\cK s.heap s'.heap:=F.EG h off λb hb=>let⟨o,e,c⟩:=nt b hb;(aA o e (.inl c))
def rX{b:aa}(e:s.heap.get? b=af o)(off:Off P env st b)(F':aH w (bE.all env st s) s' env cu ak):Off P env ak b/\s'.heap.get? b=af o:=by have h:(bE.all env st s).h.get? b=af o:=eD.mpr ⟨mZ off.2.1 off.2.2.1 off.2.2.2,e⟩;refine⟨(cM off.1 ?_ off.2.2),F'.keep _ _ h⟩;cases q:ak b with|none=>rfl|some m=>have:=F'.apart b m q;rw[h]at this;contradiction
def aH.EH(F:aH w P s env loc st):Off P env st s.heap.objs.size:=let⟨a,b,c,d,_⟩:=F.beyond (bq _);(ip b a c d)
structure kT(prog:cx)(w:aZ)(it:aa)(fp:ag aa)(vs:ag V)(D:aE->Prop)(T:aT->Prop)(St:aa->cL->Prop):Prop where
 frame:∀i h h',St i h->(∀b∈fp,∀o,h.get? b=af o->h'.get? b=af o)->cK h h'->St i h'
 live:∀i h,St i h->∀b∈fp,∃o,h.get? b=af o/\o.cls≠.type "tuple"
 item:∀{A:cQ}{P:bE}{s:aK}{env:bI}{loc:Loc}{st:aE}{i:aa}{v:V}{Q:d6 aF->aK->Prop}{E:aF->aK->Prop},A.handled=ah->aH w P s env loc st->D st->St i s.heap->vs[i]?=af v->(∀x s',aM s'.heap v x->ir fp s s'->(∀gR(Q':kK->aK->Prop),T gR->(∀nO,aM nO.heap v x->ir fp s nO->St (i+1) nO.heap->Q' () nO)->aY (aU prog w) A (Ao gR (.ref it) x) Q' E s')->Q (af x) s')->aY (aU prog w) A (qe (.ref it)) Q E s
 done:∀{A:cQ}{P:bE}{s:aK}{env:bI}{loc:Loc}{st:aE}{Q:d6 aF->aK->Prop}{E:aF->aK->Prop},A.handled=ah->aH w P s env loc st->D st->St vs.length s.heap->(∀s',ir fp s s'->Q ah s')->aY (aU prog w) A (qe (.ref it)) Q E s
 self:∀{A:cQ}{s:aK}{i:aa}{Q:aF->aK->Prop}{E:aF->aK->Prop},St i s.heap->Q (.ref it) s->aY (aU prog w) A (rE (.ref it)) Q E s
inductive Ks(prog:cx)(w:aZ)(P:bE)(env:bI)(loc:Loc)(Q:ag V->(aE->Prop)->(aT->Prop)->aE->Prop)(x:aF)(s:aK):Prop|mk(it:aa)(fp:ag aa)(vs:ag V)(D:aE->Prop)(T:aT->Prop)(St:aa->cL->Prop)(st:aE):x=.ref it->kT prog w it fp vs D T St->St 0 s.heap->aH w P s env loc st->(∀b∈fp,Off P env st b)->Q vs D T st->Ks prog w P env loc Q x s
inductive Kt(w:aZ)(P:bE)(env:bI)(vs:ag V)(bJ:ag V->Loc->aE->Prop)(St:aa->cL->Prop)(fp:ag aa)(n:aa)(s:aK):Prop|mk(i:aa)(loc:Loc)(st:aE):n=vs.length-i->i<=vs.length->bJ (vs.drop i) loc st->aH w P s env loc st->St i s.heap->(∀b∈fp,Off P env st b)->Kt w P env vs bJ St fp n s
def WI(prog:cx)(w:aZ)(K:cJ)(r:aa)(env:bI)(e:aT)(loc:Loc)(st:aE)(Q:ag V->(aE->Prop)->(aT->Prop)->aE->Prop):Prop:=∀A P s,dY A r->Gd K P.h->aH w P s env loc st->aY (aU prog w) A (bc e env) (λx s₁=>aY (aU prog w) A (rE x) (Ks prog w P env loc Q) (λu u=>dv) s₁) (λu u=>dv) s
def WA(prog:cx)(w:aZ)(K:cJ)(r:aa)(env:bI)(t:aT)(v:V)(loc:Loc)(st:aE)(N:Loc->aE->Prop):Prop:=∀A P s x,dY A r->Gd K P.h->aH w P s env loc st->aM s.heap v x->aY (aU prog w) A (vO t env x) (TR w P env N) (λu u=>dv) s
def Ku(h:N (loc.up x v) st)(hk:aB ((env.kindOf x==af .local||env.kindOf x==af .cell)=ai) tT):WA prog w K r env (.Name x pos) v loc st N:=λA P s y u u F rv=>Ep F rv (by simpa using hk) λs' F'=>⟨_,_,F',h⟩
noncomputable def namesOf(env:bI):ag aT->d6 (ag aI)|[]=>af []|.Name x _::ts=>if(env.kindOf x==af .local||env.kindOf x==af .cell)then(namesOf env ts).map (x::·)else ah|_=>ah
def Loc.ups:Loc->ag aI->ag V->Loc|l,x::xs,v::vs=>(l.up x v).ups xs vs|l,_,_=>l
def EI(h:namesOf env (t::ts)=af ns):∃x pos xs,t=.Name x pos/\ns=x::xs/\namesOf env ts=af xs/\(env.kindOf x=af .local\/env.kindOf x=af .cell):=by
 induction t using ag1 with
  |Name x pos=>
   have h:(if(env.kindOf x==af .local||env.kindOf x==af .cell)=ai then(namesOf env ts).map (x::·)else ah)=af ns:=h;by_cases k:(env.kindOf x==af .local||env.kindOf x==af .cell)=ai;·rw[a0 k]at h;refine aq (lR.mp h) λxs e1 e2=>?_;exact(mX x pos xs rfl e2.symm e1 ((Ie.mp k).imp eq_of_beq eq_of_beq))
   ·rw[aX k]at h;nomatch h|_=>contradiction
def Kv:∀{ts:ag aT}{ns:ag aI},namesOf env ts=af ns->(Ja ts env).length=ts.length/\(Ja ts env).findIdx? (·.1)=ah/\ns.length=ts.length:=by intro ts;induction ts with|nil=>intro ns h;rw[←bR h];exact(cM rfl rfl rfl)|cons t ts ih=>intro ns h;refine eS (EI h) λx pos xs bT iF q u=>?_;rw[bT];rw[iF];refine gf (ih q) λh1 h2 h3=>?_;refine(cM (aO (·+1) h1) ?_ (aO (·+1) h3));rw[xw,h2];rfl
def Kw:∀{ts:ag aT}{ns:ag aI}{vs:ag V}{xs:ag aF}{loc:Loc}{s:aK}{Q:kK->aK->Prop},namesOf env ts=af ns->ts.length=vs.length->aH w P s env loc st->bB s.heap vs xs->(∀s',aH w P s' env (loc.ups ns vs) st->Q () s')->aY (aU prog w) A (ahu ((Ja ts env).map (·.2)) xs) Q (λu u=>dv) s:=by intro ts;induction ts with|nil=>intro ns vs xs loc s Q h hl F rv hQ;obtain rfl:=bR h;exact ag3 (hQ s F)|cons t ts ih=>intro ns vs xs loc s Q h hl F rv hQ;refine eS (EI h) λx pos ys bT iF q hk=>?_;rw[bT];clear h;subst iF;induction vs using b7 with|nil=>contradiction|cons v vs=>refine ba rv λy zs aC r1 r2=>?_;rw[aC];refine agO (ts:=(Ja ts env).map (·.2)) (cC (Ep (pos:=pos) (P:=bE.all env st s) (Q:=λu s'=>aH w (bE.all env st s) s' env (loc.up x v) st) F.all r1 hk λs' F'=>F') (λu s' F'=>?_) λu u x=>x);exact ih q (iC hl) (F.back F') (r2.keep (F.ly F')) hQ
def Be{ts:ag aT}{x1}{pos:qg}{ns:ag aI}{vs:ag V}{N:Loc->aE->Prop}(hl:ts.length=vs.length)(h:N (loc.ups ns vs) st)(hn:aB (namesOf env ts=af ns) tR):WA prog w K r env (.Tuple ts x1 pos) (.tup vs) loc st N:=λA P s y a u F rv=>by refine eS rv λu u u bT e z hx=>?_;rw[bT];refine gf (Kv hn) λh1 h2 h3=>?_;have hz:=z.length;dsimp only[fh]at hz;refine assign_Tuple_tuple a.handled (fB e) (by rw[h1,hl,hz]) h2 λh' he=>?_;have kk:=λb o q=>he b o (cV (dW q)) q;refine Kw hn hl (F.grow kk) (z.keep λb o u u q u u=>kk b o q) λs' F'=>⟨_,_,F',h⟩
def Kx{target iter:aT}(h:WI prog w K r env iter loc st λvs D T aQ=>T target/\∃bJ:ag V->Loc->aE->Prop,bJ vs loc aQ/\(∀v rest cu ak,bJ (v::rest) cu ak->D ak/\WA prog w K r env target v cu ak λt8 bP=>WF prog w K r env (mV body env) t8 bP (bJ rest) R)/\∀cu ak,bJ [] cu ak->D ak/\N cu ak)(hs:aB (∀x,ji iter env x=pure x) tI):WF prog w K r env (j3 (.For target iter body [] pos) env) loc st N R:=λA P s a g F=>by
 refine wpAny_For (cC (h A P s a g F) (λx s1 z=>cC z (λit s2 z=>?_) λy y x=>x.elim) λy y x=>x.elim) hs;obtain⟨it,fp,vs,D,T,St,aQ,rfl,I,z0,F1,off,hT,bJ,i0,jI,fin⟩:=z;refine agG (Kt w P env vs bJ St fp) (λn s' g=>?_) vs.length ⟨0,loc,aQ,rfl,cF _,i0,F1,z0,off⟩;obtain⟨i,cu,ak,rfl,hi,hI,F',vX,ke⟩:=g;rcases Ay i vs.length with lt|ge;·have ed:=Dq lt;rw[ed]at hI;obtain⟨hD,wa⟩:=jI _ _ _ _ hI;refine I.item a.handled F' hD vX (gy lt) λx s3 rx k3 go=>go target _ hT λs4 EJ k4 Bf=>?_;refine bx (F'.nZ k4 ke (I.live _ _ vX)) λF4 EK=>?_;refine cC (wa A (bE.all env ak s4) s4 x a (g.keeps λb o e=>F4.sub b o e) F4.all EJ) (λy s5 z=>?_) λy y x=>x.elim;obtain⟨Vu,nQ,F5,wf⟩:=z;have mf:=F4.back F5;have Ky:=λb hb=>(rX ((I.live _ _ Bf) b hb).choose_spec.1 (ke b hb) F5).1;have ya:=I.frame _ _ _ Bf (λb hb o e=>(rX e (ke b hb) F5).2) (F4.ly F5);refine cC (wf A (bE.all env nQ s5) s5 a (g.keeps λb o e=>mf.sub b o e) mf.all) (λf s6 z=>?_) λy y x=>x.elim;induction f with|next=>obtain⟨Vv,n6,F6,inv⟩:=z;exact⟨vs.length-(i+1),Rm lt (f9 i),i+1,Vv,n6,rfl,lt,inv,mf.back F6,I.frame _ _ _ ya (λb hb o e=>(rX e (Ky b hb) F6).2) (mf.ly F6),λb hb=>(rX ((I.live _ _ ya) b hb).choose_spec.1 (Ky b hb) F6).1⟩|ret v=>obtain⟨u,n6,ru,S6,hr⟩:=z;exact⟨u,n6,ru,mf.TM S6,hr⟩|brk=>exact z.elim|cont=>exact z.elim
 ·obtain rfl:i=vs.length:=s7 hi ge;rw[RF]at hI;obtain⟨hD,hN⟩:=fin _ _ hI;exact I.done a.handled F' hD vX λs3 k3=>IH ⟨cu,ak,(F'.nZ k3 ke (I.live _ _ vX)).1,hN⟩
end
end
section
variable [dq:Hid]
noncomputable def t9(a b:bp):ag V:=(bS (b-a).toNat).map λ(i:aa)=>V.int (a+i)
noncomputable def EL(x:aI):ag V:=x.cps.toList.map λc=>V.str ⟨#[c]⟩
inductive ua(st:aE):V->ag V->(aE->Prop)->Prop|list{a vs}:st a=af (.list vs)->vs.length<=16777216->ua st (.ref a) vs (λak=>ak a=af (.list vs))|tup{vs}:ua st (.tup vs) vs (λu=>iD)|range{a lo hi}:st a=af (.range lo hi)->0<=lo->lo<1000000000->hi<1000000000->0<=hi->ua st (.ref a) (t9 lo hi) (λu=>iD)|str{x}:x.cps.all (·<128)=ai->ua st (.str x) (EL x) (λu=>iD)
section
variable{prog:cx}{w:aZ}{K:cJ}{r:aa}{env:bI}{loc:Loc}{st:aE}{A:cQ}{P:bE}{s:aK}
noncomputable def Kz (it v : aF) : fU kK := do
  let (.ref r, .ref a) := (it, v) | return
  let o ← load r
  match o.cls, o.data with
  | .type n, .fields vs =>
    if ["enumerate", "zip", "dict_itemiterator", "dict_reverseitemiterator", "odict_iterator", "itertools.zip_longest", "itertools.pairwise"].contains n && vs[0]? == af (fy a) then
      rule "for.unpacks-the-owned-tuple"
      updateField r 0 .none
  | _, _ => pure ()
def lA(t:aT):Prop:=(∃x p,t=.Name x p)\/∃es k p,t=.Tuple es k p
def KA{it:aa}(ok:lA gR)(h:aY (aU prog w) A (Kz (.ref it) x) Q E s)(h2:Q () s):aY (aU prog w) A (Ao gR (.ref it) x) Q E s:=by
 rcases ok with⟨_,_,rfl⟩|⟨_,_,_,rfl⟩;·exact aG h2
 ·exact h
def Vw{it:aa}(ok:lA gR)(hx:(∃i t,x=.int i t)\/∃i t,x=.str i t)(h:Q () s):aY (aU prog w) A (Ao gR (.ref it) x) Q E s:=by refine KA ok ?_ h;rcases hx with⟨_,_,rfl⟩|⟨_,_,rfl⟩<;>exact aG h
def KC{it:aa}(ok:lA gR)(e:s.heap.get? it=af o)(rx:aM s.heap v x)(hc:o.cls=.type n)(hd:o.data=.fields vs)(hn:["enumerate","zip","dict_itemiterator","dict_reverseitemiterator","odict_iterator","itertools.zip_longest","itertools.pairwise"].contains n=aD)(h:Q () s):aY (aU prog w) A (Ao gR (.ref it) x) Q E s:=by
 refine KA ok ?_ h;have key:∀a,aY (aU prog w) A (Kz (.ref it) (.ref a)) Q E s:=λa=>by refine cD (m:=load it) (wpAny_load e ?_);rw[hc,hd];refine(?_:aY _ _ (if(_&&_)=ai then _ else _) _ _ _);exact hn▸(aG h)
 induction v using V.casesOn with|int i=>obtain⟨_,rfl⟩:=rx;exact aG h|str i=>obtain⟨_,rfl⟩:=rx;exact aG h|tup vs=>refine gN rx λa u u bT u=>?_;rw[bT];exact key a|ref a=>rw[rx];exact key a|none=>rw[rx];exact aG h|bool b=>rw[rx];exact aG h
def ir.eI{it:aa}(hs:∀b o,b≠it->s.heap.get? b=af o->h'.get? b=af o):ir [it] s {s with heap:=h',toks:=t}:=(eK h' t rfl (λb o n e=>hs b o (λq=>n (by simp[q])) e))
def cK.eI{it:aa}(e:h.get? it=af o)(nt:o.cls≠.type "tuple")(hs:∀b o,b≠it->h.get? b=af o->h'.get? b=af o):cK h h':=λb o' i n e' c u=>hs b o' (λq=>by rw[q,e]at e';obtain rfl:=bR e';exact nt c) e'
def kT.list{it a:aa}{vs:ag V}(ff:a≠it)(hz:vs.length<=16777216):kT prog w it [it] vs (λst=>st a=af (.list vs)) lA (λi h=>h.IsListIter it a i)where
 frame:=λi h h' zf k u=>aq zf λo e c=>⟨o,k it (by simp) o e,c⟩
 live:=λi h⟨o,e,c,_⟩b hb=>by
  clear ff;obtain rfl:b=it:=by simpa using hb
  exact(aA o e (by rw[c];decide))
 item:=λ{A P s env loc st i v Q E}hh F hD hit hv hQ=>by
  refine ba (F.toSRel.list hD) λitems n e z hl=>?_;refine aq (z.get_some hv) λx hx rx=>?_;refine bL (id hit) λo eo co u=>?_;have nt:o.cls≠.type "tuple":=by rw[co];decide
  refine Rj hit (fO e) (x:=x) (by exact jW▸hx) λh' lB hV=>?_;have k:=hV.extBut;refine bL (id lB) λo' EM EN EO=>?_;refine hQ x _ (rx.keep (cK.eI eo nt k)) (ir.eI (t:=s.toks) k) λgR Q' ok h2=>?_;exact KC (s:={s with heap:=h'}) ok EM (rx.keep (cK.eI eo nt k)) EN EO (by decide) (h2 _ (rx.keep (cK.eI eo nt k)) (ir.eI (t:=s.toks) k) lB)
 done:=λ{A P s env loc st Q E}hh F hD hit hQ=>by refine ba (F.toSRel.list hD) λitems n e z hl=>?_;exact Rk hh hit (fO e) (by rw[z6];exact e9 hl) λh' he=>hQ _ (ir.eI (t:=s.toks) λb o q e=>he b o q e)
 self:=λ{A s i Q E}hit hQ=>wpAny_pyIter_listiter hit hQ
def kT.tup{it a:aa}{vs:ag V}{items:b9 aF}{n:aa}(ff:a≠it):kT prog w it [it] vs (λu=>iD) lA (λi h=>nI h it a i/\h.get? a=af (gO items n)/\bB h vs items.toList)where
 frame:=λi h h'⟨⟨o,e,c⟩,e2,z⟩k tk=>⟨⟨o,k it (by simp) o e,c⟩,tk _ _ _ _ e2 rfl rfl,z.keep tk⟩
 live:=λi h⟨⟨o,e,c,_⟩,_⟩b hb=>by
  clear ff;obtain rfl:b=it:=by simpa using hb
  exact(aA o e (by rw[c];decide))
 item:=λ{A P s env loc st i v Q E}hh F hD hit hv hQ=>by refine gf hit λhit e z=>?_;refine aq (z.get_some hv) λx hx rx=>?_;refine bL (id hit) λo eo co u=>?_;refine ahi hit (fB e) (x:=x) (by exact jW▸hx) λh' lB hV=>?_;have k:=hV.extBut;have tk:=cK.eI eo (by rw[co];decide) k;refine bL (id lB) λo' EM EN EO=>?_;refine hQ x _ (rx.keep tk) (ir.eI (t:=s.toks) k) λgR Q' ok h2=>?_;exact KC (s:={s with heap:=h'}) ok EM (rx.keep tk) EN EO (by decide) (h2 _ (rx.keep tk) (ir.eI (t:=s.toks) k) ⟨lB,tk _ _ _ _ e rfl rfl,z.keep tk⟩)
 done:=λ{A P s env loc st Q E}hh F hD hit hQ=>by refine gf hit λhit e z=>?_;have hl:=z.length;exact ahp hh hit (fB e) (by rw[z6];exact e9 hl) λh' he=>hQ _ (ir.eI (t:=s.toks) λb o q e=>he b o q e)
 self:=λ{A s i Q E}hit hQ=>wpAny_pyIter_tupleiter (i:=i) (t:=a) hit.1 hQ
def kT.walks{it:aa}{vs:ag V}{n:aa}{Pv:aa->aF->Prop}{St:aa->cL->Prop}(W:∀A:cQ,A.handled=ah->Walks prog w A it [it] [it] n Pv St)(W0:∀{A:cQ}{s:aK}{i:aa}{Q:aF->aK->Prop}{E:aF->aK->Prop},St i s.heap->Q (.ref it) s->aY (aU prog w) A (rE (.ref it)) Q E s)(hn:vs.length=n)(hp:∀i x h v,vs[i]?=af v->Pv i x->aM h v x/\((∃i t,x=.int i t)\/∃i t,x=.str i t))(live:∀i h,St i h->∃o,h.get? it=af o/\o.cls≠.type "tuple")(frame:∀i h h',St i h->(∀o,h.get? it=af o->h'.get? it=af o)->St i h'):kT prog w it [it] vs (λu=>iD) lA St where
 frame:=λi h h' st k u=>frame i h h' st (k it (by simp))
 live:=λi h st b hb=>by
  clear frame;obtain rfl:b=it:=by simpa using hb
  exact live i h st
 item:=λ{A P s env loc st i v Q E}hh F u gQ hv hQ=>by refine(W A hh).item i s Q _ (by exact hn▸((iQ.mp hv).1)) gQ λx h' tk hx Vx k=>?_;refine bx (hp i x h' v hv hx) λrx nx=>?_;have k':=λb o q e=>k b o (by simpa using q) e;exact hQ x _ rx (ir.eI k') λgR Q' ok h2=>Vw ok nx (h2 _ rx (ir.eI k') Vx)
 done:=λ{A P s env loc st Q E}hh F u gQ hQ=>by rw[hn]at gQ;exact(W A hh).done s Q _ gQ λh' tk k=>hQ _ (ir.eI λb o q e=>k b o (by simpa using q) e)
 self:=W0
def ER{iter:aT}(h:WE prog w K r env (bc iter env) loc st λu aQ=>∃vs D,ua aQ u vs D/\Q vs D lA aQ):WI prog w K r env iter loc st Q:=λA P s a g F=>by
 refine cC (h A P s a g F) (λx s1 z=>?_) λy y x=>x.elim;obtain⟨u,aQ,ru,F1,vs,D,hI,z⟩:=z;have ke:∀b∈[s1.heap.objs.size],Off P env aQ b:=λb hb=>by
  obtain rfl:b=s1.heap.objs.size:=by simpa using hb
  exact F1.EH
 have kk:∀o b x,s1.heap.get? b=af x->(s1.heap.push o).get? b=af x:=λo b x e=>cB _ e;cases hI with
  |@list a vs h1 hz=>rw[ru];refine ba (F1.toSRel.list h1) λitems n e z1 hl=>?_;refine RL (fO e) ?_;exact⟨_,[s1.heap.objs.size],vs,_,_,_,aQ,rfl,kT.list (a:=a) (cV (dW e)) hz,(bH _ (eG _ rfl) rfl rfl),F1.grow (kk _),ke,z⟩|tup=>refine eS ru λy y y bT e z1 hx=>?_;rw[bT];refine iter_tuple (fB e) ?_;exact⟨_,[s1.heap.objs.size],vs,_,_,_,aQ,rfl,kT.tup (cV (dW e)),⟨(bH _ (eG _ rfl) rfl rfl),cB _ e,z1.keep λb o i n e y y=>cB _ e⟩,F1.grow (kk _),ke,z⟩|@range a lo hi h1 l0 l1 l2 l3=>
   rw[ru];refine aq (F1.obj a _ h1) λro e bg=>xS bg λt u v qp=>?_;clear bg;subst qp;have hsz:ah0 lo hi 1=(hi-lo).toNat:=by show(if(1:bp)>0 then if lo<hi then _ else _ else _)=_;rw[a0 (by decide)];split<;>lia
   refine wpAny_pyIter_range (a:=lo) (b:=hi) (c:=1) e ?_ ?_;·delta ahZ;rw[hsz];simp only[ah1,xy,DF,AH,show(1:bp)>0 by decide,xR];refine⟨⟨⟨⟨?_,?_⟩,?_⟩,?_⟩,.inr ?_⟩<;>lia
   refine⟨_,[s1.heap.objs.size],t9 lo hi,_,_,_,aQ,rfl,kT.walks (λA hh=>Walks.range hh _ lo 1 (hi-lo).toNat) (λ{A s i Q E}gQ hQ=>wpAny_pyIter_rangeiter gQ hQ) (by simp[t9]) ?_ (λi h st=>(aA _ st (show cS "range_iterator"≠_ by decide))) (λi h h' st k=>k _ st),?_,F1.grow (kk _),ke,z⟩;·intro i x h v hv g;obtain⟨t,rfl⟩:=g;have hv:((bS (hi-lo).toNat).map λ(i:aa)=>V.int (lo+i))[i]?=af v:=hv;rw[jh]at hv;refine aq (lR.mp hv) λj q aC=>?_;rw[←aC];refine dh (iQ.mp q) λq1 q2=>?_;rw[Rq]at q2;rw[←q2];rw[Int.mul_one];exact⟨.int _ _,.inl (d8 _ _ rfl)⟩
   ·rw[hsz];rw[Int.zero_mul,Int.add_zero,show((0:aa):bp)=0 from rfl];exact eG _ rfl|@str x ha=>obtain⟨tk,rfl⟩:=ru;refine wpAny_pyIter_ascii ha ?_;refine⟨_,[s1.heap.objs.size],EL x,_,_,_,aQ,rfl,kT.walks (λA hh=>Walks.strAscii hh _ x tk) (λ{A s i Q E}gQ hQ=>wpAny_pyIter_striter_ascii gQ hQ) ((aN ..).trans (fh)) (λi x' h v hv g=>?_) (λi h zf=>bL zf λo e c y=>(aA o e (by rw[c];decide))) (λi h h' zf k=>aq zf λo e c=>⟨o,k o e,c⟩),(bH _ (eG _ rfl) rfl rfl),F1.grow (kk _),ke,z⟩;refine eR g λc u hc bT=>?_;rw[bT];have hv:(x.cps.toList.map λc=>V.str ⟨#[c]⟩)[i]?=af v:=hv;simp only[jh,jW,hc]at hv;rw[←bR hv];exact⟨.str _ _,.inr (d8 _ _ rfl)⟩
end
end
section
variable [dq:Hid]
def Loc.gR(l:Loc)(env:bI):aT->V->d6 Loc|.Name x _,v=>if env.kindOf x==af .local then af (l.up x v)else ah|.Tuple ts _ _,.tup vs=>if ts.length=vs.length/\((namesOf env ts).getD []).all (λx=>env.kindOf x==af .local)=ai then(namesOf env ts).map λns=>l.ups ns vs else ah|_,_=>ah
def Loc.le(l l':Loc):Prop:=∀x v,l x=af v->l' x=af v
def KD:∀(ns:ag aI)(vs:ag V)(l:Loc)(x:aI),x∉ns->(l.ups ns vs) x=l x:=by intro ns;induction ns with|nil=>intro vs l x _;induction vs<;>rfl|cons n ns ih=>intro vs l x h;induction vs with|nil=>rfl|cons v vs=>exact(ih vs (l.up n v) x λq=>h (bK _ q)).trans (aX λe:x=n=>h (e▸aR))
section
variable{prog:cx}{w:aZ}{K:cJ}{r:aa}{env:bI}{loc:Loc}{st:aE}{A:cQ}{P:bE}{s:aK}
def aH.less(F:aH w P s env loc st)(h:l.le loc):aH w P s env l st:={F with ns:=let⟨m,a,b⟩:=F.ns;(aA m a (λx v e k=>b x v (h x v e) k)),cells:=λx v e k=>F.cells x v (h x v e) k}
def aH.forget(F:aH w P s env loc (st.put a o))(hn:st a=ah):aH w P s env loc st/\Off P env st a/\1<a/\∃ro,s.heap.get? a=af ro/\j6 w s.heap o ro:=by
 have sub:∀b x,st b=af x->(st.put a o) b=af x:=λb x e=>by rw[aE.gj (λq=>by rw[q,hn]at e;nomatch e)];exact e
 refine⟨{F with apart:=λb x e=>F.apart b x (sub b x e),obj:=λb x e=>F.obj b x (sub b x e),big:=λb x e=>F.big b x (sub b x e),lst:=by cases q:st env.locals with|none=>rfl|some m=>have:=F.lst;rw[sub _ _ q]at this;contradiction,cst:=λx c hc=>⟨by cases q:st c with|none=>rfl|some m=>(have:=(F.cst x c hc).1;rw[sub _ _ q]at this;contradiction),(F.cst x c hc).2⟩},(ip (F.apart a o (aE.lY ..)) hn ?_ ?_),F.big a o (aE.lY ..),F.obj a o (aE.lY ..)⟩;·clear hn sub;rintro rfl;have:=F.lst;rw[aE.lY]at this;contradiction
 ·intro x hx;have:=(F.cst x a hx).1;rw[aE.lY]at this;contradiction
structure Acc(w:aZ)(P:bE)(env:bI)(st:aE)(s:aK)(a:aa)(o:aV):Prop where
 off:Off P env st a
 big:1<a
 obj:∃ro,s.heap.get? a=af ro/\j6 w s.heap o ro
def Acc.adopt(F:aH w P s env loc st)(h:Acc w P env st s a o):aH w P s env loc (st.put a o):=let⟨_,e,z⟩:=h.obj;F.adopt h.big h.off.1 h.off.2.2.1 h.off.2.2.2 e z
def Acc.back(F:aH w P s env loc st)(h:Acc w P env st s a o)(F':aH w (bE.all env st s) s' env cu ak):Acc w P env ak s' a o:=by refine aq h.obj λro e z=>?_;refine bx (rX e h.off F') λo1 e1=>?_;exact⟨o1,h.big,ro,e1,z.keep (F.ly F')⟩
def Acc.nZ(h:Acc w P env st s a o)(k:ir fp s s')(ha:a∉fp)(tk:cK s.heap s'.heap):Acc w P env st s' a o:=by refine aq h.obj λro e z=>?_;obtain⟨h',t,rfl,k⟩:=k;exact⟨h.off,h.big,ro,k _ _ ha e,z.keep tk⟩
inductive ES(w:aZ)(P:bE)(env:bI)(l0:Loc)(a:aa)(N:aV->aE->Prop)(s:aK):Prop|mk(l:Loc)(st:aE)(o:aV):l0.le l->aH w P s env l st->Acc w P env st s a o->N o st->ES w P env l0 a N s
def After(prog:cx)(w:aZ)(K:cJ)(r:aa)(env:bI)(l0:Loc)(a:aa)(t:fU kK)(loc:Loc)(o:aV)(st:aE)(N:aV->aE->Prop):Prop:=l0.le loc->∀A P s,dY A r->Gd K P.h->aH w P s env loc st->Acc w P env st s a o->aY (aU prog w) A t (λu s'=>ES w P env l0 a N s') (λu u=>dv) s
def Bg(prog:cx)(w:aZ)(K:cJ)(r:aa)(env:bI)(ifs:ag aT)(loc:Loc)(st:aE)(Q:bw->aE->Prop):Prop:=WT prog w K r env (forIn ifs ai λc r=>if r=ai then do let ok←fe c env (bc c env);pure (Iu ok)else pure (Iu r)) loc st Q
def Vy(h:Q ai st):Bg prog w K r env [] loc st Q:=λA P s a g F=>wpAny_tests_nil ⟨st,F,h⟩
def Vz(h:WT prog w K r env (fe c env (bc c env)) loc st Q):Bg prog w K r env [c] loc st Q:=λA P s a g F=>wpAny_tests_one (h A P s a g F)
def ET{C:Prop}(h:loc.gR env t v=af l')(h1:∀x p,t=.Name x p->env.kindOf x=af .local->l'=loc.up x v->C)(h2:∀ts k p vs ns,t=.Tuple ts k p->v=.tup vs->ts.length=vs.length->namesOf env ts=af ns->(∀x∈ns,env.kindOf x=af .local)->l'=loc.ups ns vs->C):C:=by
 induction t using ag1 with
  |Name x p=>
   by_cases hk:(env.kindOf x==af .local)=ai;·exact h1 _ _ rfl (eq_of_beq hk) (bR ((a0 hk).symm.trans h)).symm
   ·have:=(aX hk).symm.trans h;contradiction|Tuple ts k p=>
   induction v using V.casesOn with
    |tup vs=>
     by_cases hk:ts.length=vs.length/\((namesOf env ts).getD []).all (λx=>env.kindOf x==af .local)=ai;·refine aq (lR.mp ((a0 hk).symm.trans h)) λns e1 e2=>?_;rw[e1]at hk;exact h2 _ _ _ _ ns rfl rfl hk.1 e1 (λx hx=>eq_of_beq (f7.mp hk.2 x hx)) e2.symm
     ·have:=(aX hk).symm.trans h;contradiction|_=>contradiction
  |_=>contradiction
def VA(h:loc.gR env t v=af l'):WA prog w K r env t v loc st (λl2 bP=>l2=l'/\bP=st):=ET h (λx p e1 e2 e3=>by exact e1▸e3▸(Ku ⟨rfl,rfl⟩ (by rw[e2];rfl))) λts k p vs ns e1 e2 e3 e4 u e5=>by exact e1▸e2▸e5▸(Be e3 ⟨rfl,rfl⟩ e4)
def VB    (h : loc.gR env t v = af l') (hl : ∀ x, env.kindOf x = af .local → loc x = ah) : loc.le l' := fun x u hx =>
  have nk : env.kindOf x ≠ af .local := fun q => by have := (hl x q).symm.trans hx; contradiction
  ET h (fun y p _ e2 e3 => e3 ▸ (aX fun e : x = y => nk (e ▸ e2)).trans hx) fun ts k p vs ns _ _ _ _ e4 e5 => e5 ▸ (KD _ _ _ _ fun q => nk (e4 x q)).trans hx
noncomputable def Bh:aT->ag aI
 |.Name x _=>[x]|.Tuple ts _ _=>ts.filterMap λ|.Name x _=>af x|_=>ah
 |_=>[]
def VC:∀{ts:ag aT}{ns:ag aI},namesOf env ts=af ns->ns=ts.filterMap λ|.Name x _=>af x|_=>ah:=by intro ts;induction ts with|nil=>intro ns h;rw[←bR h];rfl|cons t ts ih=>intro ns h;refine eS (EI h) λx pos xs bT iF q u=>?_;rw[bT];rw[iF];rw[ih q];rfl
def VD    (h : loc.gR env t v = af l') (hl : ∀ x ∈ Bh t, loc x = ah) : loc.le l' := fun x u hx =>
  have nk : x ∉ Bh t := fun q => by have := (hl x q).symm.trans hx; contradiction
  ET h (fun y p e1 _ e3 => by
    clear h hl; subst e1 e3
    exact (aX fun e : x = y => nk (e ▸ bU.mpr rfl)).trans hx) fun ts k p vs ns e1 e2 _ e4 _ e5 => by
    clear h hl e2; subst e1 e5
    exact (KD _ _ _ _ (by exact (VC e4) ▸ nk)).trans hx
def VE{l0:Loc}(z:After prog w K r env l0 ac t loc o st N)(le:l0.le loc)(a:dY A r)(g:Gd K P.h)(F:aH w P s env loc st)(c:Acc w P env st s ac o)(h:∀s' l' ak o',l0.le l'->aH w P s' env l' ak->Acc w P env ak s' ac o'->(∀b o,s.heap.get? b=af o->Off P env st b->b≠ac->Off P env ak b/\s'.heap.get? b=af o)->cK s.heap s'.heap->N o' ak->R () s'):aY (aU prog w) A t R E s:=by
 have up:∀b o,P.h.get? b=af o->(⟨ew s.heap λb=>own env st b||b==ac,s.os,s.gens⟩:bE).h.get? b=af o:=λb o e=>eD.mpr ⟨by rw[(eD.mp (F.sub b o e)).1,beq_eq_false_iff_ne.mpr λq=>by rw[q,c.off.1]at e;nomatch e];rfl,F.keep b o e⟩;have nt:∀ro,s.heap.get? ac=af ro->ro.cls≠.type "tuple":=λro e=>by refine aq c.obj λTU e' z=>?_;cases e.symm.trans e';exact z.xX
 refine cC (z le A _ s a (g.keeps up) (F.hide (λb=>own env st b||b==ac) (λb q=>by rw[q];rfl) λb o e=>(eD.mp (up b o e)).1) ⟨⟨xY (by rw[jr,Aw]),c.off.2⟩,c.big,c.obj⟩) (λu s8 y=>?_) λj j x=>x.elim;obtain⟨l8,Bi,o8,EU,F8,c8,inv⟩:=y;refine h s8 l8 Bi o8 EU (F8.weak F.toSRel up F.os F.gens) ⟨⟨tw up c8.off.1,c8.off.2⟩,c8.big,c8.obj⟩ (λb o e off ne=>?_) (λb o i n e q d=>F8.keep b o (eD.mpr ⟨by rw[F.tup e q d,beq_eq_false_iff_ne.mpr λz:b=ac=>nt o (z▸e) q];rfl,e⟩)) inv;have e7:(ew s.heap λb=>own env st b||b==ac).get? b=af o:=eD.mpr ⟨by rw[mZ off.2.1 off.2.2.1 off.2.2.2,beq_eq_false_iff_ne.mpr ne];rfl,e⟩;refine⟨(cM off.1 ?_ off.2.2),F8.keep b o e7⟩;cases q:Bi b with|none=>rfl|some m=>exact nomatch(F8.apart b m q).symm.trans e7
structure mh(prog:cx)(w:aZ)(K:cJ)(r:aa)(env:bI)(l0:Loc)(target:aT)(ifs:ag aT){β:Type}(D:aE->Prop)(bJ:ag V->β->aE->Prop)(gq:Loc->β->aE->(β->aE->Prop)->Prop)(Fin:β->aE->Prop):Prop where
 step:∀v rest y ak,bJ (v::rest) y ak->D ak/\∃l',l0.gR env target v=af l'/\Bg prog w K r env ifs l' ak λb bP=>if b then gq l' y bP (bJ rest)else bJ rest y bP
 fin:∀y ak,bJ [] y ak->D ak/\Fin y ak
def ub(prog:cx)(w:aZ)(K:cJ)(r:aa)(env:bI)(l0:Loc)(ac:aa)(t:fU kK){β:Type}(emb:β->aV)(gq:Loc->β->aE->(β->aE->Prop)->Prop):Prop:=∀l y st N,gq l y st N->After prog w K r env l0 ac t l (emb y) st λo ak=>∃y',o=emb y'/\N y' ak
inductive KG(w:aZ)(P:bE)(env:bI)(l0:Loc)(ac:aa)(vs:ag V){β:Type}(emb:β->aV)(bJ:ag V->β->aE->Prop)(St:aa->cL->Prop)(fp:ag aa)(n:aa)(s:aK):Prop|mk(i:aa)(st:aE)(y:β):n=vs.length-i->i<=vs.length->bJ (vs.drop i) y st->aH w P s env l0 st->Acc w P env st s ac (emb y)->St i s.heap->(∀b∈fp,Off P env st b)->KG w P env l0 ac vs emb bJ St fp n s
def KH{emb:β->aV}{gq:Loc->β->aE->(β->aE->Prop)->Prop}{Fin:β->aE->Prop}{d it ac:aa}{St:aa->cL->Prop}{l0 l:Loc}{y:β}(hq:(agM e d (.ref it) (.ref ac) env).quiet=ai)(vY:∀(A:cQ)(Q:ahh->aK->Prop)(E:aF->aK->Prop)(s:aK),aY (aU prog w) A ((Jh e d (.ref it) (.ref ac) env).onRaise (λx=>do noteFrame x env;ahg x)) Q E s->aY (aU prog w) (A.under (.compLoop e d (.ref it) (.ref ac) env)) ((aU prog w).den (.compLoop e d (.ref it) (.ref ac) env)) Q E s)(vZ:Jh e d (.ref it) (.ref ac) env=(do
 mU p;match←qe (.ref it)with
  |ah=>pure (.done .next)|af v=>
   Ao target (.ref it) v;vO target env v;let mut ok:=ai;for c in ifs do if ok then ok←fe c env (bc c env)
   if ok then after
   again (.compLoop e d (.ref it) (.ref ac) env)))(I:kT prog w it fp vs D T St)(hT:T target)(bJ:ag V->β->aE->Prop)(hle:∀v l',l0.gR env target v=af l'->l0.le l')(L:mh prog w K r env l0 target ifs D bJ gq Fin)(uc:ub prog w K r env l0 ac after emb gq)(hR:∀s' ak y,aH w P s' env l0 ak->Acc w P env ak s' ac (emb y)->(∀b∈fp,Off P env ak b)->Fin y ak->R (.ok .next) s')(a:dY A r)(g:Gd K P.h)(F:aH w P s env l st)(hl:l0.le l)(VF:Acc w P env st s ac (emb y))(vX:St 0 s.heap)(off:∀b∈fp,Off P env st b)(ud:ac∉fp)(i0:bJ vs y st):nK (aU prog w) A (.compLoop e d (.ref it) (.ref ac) env) R s:=by
 refine codeAny_loop hq (KG w P env l0 ac vs emb bJ St fp) (λn s' g'=>?_) vs.length ⟨0,st,y,rfl,cF _,i0,F.less hl,VF,vX,off⟩;obtain⟨i,ak,o',rfl,hi,hI,F',KJ,Bj,ke⟩:=g';refine vY _ _ _ _ (wpAny_noted ?_);rw[vZ];refine wb (lV (wb ?_));refine Or.elim (Ay i vs.length) (λlt=>?_) λge=>?_;·rw[(Dq lt)]at hI;refine bx (L.step _ _ _ _ hI) λhD bg=>aq bg λl' pj wt=>?_;refine I.item a.handled F' hD Bj (gy lt) λx s3 rx k3 go=>wb (go target _ hT λs4 EJ k4 Bf=>?_);refine bx (F'.nZ k4 ke (I.live _ _ Bj)) λF4 EK=>?_;refine wb (cC (VA (K:=K) (r:=r) pj A (bE.all env ak s4) s4 x a (g.keeps λb o e=>F4.sub b o e) F4.all EJ) (λu s5 z=>?_) λu u x=>x.elim);clear bg;obtain⟨Vu,nQ,F5,rfl,rfl⟩:=z;have mf:=F4.back F5;have KL:=(KJ.nZ k4 ud EK).back F4 F5;have ya:=I.frame _ _ _ Bf (λb hb o e=>(rX e (ke b hb) F5).2) (F4.ly F5);refine wb (cC (wt A (bE.all env nQ s5) s5 a (g.keeps λb o e=>mf.sub b o e) mf.all) (λok s6 z=>?_) λu u x=>x.elim);obtain⟨n6,F6,z⟩:=z;have rY:=λb hb=>(rX ((I.live _ _ ya) b hb).choose_spec.1 (ke b hb) F6).1;have EW:=I.frame _ _ _ ya (λb hb o e=>(rX e (ke b hb) F6).2) (mf.ly F6);induction ok with|false=>exact aG ⟨rfl,vs.length-(i+1),Rm lt (f9 i),i+1,n6,o',rfl,lt,vU z,(mf.back F6).less (hle _ _ pj),(KL.back mf F6),EW,rY⟩|true=>refine wb (m:=after) (VE (uc _ _ _ _ (vT z)) (hle _ _ pj) a g (mf.back F6) (KL.back mf F6) λs8 l8 Bi o8 EU F8 VG kp tk inv=>?_);obtain⟨y8,rfl,inv⟩:=inv;exact aG ⟨rfl,vs.length-(i+1),Rm lt (f9 i),i+1,Bi,y8,rfl,lt,inv,F8.less EU,VG,I.frame _ _ _ EW (λb hb o e=>(kp b o e (rY b hb) λq=>ud (q▸hb)).2) tk,λb hb=>(kp b _ (I.live _ _ EW b hb).choose_spec.1 (rY b hb) λq=>ud (q▸hb)).1⟩
 ·obtain rfl:i=vs.length:=s7 hi ge;rw[RF]at hI;have fi:=L.fin _ _ hI;refine I.done a.handled F' fi.1 Bj λs3 k3=>?_;refine bx (F'.nZ k3 ke (I.live _ _ Bj)) λF3 Bk=>?_;exact aG (hR s3 ak o' F3 (KJ.nZ k3 ud Bk) ke fi.2)
end
end
section
variable [dq:Hid]
noncomputable def freeOf(scope:jH):ag aI:=((scope.names.filter λx=>x.2==.free).map (·.1)).reverse
def kg(scope:jH)(env:bI):ag (aI×hJ):=(freeOf scope).map λn=>(n,(env.cells.lookup n).getD 0)
def dX(scope:jH)(C:hJ)(env:bI):bI:=compEnvC scope (kg scope env) C env
noncomputable def gS(scope:jH)(loc:Loc):Loc:=λx=>if scope.names.lookup x==af .free then loc x else ah
noncomputable def d9(scope:jH)(env:bI):bw:=scope.kind==.function&&(scope.names.all λx=>x.2 !=.cell&&(x.2 !=.free||env.kindOf x.1==af .cell))&&decide ((scope.names.map (·.1)).Nodup)
def lookup_mem{α:Type}{l:ag (aI×α)}{a:α}(h:l.lookup x=af a):(x,a)∈l:=by
 induction l with
  |nil=>simp at h|cons y l ih=>
   rw[lj]at h;split at h;·rename_i q;rw[←bR h];exact(eq_of_beq q)▸aR
   ·exact bK _ (ih h)
def KN{α:Type}{l:ag (aI×α)}{a:α}(nd:(l.map (·.1)).Nodup)(h:(x,a)∈l):l.lookup x=af a:=by
 induction l with
  |nil=>simp at h|cons y l ih=>
   rw[jk,iZ]at nd;rw[lj];rcases cg.mp h with rfl|h;·simp
   ·have:x≠y.1:=λq=>nd.1 (q▸bt.mpr (aA _ h rfl));exact((by simpa using this:(x==y.1)=aD))▸(ih nd.2 h)
def EX{f:aI->hJ}{l:ag aI}:(l.map λn=>(n,f n)).lookup x=if x∈l then af (f x)else ah:=by
 induction l with
  |nil=>rfl|cons y l ih=>
   rw[jk,lj];by_cases q:x=y;·rw[q];simp
   ·simp only[(by simpa using q:(x==y)=aD),ih,cg,q,false_or]
def KO{l:ag (aI×hJ)}(h:l.Pairwise λx y=>x.2≠y.2)(h1:(a,c)∈l)(h2:(b,c)∈l):a=b:=by
 induction l with
  |nil=>simp at h1|cons y l ih=>
   rw[xu]at h;rcases cg.mp h1 with e1|e1<;>rcases cg.mp h2 with e2|e2;·rw[←e1]at e2;clear h1;injection e2 with zc;subst zc;rfl
   ·exact bA (by rw[←e1]) (h.1 _ e2)
   ·exact bA (by rw[←e2]) (h.1 _ e1)
   ·exact ih h.2 e1 e2
section
variable{prog:cx}{w:aZ}{K:cJ}{r:aa}{env:bI}{loc:Loc}{st:aE}{A:cQ}{P:bE}{s:aK}{scope:jH}
def d9.kind(ok:d9 scope env=ai):scope.kind=.function:=by simp only[d9,xy,D0]at ok;exact ok.1.1
def d9.nodup(ok:d9 scope env=ai):(scope.names.map (·.1)).Nodup:=by simp only[d9,xy,AH]at ok;exact ok.2
def d9.KP(ok:d9 scope env=ai):∀x∈scope.names,x.2≠.cell:=by simp only[d9,xy,f7]at ok;intro x hx;simpa using(ok.1.2 x hx).1
theorem d9.free(ok:d9 scope env=ai){x:aI}(h:(x,rB)∈scope.names):env.kindOf x=af .cell:=by simp only[d9,xy,f7]at ok;simpa using(ok.1.2 _ h).2
def v5:x∈freeOf scope↔(x,rB)∈scope.names:=by
 simp only[freeOf,ags,bt,gM,D0];constructor;·rintro⟨⟨n,k⟩,⟨h1,h2⟩,rfl⟩;rw[←h2];exact h1
 ·intro h;exact(aA _ (dD h rfl) rfl)
def v7(F:aH w P s env loc st)(ok:d9 scope env=ai)(h:(x,c)∈kg scope env):(x,rB)∈scope.names/\env.cells.lookup x=af c/\(x,c)∈env.cells:=by refine aq (bt.mp h) λn hn e=>?_;clear h;obtain⟨rfl,rfl⟩:=RV e;have h1:=v5.mp hn;refine dh (mJ.mp (F.named _ (d9.free ok h1))) λc hc=>?_;exact hc▸((cM h1 rfl (mem_of_lookup hc)))
def VH(F:aH w P s env loc st)(ok:d9 scope env=ai):closureFor scope env=pure (kg scope env):=by
 delta closureFor kg freeOf;have gen:∀(l:ag (aI×xN))(cs:ag (aI×hJ)),(∀x∈l,x∈scope.names)->(forIn l cs λx cs=>do match x with|(name,kind)=>if(kind==rB)=ai then do let a←cellOf env name;pure (Iu ((name,a)::cs))else pure (Iu cs))=(pure ((((l.filter λx=>x.2==.free).map (·.1)).reverse.map λn=>(n,(env.cells.lookup n).getD 0))++cs):fU _):=by
  intro l;induction l with
   |nil=>intro cs _;rfl|cons x l ih=>
    intro cs hl;obtain⟨n,k⟩:=x;simp only[ID];by_cases hk:k=.free;·subst hk;refine dh (mJ.mp (F.named _ ((λ{x}=>@d9.free _ env scope ok x) (hl _ aR)))) λc hc=>?_;simp only[jr,xR,(by delta cellOf;rw[hc]:cellOf env n=pure c),pure_bind];simp only[ih _ λx hx=>hl x (bK _ hx)];simp[hc]
    ·have eu:(k==rB)=aD:=by simpa using hk
     simp only[ih _ λx hx=>hl x (bK _ hx)];simp[eu]
 have:=gen scope.names [] λu h=>h;simpa using this
def EY:(dX scope C env).kindOf x=(scope.names.lookup x).map λk=>if(k==.free&&env.scope.kind==.function&&env.kindOf x==af .cell)=ai then .cell else k:=by
 show Az x (scope.names.map λ(n,k)=>if(k==.free&&env.scope.kind==.function&&env.kindOf n==af .cell)then(n,Aq)else(n,k))=_;generalize scope.names=l;induction l with
  |nil=>rfl|cons y l ih=>
   obtain⟨n,k⟩:=y;by_cases q:x=n;·
    subst q;refine(?_:Az x ((if(k==rB&&env.scope.kind==.function&&env.kindOf x==af .cell)=ai then(x,Aq)else(x,k))::_)=_);have e1:∀(k:xN)(l:ag (aI×xN)),Az x ((x,k)::l)=af k:=λk l=>by simp only[lj,jr]
    rw[e1,IA];by_cases c:(k==rB&&env.scope.kind==.function&&env.kindOf x==af .cell)=ai;·rw[a0 c,a0 c,e1]
    ·rw[aX c,aX c,e1]
   ·have e0:(x==n)=aD:=by simpa using q
    have e:∀b:bw,Az x ((if b=ai then(n,Aq)else(n,k))::l.map λ(n,k)=>if(k==.free&&env.scope.kind==.function&&env.kindOf n==af .cell)then(n,Aq)else(n,k))=Az x (l.map λ(n,k)=>if(k==.free&&env.scope.kind==.function&&env.kindOf n==af .cell)then(n,Aq)else(n,k)):=by intro b;induction b<;>simp only[Bool.false_eq_true,Js,xR,lj,e0]
    refine(?_:Az x ((if(k==rB&&env.scope.kind==.function&&env.kindOf n==af .cell)=ai then(n,Aq)else(n,k))::_)=_);simp only[e,ih,lj,e0]
def KQ:∀x,(dX scope C env).kindOf x=af .local->gS scope loc x=ah:=by
 intro x h;rw[EY]at h;delta gS;split;·rename_i q;simp only[eq_of_beq q]at h;simp only[IA,Ib]at h;split at h<;>nomatch h
 ·rfl
def aH.comp{C:hJ}{m:aI->d6 aF}(F:aH w P s env loc st)(ok:d9 scope env=ai)(hm:s.heap.Ns C m)(off:Off P env st C):aH w P s (dX scope C env) (gS scope loc) st where
 toSRel:=F.toSRel
 kind:=(d9.kind (env:=env) ok:scope.kind=.function)
 glob:=F.glob
 lZ:=F.lZ
 ns:=(aA m hm (λx v e k=>by rw[KQ x k]at e;nomatch e))
 cells:=λx v e k=>by
  delta gS at e;split at e;·rename_i q;have hf:=lookup_mem (eq_of_beq q);refine ba (F.cells x v e (d9.free ok hf)) λc y h1 h2 h3=>?_;refine(bZ c y ?_ h2 h3);show(kg scope env).lookup x=af c;rw[EX,a0 (v5.mpr hf),h1];rfl
  ·nomatch e
 cell:=λx c hc=>F.cell x c (v7 F ok hc).2.2
 named:=λx hx=>by
  rw[EY]at hx;cases q:scope.names.lookup x with
   |none=>simp only[q]at hx;contradiction|some k=>
    simp only[q]at hx;simp only[IA,Ib]at hx;have hf:k=.free:=by
     by_cases e:k=.free;·exact e
     ·have:(k==rB)=aD:=by simpa using e
      rw[this]at hx;exact bA hx (d9.KP ok _ (lookup_mem q))
    cases hf;refine(?_:((kg scope env).lookup x).isSome=ai);rw[EX,a0 (v5.mpr (lookup_mem q))];rfl
 inj:=by
  show(kg scope env).Pairwise _;rw[jX];have nd:(freeOf scope).Nodup:=by rw[List.Nodup,List.pairwise_reverse];have:((scope.names.filter λx=>x.2==.free).map (·.1)).Nodup:=afO (ail _ List.filter_sublist) (d9.nodup ok);exact this.imp λh=>h.symm
  refine afo (λ{a b}ha hb ff=>?_) nd;obtain⟨c1,e1⟩:=mJ.mp (F.named _ (d9.free ok (v5.mp ha)));obtain⟨c2,e2⟩:=mJ.mp (F.named _ (d9.free ok (v5.mp hb)));rw[e1,e2];intro q;subst q;have:=F.inj;exact bA (KO this (mem_of_lookup e1) (mem_of_lookup e2)) (by simpa using ff)
 lx:=off.1
 lst:=off.2.1
 cst:=λx c hc=>F.cst x c (v7 F ok hc).2.2
def aH.VI{C:hJ}(F:aH w P s env loc st)(ok:d9 scope env=ai)(off:Off P env st C)(hP:∀b o,P.h.get? b=af o->P'.h.get? b=af o)(hS:∀b o,(b=env.locals\/∃x,(x,b)∈env.cells)->s.heap.get? b=af o->st b=ah->b≠C->(∀x,(x,b)∉kg scope env)->P'.h.get? b=af o)(ho:P'.os=P.os)(hg:P'.g=P.g)(Fi:aH w P' s' (dX scope C env) l' ak)(hl:(gS scope loc).le l')(tk:cK s.heap s'.heap):aH w P s' env loc ak:=by
 have dn:∀b,P'.h.get? b=ah->P.h.get? b=ah:=λb e=>by cases q:P.h.get? b with|none=>rfl|some x=>rw[hP b x q]at e;contradiction
 refine aq F.ns λm bQ VJ=>?_;refine fX bQ λoL rQ rR eL dL zL=>?_;have VK:∀x,(x,env.locals)∉kg scope env:=λx q=>by refine eR (F.cell x _ (v7 F ok q).2.2) λv o h1 h2=>?_;rw[eL]at h1;obtain rfl:=bR h1;rw[dL]at h2;contradiction
 have KS:=hS _ _ (.inl rfl) eL F.lst (λq=>off.2.2.1 q.symm) VK;have KU:∀{x c},(x,c)∈env.cells->(c∉(kg scope env).map (·.2))->∀v,s.heap.IsCell c v->s'.heap.IsCell c v:=λ{x c}hx hn v hv=>by refine aq hv λo h1 h2=>?_;exact(aA o ((λ{b o}y e q n c=>Fi.keep b o (hS b o (.inr y) e q n c)) ⟨x,hx⟩ h1 (F.cst x c hx).1 (λq=>by clear hv;cases q;exact off.2.2.2 x hx) (λy q=>hn (bt.mpr (aA _ q rfl)))) h2)
 exact{
  keep:=λb o e=>Fi.keep b o (hP b o e),apart:=λb o e=>dn b (Fi.apart b o e),obj:=Fi.obj,os:=Fi.os.trans ho,gens:=Fi.gens.trans hg,big:=Fi.big,wide:=F.wide,j7:=F.j7,kind:=F.kind,glob:=F.glob,lZ:=F.lZ,ns:=(aA m ⟨oL,rQ,rR,Fi.keep _ _ KS,dL,zL⟩ (λx v e k=>let⟨y,h1,h2⟩:=VJ x v e k;(aA y h1 (h2.keep tk)))),cells:=λx v e k=>by
   refine ba (F.cells x v e k) λc y h1 h2 h3=>?_;by_cases q:(x,rB)∈scope.names;·
    have q1:=KN (d9.nodup ok) q;have e1:gS scope loc x=af v:=by delta gS;rw[q1];simpa using e
    have k1:(dX scope C env).kindOf x=af .cell:=by simp only[EY,q1];simp[F.kind,k]
    refine ba (Fi.cells x v (hl x v e1) k1) λc' y' Bl EZ VL=>?_;have:c'=c:=by have E0:(kg scope env).lookup x=af c':=Bl;delta kg at E0;rw[EX,a0 (v5.mpr q),h1]at E0;simpa using E0.symm
    subst this;exact(bZ c' y' h1 EZ VL)
   ·refine(bZ c y h1 (KU (mem_of_lookup h1) (λz=>?_) _ h2) (h3.keep tk));clear e;obtain⟨⟨x',c'⟩,hm,rfl⟩:=bt.mp z;refine gf (v7 F ok hm) λf1 u f3=>?_;have:=KO F.inj f3 (mem_of_lookup h1);clear k;subst this;exact q f1,cell:=λx c hc=>by
   by_cases q:c∈(kg scope env).map (·.2);·obtain⟨⟨x',c'⟩,hm,rfl⟩:=bt.mp q;exact Fi.cell x' c' hm
   ·obtain⟨v,hv⟩:=F.cell x c hc;exact(gE v (KU hc q v hv)),named:=F.named,inj:=F.inj,lx:=F.lx,lst:=by cases q:ak env.locals with|none=>rfl|some z=>have:=Fi.apart _ _ q;rw[KS]at this;contradiction,cst:=λx c hc=>⟨by
   by_cases q:c∈(kg scope env).map (·.2);·obtain⟨⟨x',c'⟩,hm,rfl⟩:=bt.mp q;exact(Fi.cst x' c' hm).1
   ·refine eR (F.cell x c hc) λv o h1 h2=>?_;have e1:=hS c o (.inr ⟨x,hc⟩) h1 (F.cst x c hc).1 (λq=>by cases q;exact off.2.2.2 x hc) (λy z=>q (bt.mpr (aA _ z rfl)));cases z:ak c with|none=>rfl|some m=>(have:=Fi.apart _ _ z;rw[e1]at this;contradiction),(F.cst x c hc).2⟩}
end
end
section
variable [dq:Hid]
section
variable{prog:cx}{w:aZ}{K:cJ}{r:aa}{env:bI}{loc:Loc}{st:aE}{A:cQ}{P:bE}{s:aK}{scope:jH}
structure v8(prog:cx)(w:aZ)(e:aT)(scope:jH)(target iter:aT)(ifs:ag aT)(gs:ag DJ)(ue:fU aF)(o0:aV)(pq:cY)(after:aa->bI->fU kK):Prop where
 m5:clausesOf e=⟨target,iter,ifs,0⟩::gs
 kU:∀{A:cQ}{E:aF->aK->Prop}{s:aK}{Q:aF->aK->Prop},Q (.ref s.heap.objs.size) {s with heap:=s.heap.push pq}->aY (aU prog w) A ue Q E s
 yb:∀h,j6 w h o0 pq
 Bm:pq.isFreed=aD
 hq:∀(it ac:aa)(env:bI),(agM e 0 (.ref it) (.ref ac) env).quiet=ai
 vY:∀(it ac:aa)(env:bI)(A:cQ)(Q:Fin->aK->Prop)(E:aF->aK->Prop)(s:aK),aY (aU prog w) A ((Jh e 0 (.ref it) (.ref ac) env).onRaise (λx=>do noteFrame x env;ahg x)) Q E s->aY (aU prog w) (A.under (.compLoop e 0 (.ref it) (.ref ac) env)) ((aU prog w).den (.compLoop e 0 (.ref it) (.ref ac) env)) Q E s
 vZ:∀(it ac:aa)(env:bI),Jh e 0 (.ref it) (.ref ac) env=(do
  mU iter.pos;match←qe (.ref it)with
   |ah=>pure (.done .next)|af v=>
    Ao target (.ref it) v;vO target env v;let mut ok:=ai;for c in ifs do if ok then ok←fe c env (bc c env)
    if ok then after ac env
    again (.compLoop e 0 (.ref it) (.ref ac) env))
 Bn:∀{A:cQ}{it ac:aa}{env:bI}{R:Result->aK->Prop}{s:aK},nK (aU prog w) A (.compLoop e 0 (.ref it) (.ref ac) env) R s->(∀{Q:aF->aK->Prop}{E:aF->aK->Prop},Q (.ref it) s->aY (aU prog w) A (rE (.ref it)) Q E s)->nK (aU prog w) A (.compStart e 0 (.ref it) (.ref ac) env) R s
def KY{emb:β->aV}{b0:β}{gq:aa->Loc->β->aE->(β->aE->Prop)->Prop}{Fin:β->aE->Prop}{target iter:aT}(S:v8 prog w e scope target iter ifs gs ue (emb b0) pq after)(hs:∀x,ji iter env x=pure x)(ok:d9 scope env=ai)(uc:∀C ac,ub prog w K r (dX scope C env) (gS scope loc) ac (after ac (dX scope C env)) emb (gq C))(h:WI prog w K r env iter loc st λvs D T aQ=>T target/\∃bJ:ag V->β->aE->Prop,bJ vs b0 aQ/\∀C,mh prog w K r (dX scope C env) (gS scope loc) target ifs D bJ (gq C) Fin)(a:dY A r)(g:Gd K P.h)(F:aH w P s env loc st)(k:∀s ac C ak y,aH w P s env loc ak->Acc w P env ak s ac (emb y)->(∃m,s.heap.Ns C m)->Off P env ak C->C≠ac->Fin y ak->Ji (aU prog w) A (λu u=>dv) use Q (.ref ac) C (.ok .next) s):aY (aU prog w) A (Sf e scope env pos ue aD (bc iter env) use) Q (λu u=>dv) s:=by
 have Et:∀x∈scope.names,x.2=.local->scope.names.lookup x.1=af .local:=λx hx q=>by obtain⟨n,k⟩:=x;rw[←q];exact KN (d9.nodup ok) hx
 refine wpAny_comprehension_free S.m5 hs (VH F ok) (d9.kind ok) Et (cC (h A P s a g F) (λx s1 z=>cC z (λit s2 z=>?_) λu u x=>x.elim) λu u x=>x.elim);obtain⟨it,fp,vs,D,T,St,aQ,rfl,I,z0,F2,off,hT,bJ,i0,L⟩:=z;refine S.kU ?_;have F3:=F2.grow (h':=s2.heap.push pq) λb o q=>cB _ q;have v9:=F2.EH;have KZ:=(F2.beyond (bq _)).2.2.2.2;have K0:=I.live _ _ z0;refine wpAny_newFunctionEnv (d9.KP ok) (by intro y hy;simp at hy) (λh4 mj K1=>?_) (d9.kind ok);have wc:=F3.EH;have hC:(s2.heap.push pq).objs.size=s2.heap.objs.size+1:=mQ ..;have k4:=λb o q=>K1.extBut b o (cV (dW q)) (cB _ q);have F4:aH w P {s2 with heap:=h4,toks:=s2.toks+0} env loc aQ:=(F3.grow k4).tok _;generalize hCe:(s2.heap.push pq).objs.size=C at mj K1 wc hC⊢;generalize Bo:s2.heap.objs.size=ac at v9 KZ hC⊢;have K2:C≠ac:=l2 2701335812 hC;have eA:=k4 _ _ (by exact Bo▸(eG _ S.Bm));have K3:=λb o q=>k4 b o (cB _ q);have VM:C∉fp:=λq=>by refine aq (K0 C q) λo e u=>?_;have e2:=dW e;rw[Bo,hC]at e2;exact bA e2 (by lia)
 have z4:=I.frame _ _ _ z0 (λb u o q=>K3 b o q) λb o u u q u u=>K3 b o q;have Fc:aH w P {s2 with heap:=h4,toks:=s2.toks+0} (dX scope C env) (gS scope loc) aQ:=F4.comp ok mj wc;let hO:aa->bw:=λb=>own (dX scope C env) aQ b||b==ac||fp.contains b;let P':bE:=⟨ew h4 hO,s2.os,s2.gens⟩;have E1:∀{b},own (dX scope C env) aQ b=aD->b≠ac->b∉fp->hO b=aD:=λ{b}h1 h2 h3=>by show(_||_||_)=aD;rw[h1,beq_eq_false_iff_ne.mpr h2];exact mL.mpr λq=>h3 (Rg.mp q)
 have K4:∀{b},aQ b=ah->b≠C->(∀x,(x,b)∉kg scope env)->own (dX scope C env) aQ b=aD:=λh1 h2 h3=>mZ h1 h2 h3;have hP:=λb o q=>eD.mpr ⟨E1 (K4 (F4.El q) (λz=>by rw[z,wc.1]at q;nomatch q) λx hx=>by rw[(F4.cst x b (v7 F4 ok hx).2.2).2]at q;nomatch q) (λz=>by rw[z,v9.1]at q;nomatch q) (λz=>by rw[(off b z).1]at q;nomatch q),F4.keep b o q⟩;have hS:∀b o,(b=env.locals\/∃x,(x,b)∈env.cells)->h4.get? b=af o->aQ b=ah->b≠C->(∀x,(x,b)∉kg scope env)->P'.h.get? b=af o:=λb o hb q h1 h2 h3=>eD.mpr ⟨E1 (K4 h1 h2 h3) (λz=>by clear hC;cases z;clear Bo;rcases hb with rfl|⟨x,hx⟩;exact v9.2.2.1 rfl;exact v9.2.2.2 _ hx) (λz=>by rcases hb with rfl|⟨x,hx⟩;exact(off _ z).2.2.1 rfl;exact(off _ z).2.2.2 _ hx),q⟩;have Fi:aH w P' {s2 with heap:=h4,toks:=s2.toks+0} (dX scope C env) (gS scope loc) aQ:=Fc.hide hO (λb q=>by show(_||_||_)=ai;rw[q];rfl) λb o e=>(eD.mp (hP b o e)).1;have g':=g.keeps hP;have K5:∀{b},Off P env aQ b->b≠C->hO b=ai->Off P' (dX scope C env) aQ b:=λ{b}h1 h2 h3=>(ip (xY h3) h1.2.1 h2 (λx hx=>h1.2.2.2 x (v7 F4 ok hx).2.2));have VN:Acc w P' (dX scope C env) aQ {s2 with heap:=h4,toks:=s2.toks+0} ac (emb b0):=⟨K5 v9 (nJ K2) (by show(_||_||_)=ai;rw[jr,Aw];rfl),KZ,pq,eA,S.yb _⟩;have VO:=(S.yb h4).xX;have VP:∀{s':aK}{l' ak},aH w P' s' (dX scope C env) l' ak->cK h4 s'.heap:=λ{s' l' ak}Fe b o items n e c dd=>Fe.keep b o (eD.mpr ⟨E1 (Fc.tup e c dd) (λq=>by rw[q,eA]at e;clear dd;injection e with zc;subst zc;exact VO c) (λq=>by refine aq ((I.live _ _ z4) b q) λo' e' c'=>?_;rw[e]at e';injection e' with zc;subst zc;exact c' c),e⟩);have loop:nK (aU prog w) A (.compLoop e 0 (.ref it) (.ref ac) (dX scope C env)) (Ji (aU prog w) A (λu u=>dv) use Q (.ref ac) C) {s2 with heap:=h4,toks:=s2.toks+0}:=by refine KH (K:=K) (r:=r) (P:=P') (fp:=fp) (l0:=gS scope loc) (S.hq it ac _) (S.vY it ac _) (S.vZ it ac _) I hT bJ (λv l' q=>VB q KQ) (L C) (uc C ac) (λs' ak o Fe Ae ahC hI=>?_) a g' Fi (λu u q=>q) VN z4 (λb hb=>K5 (off b hb) (λq=>VM (q▸hb)) (by show(_||_||_)=ai;rw[Rg.mpr hb,Aw])) (λq=>by refine aq (K0 ac q) λo e u=>?_;exact bA (dW e) (by exact Bo▸(i6 _))) i0;·have tk:=VP Fe;have Fo:=F4.VI ok wc hP hS F4.os F4.gens Fe (λu u q=>q) tk;refine aq Fe.ns λm hm u=>?_;exact k s' ac C ak o Fo ⟨(cM (tw hP Ae.off.1) Ae.off.2.1 v9.2.2),Ae.big,Ae.obj⟩ (gE m hm) (cM wc.1 Fe.lst wc.2.2) K2 hI
 exact S.Bn loop λ{Q E}hq=>I.self z4 hq
def K6{elt target iter:aT}{ifs:ag aT}{scope:jH}{pos:qg}:v8 prog w (.ListComp elt [⟨target,iter,ifs,0⟩] scope pos) scope target iter ifs [] (newList []) (.list []) (listOf #[] 0) (λac env=>do let _←dR (.builtin "list.append") [.ref ac,←bc elt env])where m5:=rfl;kU:=λh=>mM h;yb:=λh=>(eK (#[]) 0 rfl .nil);Bm:=rfl;hq:=λu u u=>rfl;vY:=λu u u u u u u h=>h;vZ:=λu u u=>rfl;Bn:=λh0 h=>age h0 (h h0)
end
end
section
variable [dq:Hid]
def aE.E2(st:aE)(a:aa)(o o':aV):(st.put a o).put a o'=st.put a o':=by funext b;simp only[aE.put];split<;>rfl
section
variable{prog:cx}{w:aZ}{K:cJ}{r:aa}{env:bI}{loc:Loc}{st:aE}{A:cQ}{P:bE}{s:aK}{scope:jH}
def K7{kx vx target iter:aT}{ifs:ag aT}{scope:jH}{pos:qg}:v8 prog w (.DictComp kx vx [⟨target,iter,ifs,0⟩] scope pos) scope target iter ifs [] newDict (.dict []) (jG [] 0) (λac env=>do let kv←bc kx env;let vv←o9 [kv] (bc vx env);mU {kx.pos with endLine:=vx.pos.endLine,endCol:=vx.pos.endCol};o9 [kv,vv] (DY ac kv vv))where m5:=rfl;kU:=λh=>mM h;yb:=λh=>(bZ ([]) 0 rfl .nil .nil);Bm:=rfl;hq:=λu u u=>rfl;vY:=λu u u u u u u h=>h;vZ:=λu u u=>rfl;Bn:=λh0 h=>codeAny_compStart_dict h0 (h h0)
def K8{elt target iter iu fL:aT}{ifs jM:ag aT}{scope:jH}{pos:qg}:v8 prog w (.ListComp elt [⟨target,iter,ifs,0⟩,⟨iu,fL,jM,0⟩] scope pos) scope target iter ifs [⟨iu,fL,jM,0⟩] (newList []) (.list []) (listOf #[] 0) (λac env=>do let x←bc fL env;mU fL.pos;let x←ji fL env x;let _←runOwn (.compStart (.ListComp elt [⟨target,iter,ifs,0⟩,⟨iu,fL,jM,0⟩] scope pos) 1 (←o9 [x] (rE x)) (.ref ac) env) env)where
 m5:=rfl
 kU:=λh=>mM h
 yb:=λh=>(eK (#[]) 0 rfl .nil)
 Bm:=rfl
 hq:=λu u u=>rfl
 vY:=λu u u u u u u h=>h
 vZ:=λit ac env=>by simp only[bind_assoc];rfl
 Bn:=λh0 h=>age h0 (h h0)
def rZ(prog:cx)(w:aZ)(K:cJ)(r:aa)(env:bI)(elt:aT)(l:Loc)(ys:ag V)(st:aE)(N:ag V->aE->Prop):Prop:=WE prog w K r env (bc elt env) l st λu ak=>ys.length<16777216/\N (ys++[u]) ak
def wd(prog:cx)(w:aZ)(K:cJ)(r:aa)(env:bI)(kx vx:aT)(l:Loc)(es:ag (V×V))(st:aE)(N:ag (V×V)->aE->Prop):Prop:=WE prog w K r env (bc kx env) l st λk aQ=>WE prog w K r env (bc vx env) l aQ λv bP=>es.length<=16777216/\eM es k/\N (dt es k v) bP
def E3{l0:Loc}:ub prog w K r env l0 ac (do let _←dR (.builtin "list.append") [.ref ac,←bc elt env]) aV.list (rZ prog w K r env elt):=λl ys st N h le A P s a g F qr=>by refine wb (cC (h A (bE.all env st s) s a (g.keeps F.sub) F.all) (λx s1 z=>?_) λo o x=>x.elim);obtain⟨u,aQ,ru,F1,hz,hN⟩:=z;have K9:=qr.back F F1;refine wb (cC (J9 (prog:=prog) (w:=w) (K:=K) (r:=r) (env:=env) (loc:=l) (a:=ac) (vs:=ys) (v:=u) (Q:=λo ak=>ak=(aQ.put ac (.list ys)).put ac (.list (ys++[u]))) (aE.lY ..) hz rfl A P s1 _ a g (K9.adopt (F.back F1)) (.cons (.ref ac) (.cons ru .nil))) (λy s2 z=>?_) λo o x=>x.elim);obtain⟨_,_,_,F2,e⟩:=z;simp only[e,aE.E2]at F2;refine il (F2.forget K9.off.2.1) λF3 o3 b3 e3=>?_;exact aG ⟨l,aQ,_,le,F3,⟨o3,b3,e3⟩,_,rfl,hN⟩
def La{l0:Loc}:ub prog w K (r+1) env l0 ac (do let kv←bc kx env;let vv←o9 [kv] (bc vx env);mU p;o9 [kv,vv] (DY ac kv vv)) aV.dict (wd prog w K (r+1) env kx vx):=λl es st N h le A P s a g F qr=>by refine wb (cC (h A (bE.all env st s) s a (g.keeps F.sub) F.all) (λx s1 z=>?_) λo o x=>x.elim);obtain⟨u,aQ,ru,F1,z⟩:=z;have yc:=F.back F1;refine wb (dU (cC (z A (bE.all env aQ s1) s1 a (g.keeps yc.sub) yc.all) (λy s2 z=>?_) λo o x=>x.elim));obtain⟨v,bP,rv,F2,hz,kk,hN⟩:=z;have Lb:=(qr.back F F1).back yc F2;refine wb (lV (dU (Bd a.key (Lb.adopt (yc.back F2)) (aE.lY ..) (ru.keep (yc.ly F2)) rv kk hz λs3 F3 o=>?_)));simp only[aE.E2]at F3;refine il (F3.forget Lb.off.2.1) λF4 o3 b3 e3=>?_;exact⟨l,bP,_,le,F4,⟨o3,b3,e3⟩,_,rfl,hN⟩
def VQ{elt target iter ifs iu fL jM rest scope pos it acc env}(h0:nK (aU prog w) A (.compLoop (.ListComp elt (⟨target,iter,ifs,0⟩::⟨iu,fL,jM,0⟩::rest) scope pos) 1 it acc env) R s)(h:aY (aU prog w) A (rE it) (λE4 s'=>nK (aU prog w) A (.compLoop (.ListComp elt (⟨target,iter,ifs,0⟩::⟨iu,fL,jM,0⟩::rest) scope pos) 1 E4 acc env) R s') (notedBy (aU prog w) A env λx s'=>R (.error x) s') s):nK (aU prog w) A (.compStart (.ListComp elt (⟨target,iter,ifs,0⟩::⟨iu,fL,jM,0⟩::rest) scope pos) 1 it acc env) R s:=by
 refine RU ?_;refine wpAny_notedAt ?_;refine wb (Al (wpAny_ite ?_));split;·first|exact wb (aG (aG (I' rfl h0)))|exact aG (I' rfl h0)
 ·first|exact wb (jZ (wb (lV (wb (cC h (λE4 s' h'=>aG (I' rfl h')) λu u x=>x)))))|(refine wb (jZ ?_);exact wb (lV (wb (cC h (λE4 s' h'=>aG (I' rfl h')) λu u x=>x))))
def we(prog:cx)(w:aZ)(K:cJ)(r:aa)(env:bI)(elt iu fL:aT)(jM:ag aT)(l:Loc)(ys:ag V)(st:aE)(N:ag V->aE->Prop):Prop:=(∀x∈Bh iu,l x=ah)/\WI prog w K r env fL l st λvs D T aQ=>T iu/\∃bJ:ag V->ag V->aE->Prop,bJ vs ys aQ/\mh prog w K r env l iu jM D bJ (rZ prog w K r env elt) N
def Ld{l0:Loc}{elt target iter iu fL:aT}(hs:∀x,ji fL env x=pure x):ub prog w K r env l0 ac (do let x←bc fL env;mU fL.pos;let x←ji fL env x;let _←runOwn (.compStart (.ListComp elt [⟨target,iter,ifs,0⟩,⟨iu,fL,jM,0⟩] scope pos) 1 (←o9 [x] (rE x)) (.ref ac) env) env) aV.list (we prog w K r env elt iu fL jM):=λl ys st N h le A P s a g F qr=>by refine wb (cC (h.2 A (bE.all env st s) s a (g.keeps F.sub) F.all) (λx s1 z=>?_) λu u x=>x.elim);refine wb (lV (wb (xJ (hs x) (wb (dU (cC z (λit s2 z=>?_) λu u x=>x.elim))))));obtain⟨it,fp,vs,D,T,St,aQ,rfl,I,z0,F2,off,hT,bJ,i0,L⟩:=z;refine aq qr.obj λVR eA zA=>?_;have Le:(bE.all env st s).h.get? ac=af VR:=eD.mpr ⟨mZ qr.off.2.1 qr.off.2.2.1 qr.off.2.2.2,eA⟩;refine wb (wpAny_runOwn (h:=ah) (show nK (aU prog w) A _ _ _ from ?_) nofun);have loop:=KH (e:=.ListComp elt [⟨target,iter,ifs,0⟩,⟨iu,fL,jM,0⟩] scope pos) (d:=1) (K:=K) (r:=r) (P:=P) (fp:=fp) (l0:=l) (ac:=ac) (env:=env) (prog:=prog) (w:=w) (s:=s2) (A:=A) (R:=λr s'=>match r with|.ok f=>aY (aU prog w) A (pure ()) (λu s'=>ES w P env l0 ac (λo ak=>∃y',o=aV.list y'/\N y' ak) s') (λu u=>dv) s'|.error e=>cameBackBy (aU prog w) A env (λu u=>dv) e s') rfl (λu u u u h=>h) rfl I hT bJ (λv l' q=>VD q h.1) L E3 (λs' ak y F' A' u fi=>aG ⟨l,ak,_,le,F',A',y,rfl,fi⟩) a g (F.back F2) (λu u q=>q) (qr.back F F2) z0 (λb hb=>⟨F.TL (off b hb).1,(off b hb).2⟩) (λq=>by rw[(off ac q).1]at Le;nomatch Le) i0;exact VQ loop (I.self z0 loop)
def VS{ac C:aa}(F:aH w P s env loc st)(hA:Acc w P env st s ac o)(hC:∃m,s.heap.Ns C m)(off:Off P env st C)(ff:C≠ac)(h:∀a,st a=ah->Q (.ref a) (st.put a o)):Ji (aU prog w) A (λu u=>dv) ah (tC w P env loc Q) (.ref ac) C (.ok .next) s:=by
 obtain⟨m,hm⟩:=hC;refine(aA m hm (λh' sb=>?_));refine fX hm λoC u u eC dC u=>?_;refine⟨_,_,.ref ac,((hA.adopt F).EG (fp:=[C]) (eK h' s.toks rfl (λb o hb e=>(sb.2 b λq=>hb (by simp[q])).trans e)) (λb hb=>?_) (λb hb=>?_)).1,h ac hA.off.2.1⟩;·
  obtain rfl:b=C:=by simpa using hb
  exact(cM off.1 (by rw[aE.gj ff];exact off.2.1) off.2.2)
 ·obtain rfl:b=C:=by simpa using hb
  exact(aA oC eC (.inr λi n q=>by rw[dC]at q;contradiction))
def VT{ac C:aa}(F:aH w P s env loc st)(hA:Acc w P env st s ac o)(hC:∃m,s.heap.Ns C m)(off:Off P env st C)(ff:C≠ac)(hk:env.kindOf x=af .local\/env.kindOf x=af .cell)(h:∀a,st a=ah->∀s',aH w P s' env (loc.up x (.ref a)) (st.put a o)->Q .none s'):Ji (aU prog w) A (λu u=>dv) (af (vO (.Name x p) env)) Q (.ref ac) C (.ok .next) s:=by
 obtain⟨m,hm⟩:=hC;have FA:=hA.adopt F;refine fX hm λoC VU VV eC dC zC=>?_;refine cC (Ep (P:=bE.all env (st.put ac o) s) (Q:=λu s'=>aH w (bE.all env (st.put ac o) s) s' env (loc.up x (.ref ac)) (st.put ac o)) FA.all (.ref ac) hk λs' F'=>F') (λu s' F'=>?_) λu u x=>x;have Lf:=F'.keep C oC (eD.mpr ⟨(mZ (by rw[aE.gj ff];exact off.2.1) off.2.2.1 off.2.2.2),eC⟩);refine(aA m ⟨oC,VU,VV,Lf,dC,zC⟩ (λh' sb=>?_));refine h ac hA.off.2.1 _ ((FA.back F').EG (fp:=[C]) (eK h' s'.toks rfl (λb o hb e=>(sb.2 b λq=>hb (by simp[q])).trans e)) (λb hb=>?_) (λb hb=>?_)).1;·
  obtain rfl:b=C:=by simpa using hb
  exact(cM off.1 (by rw[aE.gj ff];exact off.2.1) off.2.2)
 ·obtain rfl:b=C:=by simpa using hb
  exact(aA oC Lf (.inr λi n q=>by rw[dC]at q;contradiction))
def E5{emb:β->aV}{b0:β}{gq:aa->Loc->β->aE->(β->aE->Prop)->Prop}{e target iter:aT}(S:v8 prog w e scope target iter ifs gs ue (emb b0) pq after)(uc:∀C ac,ub prog w K r (dX scope C env) (gS scope loc) ac (after ac (dX scope C env)) emb (gq C))(h:WI prog w K r env iter loc st λvs D T aQ=>T target/\∃bJ:ag V->β->aE->Prop,bJ vs b0 aQ/\∀C,mh prog w K r (dX scope C env) (gS scope loc) target ifs D bJ (gq C) λy ak=>∀a,ak a=ah->Q (.ref a) (ak.put a (emb y)))(he:bc e env=Sf e scope env p ue aD (bc iter env))(ok:d9 scope env=ai)(hs:∀x,ji iter env x=pure x):WE prog w K r env (bc e env) loc st Q:=λA P s a g F=>by exact he▸(KY S hs ok uc h a g F λs ac C ak o F' hA hC off ff hF=>VS F' hA hC off ff hF)
def E6{emb:β->aV}{b0:β}{gq:aa->Loc->β->aE->(β->aE->Prop)->Prop}{e target iter:aT}(S:v8 prog w e scope target iter ifs gs ue (emb b0) pq after)(uc:∀C ac,ub prog w K r (dX scope C env) (gS scope loc) ac (after ac (dX scope C env)) emb (gq C))(h:WI prog w K r env iter loc st λvs D T aQ=>T target/\∃bJ:ag V->β->aE->Prop,bJ vs b0 aQ/\∀C,mh prog w K r (dX scope C env) (gS scope loc) target ifs D bJ (gq C) λy ak=>∀a,ak a=ah->N (loc.up x (.ref a)) (ak.put a (emb y)))(he:evalThenUse e env (vO (.Name x pos') env)=(do let _←Sf e scope env p ue aD (bc iter env) (af (vO (.Name x pos') env))))(ok:d9 scope env=ai)(hs:∀x,ji iter env x=pure x)(hk:(env.kindOf x==af .local||env.kindOf x==af .cell)=ai)(uf:qd e (af (.Name x pos')) pos.line env=pure ai):WF prog w K r env (j3 (.Assign [.Name x pos'] e pos) env) loc st N R:=λA P s a g F=>by rw[exec_Assign_Name_used _ _ _ _ uf,he];refine wb (lV (wb (wb ?_)));exact KY S hs ok uc h a g F λs ac C ak o F' hA hC off ff hF=>VT F' hA hC off ff ((Ie.mp hk).imp eq_of_beq eq_of_beq) λa ha s' ug=>aG (aG ⟨_,_,ug,hF a ha⟩)
def VW{elt target iter:aT}(h:WI prog w K r env iter loc st λvs D T aQ=>T target/\∃bJ:ag V->ag V->aE->Prop,bJ vs [] aQ/\∀C,mh prog w K r (dX scope C env) (gS scope loc) target ifs D bJ (rZ prog w K r (dX scope C env) elt) λys ak=>∀a,ak a=ah->Q (.ref a) (ak.put a (.list ys)))(ok:aB (d9 scope env=ai) tT)(hs:aB (∀x,ji iter env x=pure x) tI):WE prog w K r env (bc (.ListComp elt [⟨target,iter,ifs,0⟩] scope pos) env) loc st Q:=E5 K6 (λu u=>E3) h rfl ok hs
def VX{elt target iter:aT}(h:WI prog w K r env iter loc st λvs D T aQ=>T target/\∃bJ:ag V->ag V->aE->Prop,bJ vs [] aQ/\∀C,mh prog w K r (dX scope C env) (gS scope loc) target ifs D bJ (rZ prog w K r (dX scope C env) elt) λys ak=>∀a,ak a=ah->N (loc.up x (.ref a)) (ak.put a (.list ys)))(ok:aB (d9 scope env=ai) tT)(hk:aB ((env.kindOf x==af .local||env.kindOf x==af .cell)=ai) tT)(uf:aB (qd (.ListComp elt [⟨target,iter,ifs,0⟩] scope pos) (af (.Name x pos')) pos2.line env=pure ai) tR)(hs:aB (∀x,ji iter env x=pure x) tI):WF prog w K r env (j3 (.Assign [.Name x pos'] (.ListComp elt [⟨target,iter,ifs,0⟩] scope pos) pos2) env) loc st N R:=E6 K6 (λu u=>E3) h rfl ok hs hk uf
def VY{elt target iter iu fL:aT}(h:WI prog w K r env iter loc st λvs D T aQ=>T target/\∃bJ:ag V->ag V->aE->Prop,bJ vs [] aQ/\∀C,mh prog w K r (dX scope C env) (gS scope loc) target ifs D bJ (we prog w K r (dX scope C env) elt iu fL jM) λys ak=>∀a,ak a=ah->Q (.ref a) (ak.put a (.list ys)))(ok:aB (d9 scope env=ai) tT)(hs:aB (∀x,ji iter env x=pure x) tI)(E7:∀C x,ji fL (dX scope C env) x=pure x:=by intro _ _;rfl):WE prog w K r env (bc (.ListComp elt [⟨target,iter,ifs,0⟩,⟨iu,fL,jM,0⟩] scope pos) env) loc st Q:=E5 K8 (λC u=>Ld (E7 C)) h rfl ok hs
def VZ{elt target iter iu fL:aT}(h:WI prog w K r env iter loc st λvs D T aQ=>T target/\∃bJ:ag V->ag V->aE->Prop,bJ vs [] aQ/\∀C,mh prog w K r (dX scope C env) (gS scope loc) target ifs D bJ (we prog w K r (dX scope C env) elt iu fL jM) λys ak=>∀a,ak a=ah->N (loc.up x (.ref a)) (ak.put a (.list ys)))(ok:aB (d9 scope env=ai) tT)(hk:aB ((env.kindOf x==af .local||env.kindOf x==af .cell)=ai) tT)(uf:aB (qd (.ListComp elt [⟨target,iter,ifs,0⟩,⟨iu,fL,jM,0⟩] scope pos) (af (.Name x pos')) pos2.line env=pure ai) tR)(hs:aB (∀x,ji iter env x=pure x) tI)(E7:∀C x,ji fL (dX scope C env) x=pure x:=by intro _ _;rfl):WF prog w K r env (j3 (.Assign [.Name x pos'] (.ListComp elt [⟨target,iter,ifs,0⟩,⟨iu,fL,jM,0⟩] scope pos) pos2) env) loc st N R:=E6 K8 (λC u=>Ld (E7 C)) h rfl ok hs hk uf
def V0{kx vx target iter:aT}(h:WI prog w K (r+1) env iter loc st λvs D T aQ=>T target/\∃bJ:ag V->ag (V×V)->aE->Prop,bJ vs [] aQ/\∀C,mh prog w K (r+1) (dX scope C env) (gS scope loc) target ifs D bJ (wd prog w K (r+1) (dX scope C env) kx vx) λes ak=>∀a,ak a=ah->Q (.ref a) (ak.put a (.dict es)))(ok:aB (d9 scope env=ai) tT)(hs:aB (∀x,ji iter env x=pure x) tI):WE prog w K (r+1) env (bc (.DictComp kx vx [⟨target,iter,ifs,0⟩] scope pos) env) loc st Q:=E5 K7 (λu u=>La) h rfl ok hs
def V1{kx vx target iter:aT}(h:WI prog w K (r+1) env iter loc st λvs D T aQ=>T target/\∃bJ:ag V->ag (V×V)->aE->Prop,bJ vs [] aQ/\∀C,mh prog w K (r+1) (dX scope C env) (gS scope loc) target ifs D bJ (wd prog w K (r+1) (dX scope C env) kx vx) λes ak=>∀a,ak a=ah->N (loc.up x (.ref a)) (ak.put a (.dict es)))(ok:aB (d9 scope env=ai) tT)(hk:aB ((env.kindOf x==af .local||env.kindOf x==af .cell)=ai) tT)(uf:aB (qd (.DictComp kx vx [⟨target,iter,ifs,0⟩] scope pos) (af (.Name x pos')) pos2.line env=pure ai) tR)(hs:aB (∀x,ji iter env x=pure x) tI):WF prog w K (r+1) env (j3 (.Assign [.Name x pos'] (.DictComp kx vx [⟨target,iter,ifs,0⟩] scope pos) pos2) env) loc st N R:=E6 K7 (λu u=>La) h rfl ok hs hk uf
end
end
section
variable [dq:Hid]
def lC{α:Type}(n:aa)(c:aa->aa->bw):KasT α->(α->Prop)->Prop|.ret a,Q=>Q a|.ask i j k,Q=>i<n/\j<n/\lC n c (k (c i j)) Q
theorem wg{α β:Type}{n:aa}{c:aa->aa->bw}{f:α->KasT β}{Q:β->Prop}:∀{t:KasT α},lC n c t (λa=>lC n c (f a) Q)->lC n c (t.bind f) Q|.ret _,h=>h|.ask _ _ _,⟨a,b,h⟩=>(cM a b (wg h))
theorem Lg{α:Type}{n:aa}{c:aa->aa->bw}{cmp:aa->aa->(bw->aK->Prop)->aK->Prop}{R:α->aK->Prop}{s:aK}(hc:∀i j,i<n->j<n->∀C,C (c i j) s->cmp i j C s):∀{t:KasT α},lC n c t (λa=>R a s)->t.kasWp cmp R s|.ret _,h=>h|.ask _ _ _,⟨a,b,h⟩=>hc _ _ a b _ (Lg hc h)
section
variable{O:KeyOrd}{f:aa->O.α}{n:aa}{c:aa->aa->bw}
noncomputable def ky(f:aa->O.α)(p:b9 aa)(i:aa):O.α:=f (p.getD i 0)
def hY(p:b9 aa)(n:aa):Prop:=p.toList.Perm (bS n)
def hY.size{p:b9 aa}(h:hY p n):p.size=n:=by have:=h.length_eq;simpa using this
def hY.lt{p:b9 aa}(h:hY p n){i:aa}(hi:i<n):p.getD i 0<n:=by
 have hs:=h.size;rw[(by simp[rD,show i<p.size by exact Dy hi hs.symm]:p.getD i 0=p[i]'(by lia))];have:p[i]'((Dy hi hs.symm))∈p.toList:=by simp
 exact dT.mp (h.mem_iff.mp this)
def hY.of{p q:b9 aa}(h:hY p n)(e:q.Perm p):hY q n:=(Array.perm_iff_toList_perm.mp e).trans h
def qt(f:aa->O.α)(p:b9 aa)(k:aa):Prop:=∀i j,i<=j->j<k->O.kle (ky f p i) (ky f p j)
def yd(f:aa->O.α)(p:b9 aa)(k:aa):Prop:=∀i j,i<=j->j<k->O.kle (ky f p j) (ky f p i)
def ye{p q:b9 aa}{i j:aa}(h:p[i]?=q[j]?):ky f p i=ky f q j:=by
 delta ky;have e:∀(a:b9 aa)(k:aa),a.getD k 0=(a[k]?).getD 0:=λa k=>by simp
 simp only[e,h]
def Lh{xs:b9 aa}{src d:aa}(hs:src<xs.size)(hd:d<=src)(k:aa):ky f (bubble xs src d) k=if k=src-d then ky f xs src else if src-d<k/\k<=src then ky f xs (k-1)else ky f xs k:=by
 have e:=getElem?_bubble hs d hd k;by_cases h1:k=src-d;·rw[a0 h1]at e⊢;exact ye e
 ·rw[aX h1]at e⊢;by_cases h2:src-d<k/\k<=src;·rw[a0 h2]at e⊢;exact ye e
  ·rw[aX h2]at e⊢;exact ye e
def E8{xs:b9 aa}{i j:aa}(hj:j<=xs.size)(k:aa):ky f (Jn xs i j ((j-i)/2)) k=if i<=k/\k<j then ky f xs (i+j-1-k)else ky f xs k:=by
 have e:=getElem?_mirror_all (i:=i) hj k;by_cases h1:i<=k/\k<j;·rw[a0 h1]at e⊢;exact ye e
 ·rw[aX h1]at e⊢;exact ye e
def E9{xs:b9 aa}{i j:aa}(hj:j<=xs.size)(heq:∀k,i<=k->k<j->ky f xs k=ky f xs (j-1))(k:aa):ky f (Jn xs i j ((j-i)/2)) k=ky f xs k:=by
 rw[E8 hj];split;·rw[heq _ (by lia) (by lia),heq k (by lia) (by lia)]
 ·rfl
variable(hc:∀i j,i<n->j<n->c i j=O.blt (f i) (f j))
include hc
def Li{p:b9 aa}(hp:hY p n){Q:aa->Prop}:∀(fu a:aa),1<=a->a+fu<=n->qt f p a->(∀m,a<=m->m<=a+fu->qt f p m->(m=a+fu\/O.klt (ky f p m) (ky f p (m-1)))->Q m)->lC n c (kas_asc p fu a) Q:=by
 intro fu;induction fu with
  |zero=>intro a h1 h2 hs h;exact h a (bq _) (bq _) hs (.inl rfl)|succ fu ih=>
   intro a h1 h2 hs h;refine(cM (hp.lt ((br (dE _ _) h2))) (hp.lt (l4 39033487085713 h2 jJ)) ?_);rw[hc _ _ (hp.lt ((br (dE _ _) h2))) (hp.lt (by exact l4 39033487085713 h2 jJ))];cases q:O.blt (f (p.getD a 0)) (f (p.getD (a-1) 0))with
    |true=>exact h a (bq _) ((dE _ _)) hs (.inr q)|false=>
     refine ih (a+1) ((i8 _)) (l3 36342253867153 h2) (λi j iU hj=>?_) λm m1 m2 m3 m4=>h m ((bF m1)) (l3 49585517091073 m2) m3 (m4.imp (by lia) id);by_cases r6:j<a;·exact hs i j iU r6
     ·have j5:j=a:=l2 0x1091061001d02010 hj r6;clear h;subst j5;by_cases iq:i=j;·rw[iq];exact vE _
      ·exact Iq (hs i (j-1) (by lia) (l2 17305811 (fY h1))) q
def Lj{p:b9 aa}(hp:hY p n){Q:aa×b9 aa->Prop}{a:aa}(h1:1<=a)(h2:a<=n)(hs:yd f p a)(h:∀m p',hY p' n->1<=m->m<=n->qt f p' m->Q (m,p')):lC n c (kas_tail3 a n p) Q:=by
 have hsz:a<=p.size:=by exact hp.size▸h2
 have kX:hY (kas_rev p 0 a) n:=hp.of (I9 _ _ _ _);refine wg (Li hc kX (n-a) a h1 (l3 137865859219 (fY h2)) ?_ λm m1 m2 m3 u=>h m _ kX ((bj h1 m1)) (l4 852332656072961 m2 (fY h2)) m3);intro i j iU hj;show O.kle (ky f (Jn p 0 a ((a-0)/2)) i) (ky f (Jn p 0 a ((a-0)/2)) j);rw[E8 hsz,E8 hsz,a0 (⟨l1 183,l3 8726323457 iU hj⟩),a0 (⟨l1 183,l2 1081602 hj⟩)];exact hs _ _ (by lia) (by lia)
def V2{Q:b9 aa×aa×aa->Prop}:∀(fu x iG:aa)(p:b9 aa),hY p n->x+fu<=n->yd f p x->iG+1<=x->(∀i,x-(iG+1)<=i->i<x->ky f p i=ky f p (x-1))->(∀m iG p',hY p' n->x<=m->m<=x+fu->yd f p' m->iG+1<=m->(∀i,m-(iG+1)<=i->i<m->ky f p' i=ky f p' (m-1))->Q (p',m,iG))->lC n c (kas_desc fu p x iG) Q:=by
 intro fu;induction fu with
  |zero=>intro x iG p hp hx hs hq he h;exact h x iG p hp (bq _) (bq _) hs hq he|succ fu ih=>
   intro x iG p hp hx hs hq he h;refine⟨hp.lt ((br (dE _ _) hx)),hp.lt (l4 39033487085713 hx jJ),?_⟩;rw[hc _ _ (hp.lt ((br (dE _ _) hx))) (hp.lt (by exact l4 39033487085713 hx jJ))];cases yf:O.blt (f (p.getD x 0)) (f (p.getD (x-1) 0))with
    |true=>
     have Ll:∀xs:b9 aa,(∀k,ky f xs k=ky f p k)->yd f xs (x+1):=by
      intro xs hk i j iU hj;rw[hk,hk];by_cases r6:j<x;·exact hs i j iU r6
      ·have j5:j=x:=l2 0x1091061001d02010 hj r6;subst j5;by_cases iq:i=j;·rw[iq];exact vE _
       ·exact Iq (Il yf) (hs i (j-1) (by lia) (l2 17305811 (fY (l2 297210065 hq))))
     by_cases r7:iG>0;·rw[a0 r7];exact ih (x+1) 0 _ (hp.of (I9 _ _ _ _)) (l3 36342253867153 hx) (Ll _ (E9 (by exact hp.size▸(bF (br (dE _ _) hx))) he)) ((i8 _)) (λi h1 h2=>by congr 1;exact l3 0x190bd092d10102d12010101100 h1 h2 kQ) λm iG p' a1 a2 a3 a4 a5 a6=>h m iG p' a1 ((bF a2)) (l3 49585517091073 a3) a4 a5 a6
     ·rw[aX r7];exact ih (x+1) 0 _ hp (l3 36342253867153 hx) (Ll _ (λu=>rfl)) ((i8 _)) (λi h1 h2=>by congr 1;exact l3 0x190bd092d10102d12010101100 h1 h2 kQ) λm iG p' a1 a2 a3 a4 a5 a6=>h m iG p' a1 ((bF a2)) (l3 49585517091073 a3) a4 a5 a6|false=>
     refine⟨hp.lt (l4 39033487085713 hx jJ),hp.lt ((br (dE _ _) hx)),?_⟩;rw[hc _ _ (hp.lt (by exact l4 39033487085713 hx jJ)) (hp.lt ((br (dE _ _) hx)))];cases V3:O.blt (f (p.getD (x-1) 0)) (f (p.getD x 0))with
      |true=>exact h x iG p hp (bq _) ((dE _ _)) hs hq he|false=>
       have Lm:ky f p x=ky f p (x-1):=afT V3 yf;refine ih (x+1) (iG+1) p hp (l3 36342253867153 hx) (λi j iU hj=>?_) ((Nat.add_lt_add_right hq _)) (λi h1 h2=>?_) λm iG p' a1 a2 a3 a4 a5 a6=>h m iG p' a1 ((bF a2)) (l3 49585517091073 a3) a4 a5 a6;·
        by_cases r6:j<x;·exact hs i j iU r6
        ·have j5:j=x:=l2 0x1091061001d02010 hj r6;clear h;subst j5;by_cases iq:i=j;·rw[iq];exact vE _
         ·rw[Lm];exact hs i (j-1) (by lia) (l2 17305811 (fY (l2 297210065 hq)))
       ·by_cases V4:i=x;·clear h1;cases V4;rfl
        ·rw[Lm];exact he i (by lia) (by lia)
def Ln{p:b9 aa}(hp:hY p n){a:aa}(ha:a+1<=n)(hs:yd f p (a+1)){Q:aa×b9 aa->Prop}(h:∀m p',hY p' n->1<=m->m<=n->qt f p' m->Q (m,p')):lC n c (kas_descPart a n p) Q:=by
 refine wg (V2 hc (n-(a+1)) (a+1) 0 p hp (l3 35311461716115 (fY ha)) hs ((i8 _)) (λi h1 h2=>by congr 1;exact l3 0x190bd092d10102d12010101100 h1 h2 kQ) λm iG p' kX m1 m2 hV hq he=>?_);have hsz:m<=p'.size:=by rw[kX.size];exact l4 0x30731d29321d901 m2 (fY ha)
 by_cases r7:iG>0;·simp only[r7];refine Lj hc (kX.of (I9 _ _ _ _)) ((agp m1)) (l4 0x30731d29321d901 m2 (fY ha)) ?_ h;intro i j iU hj;simp only[E9 hsz he];exact hV i j iU hj
 ·simp only[r7];exact Lj hc kX ((agp m1)) (l4 0x30731d29321d901 m2 (fY ha)) hV h
def V5{p:b9 aa}(hp:hY p n)(h1:1<=n){Q:aa×b9 aa->Prop}(h:∀m p',hY p' n->1<=m->m<=n->qt f p' m->Q (m,p')):lC n c (kas_count n p) Q:=by
 refine wg (Li hc hp (n-1) 1 (bq _) (l2 69182361811 (fY h1)) (λi j iU hj=>by have:i=j:=(l2 0x1091b12100101010 iU hj);rw[this];exact vE _) λm m1 m2 Bp E'=>?_);by_cases Bq:m=n;·rw[a0 (by simpa using Bq)];exact h m p hp m1 ((e9 Bq)) Bp
 ·rw[aX (by simpa using Bq)];have iE:=E'.resolve_left (by lia);by_cases Lo:m>1;·
   rw[a0 Lo];refine(cM (hp.lt (h1)) (hp.lt (by lia)) ?_);rw[hc _ _ (hp.lt (h1)) (hp.lt (by lia))];clear E' Lo;cases V6:O.blt (f (p.getD 0 0)) (f (p.getD (m-1) 0))with
    |true=>exact h m p hp m1 (l3 570791809890561 m2 (fY h1)) Bp|false=>
     have wh:∀k,0<=k->k<m->ky f p k=ky f p (m-1):=by intro k _ hk;exact afT (Bp k (m-1) ((Nat.le_sub_one_of_lt hk)) (l2 17305811 (fY m1))) (Iq (show O.kle (ky f p (m-1)) (ky f p 0)from V6) (Bp 0 k ((cF _)) hk))
     refine Ln hc (hp.of (I9 _ _ _ _)) (by lia) ?_ h;have em:=λk=>E9 (f:=f) (i:=0) (by rw[hp.size];exact l3 570791809890561 m2 (fY h1)) wh k;intro i j iU hj;simp only[em];by_cases Fb:j<m;·rw[wh j ((cF _)) Fb,wh i ((cF _)) ((br iU Fb))];exact vE _
     ·have:j=m:=l2 0x1091061001d02010 hj Fb;clear em;subst this;by_cases Br:i=j;·rw[Br];exact vE _
      ·rw[wh i ((cF _)) ((Im iU Br))];exact Il iE
  ·clear E';obtain rfl:m=1:=by lia
   refine Ln hc hp ((Im h1 Bq)) ?_ h;intro i j iU hj;by_cases Br:i=j;·rw[Br];exact vE _
   ·obtain rfl:i=0:=by lia
    clear iU;obtain rfl:j=1:=by lia
    exact Il iE
def V7{p:b9 aa}(hp:hY p n){k:aa}(hk:k<n)(hs:qt f p k){Q:aa->Prop}:∀(fu l r:aa),l<=r->r<=k->r-l<=fu->(∀i,i<l->O.kle (ky f p i) (ky f p k))->(∀i,r<=i->i<k->O.klt (ky f p k) (ky f p i))->(∀l,l<=k->(∀i,i<l->O.kle (ky f p i) (ky f p k))->(∀i,l<=i->i<k->O.klt (ky f p k) (ky f p i))->Q l)->lC n c (kas_place p k fu l r) Q:=by
 intro fu;induction fu with
  |zero=>
   intro l r h1 h2 h3 jw wj h;have:l=r:=by exact l3 0x109029111000b21100101010 h1 h3 kQ
   subst this;exact h l h2 jw wj|succ fu ih=>
   intro l r h1 h2 h3 jw wj h;refine(?_:lC n c (if l>=r then .ret l else _) Q);by_cases Fd:l>=r;·rw[a0 Fd];have:l=r:=(s7 h1 Fd);clear h3;subst this;exact h l h2 jw wj
   ·rw[aX Fd];refine(cM (hp.lt hk) (hp.lt (by lia)) ?_);rw[hc _ _ (hp.lt (hk)) (hp.lt (by lia))];cases yf:O.blt (f (p.getD k 0)) (f (p.getD ((l+r)/2) 0))with|true=>exact ih l ((l+r)/2) (by lia) (by lia) (by lia) jw (λi h1 h2=>KeyOrd.klt_of_klt_of_kle yf (hs _ _ h1 h2)) h|false=>exact ih ((l+r)/2+1) r (by lia) (h2) (by lia) (λi h1=>Iq (hs i ((l+r)/2) ((nE h1)) (by lia)) (show O.kle _ _ from yf)) wj h
def V8{Q:b9 aa->Prop}:∀(fu k:aa)(p:b9 aa),hY p n->k+fu<=n->qt f p k->(∀p',hY p' n->qt f p' (k+fu)->Q p')->lC n c (kas_bin fu p k) Q:=by
 intro fu;induction fu with
  |zero=>intro k p hp hk hs h;exact h p hp hs|succ fu ih=>
   intro k p hp hk hs h;refine wg (V7 hc hp (k:=k) ((br (dE _ _) hk)) hs k 0 k ((cF _)) ((bq _)) ((I7 _ _)) (λi hi=>(bA hi (nG _))) (λi h1 h2=>(bA h1 (ahq.mpr h2))) λl J3 jw wj=>?_);have m7:k<p.size:=by rw[hp.size];exact br (dE _ _) hk
   refine ih (k+1) _ (hp.of (bubble_perm _ _ _)) (by exact l3 36342253867153 hk) ?_ λp' a1 a2=>h p' a1 (by rwa [show k+(fu+1)=k+1+fu by exact l2 4522627225]);intro i j iU hj;rw[Lh m7 ((I7 _ _)),Lh m7 ((I7 _ _)),show k-(k-l)=l by lia];repeat' split
   all_goals first|(exfalso;lia)|exact vE _|exact jw _ (by lia)|exact Il (wj _ (by lia) (by lia))|exact hs _ _ (by lia) (by lia)
def V9(h1:1<=n){Q:b9 aa->Prop}(h:∀p,hY p n->qt f p n->Q p):lC n c (kas_sort n) Q:=by
 have hp:hY (ag4 (bS n)) n:=by delta hY;rfl
 refine wg (V5 hc hp h1 λm p' kX m1 m2 hs=>?_);by_cases hm:m<n;·simp only[hm];exact V8 hc _ _ _ kX (by lia) (by rw[show max m 1=m by lia];exact hs) λp2 a1 a2=>h p2 a1 (by rwa [show max m 1+(n-max m 1)=n by lia]at a2)
 ·simp only[hm];exact h p' kX (by rwa [show m=n by exact l2 74608877627248656 m2 hm]at hs)
end
end
section
variable [dq:Hid]
section
variable{prog:cx}{w:aZ}{A:cQ}{E:aF->aK->Prop}{s:aK}
def V'(hd:(d==DQ)=aD)(hm:s.heap.get? d=af (jG ds ep))(hQ:Q (.ref s.heap.objs.size) {s with heap:=s.heap.push {cls:=.type "dict_keyiterator",data:=.fields #[.ref d,.int 0 0,.int ds.length 0,.int ep 0]}}):aY (aU prog w) A (rE (.ref d)) Q E s:=by have hT:s.TypeIs (.ref d) "dict":=(aA _ hm rfl);refine RK hT agL (jj agL hT F.entry_dict_iter ?_ (F.args_dict_iter_1 _));refine wb ?_;refine wb (Dv hT ?_);refine aG ?_;refine(?_:aY _ _ (afw d>>=_) _ _ s);delta afw;rw[aX (by exact hd▸fH)];refine wb (aG ?_);refine wb (xx hm rfl ?_);refine wb (DH hm rfl ?_);refine wb (mM (aG (aA _ rfl (bZ ("dict_keyiterator") _ (aA _ (eG _ rfl) rfl) Dl.lookup ?_))));simpa [fy]using hQ
def Wa(hit:s.heap.IsKeyIter it d i ds.length ep)(hm:s.heap.get? d=af (jG ds ep))(hx:ds[i]?=af e)(hQ:∀h',h'.IsKeyIter it d (i+1) ds.length ep->s9 it s.heap h'->Q (af e.key) {s with heap:=h'}):aY (aU prog w) A (qe (.ref it)) Q E s:=by
 refine bL (id hit) λo ho hc hd=>?_;refine wb (DI (sY (name:=qa "__next__") hit.typeIs Dl (jj Dl hit.typeIs afF ?_ (afA _))));refine wb (aG ?_);refine cD ?_;refine wb ?_;first|refine wb (H6 hit.typeIs (aG ?_))|refine wb (H9 hit.typeIs (aG ?_))
 refine wb (RZ ho hd ?_);refine wb (aG ?_);refine cD (xx hm rfl ?_);rw[aX (by simp)];refine wb (aG ?_);refine cD (DH hm rfl ?_);rw[aX (by simp)];refine aG ?_;have iE:i<ds.length:=by exact(iQ.mp hx).1
 have Wb:i<ds.toArray.size:=by exact iE
 simp only[DB,Dp Wb];refine wb ?_;first|refine wb (H6 hit.typeIs (aG ?_))|refine wb (H9 hit.typeIs (aG ?_))
 refine wb (agk hit.typeIs ?_);refine(?_:aY _ _ (setField (.ref it) 1 (fy ((i:bp)+1))>>=_) _ _ s);refine wb (IJ ho hd (by simp) ?_);have lB:(s.heap.update it (agX (·.setIfInBounds 1 (fy ((i:bp)+1))))).IsKeyIter it d (i+1) ds.length ep:=(bH _ (vo _ ho (af2 (Ik hd _))) ((agm ..).trans hc) (by rw[Ik hd];rfl));refine wb (dU ?_);refine wb (agk (s:={s with heap:=s.heap.update it (agX (·.setIfInBounds 1 (fy ((i:bp)+1))))}) lB.typeIs ?_);rw[(by rw[gy iE]at hx;simpa using hx:ds.toArray[i]=e)];exact aG (aG (aA _ rfl (aG (hQ _ lB (vq ..)))))
def Wc(hh:A.handled=ah)(hit:s.heap.IsKeyIter it d i ds.length ep)(hm:s.heap.get? d=af (jG ds ep))(hx:ds[i]?=ah)(hQ:∀h',R9 it s.heap h'->Q ah {s with heap:=h'}):aY (aU prog w) A (qe (.ref it)) Q E s:=by
 refine bL (id hit) λo ho hc hd=>?_;refine wb (DI (sY (name:=qa "__next__") hit.typeIs Dl (jj Dl hit.typeIs afF ?_ (afA _))));refine wb (aG ?_);refine cD ?_;refine wb ?_;first|refine wb (H6 hit.typeIs (aG ?_))|refine wb (H9 hit.typeIs (aG ?_))
 refine wb (RZ ho hd ?_);refine wb (aG ?_);refine cD (xx hm rfl ?_);rw[aX (by simp)];refine wb (aG ?_);refine cD (DH hm rfl ?_);rw[aX (by simp)];refine aG ?_;simp only[DB,z6 (by simpa using hx:ds.toArray.size<=i)];refine wb ?_;first|refine wb (H6 hit.typeIs (aG ?_))|refine wb (H9 hit.typeIs (aG ?_))
 refine(?_:aY _ _ (setField (.ref it) 0 .none>>=_) _ _ s);refine wb (IJ ho hd (by simp) ?_);refine wb ?_;refine wb (mM ?_ (by size_fits));refine wb (m:=R4 _ _) (xJ (a:=DN) (by first|rfl|(rfl;rfl)) ?_);refine mM ?_ (by size_fits);dsimp only[Je];refine cD (Sd ?_);rw[show A.in1.handled=ah from hh];refine wb (aG (Sl ?_));refine wb (vD (T:="StopIteration") (b:=ai) (aA _ (eG _ rfl) rfl) IL ?_);exact aG (hQ _ (((vq ..).extBut.push _).push _))
end
end
section
inductive Sh where|int|str|tup(f:aa->Sh)
def ej:Sh->V->Prop|.int,.int _=>iD|.str,.str _=>iD|.tup f,.tup vs=>∀i v,vs[i]?=af v->ej (f i) v|_,_=>dv
def fZ(f:aa->Sh)(vs:ag V):Prop:=∀i v,vs[i]?=af v->ej (f i) v
def ej.lD(h:ej .int v):∃i,v=.int i:=by induction v using V.casesOn with|int i=>exact⟨i,rfl⟩|_=>exact h.elim
def ej.lF(h:ej .str v):∃i,v=.str i:=by induction v using V.casesOn with|str i=>exact⟨i,rfl⟩|_=>exact h.elim
def ej.tupI(h:ej (.tup f) v):∃vs,v=.tup vs/\fZ f vs:=by induction v using V.casesOn with|tup vs=>exact(aA vs rfl h)|_=>exact h.elim
def fZ.cons{f:aa->Sh}{v:V}{vs:ag V}(h:fZ f (v::vs)):ej (f 0) v/\fZ (λi=>f (i+1)) vs:=⟨h 0 v rfl,λi u e=>h (i+1) u e⟩
def fZ.nil(f:aa->Sh):fZ f []:=λi v e=>by contradiction
def fZ.mk(h1:ej (f 0) v)(h2:fZ (λi=>f (i+1)) vs):fZ f (v::vs):=λi u e=>by induction i with|zero=>rw[←bR e];exact h1|succ i=>exact h2 i u e
def Lp(sh:Sh):∀{u v:V},ej sh u->ej sh v->fC u v=ai:=by induction sh with|int=>intro u v a b;obtain⟨_,rfl⟩:=a.lD;obtain⟨_,rfl⟩:=b.lD;rfl|str=>intro u v a b;obtain⟨_,rfl⟩:=a.lF;obtain⟨_,rfl⟩:=b.lF;rfl|tup f hf=>intro u v a b;refine aq a.tupI λus bQ a=>?_;subst bQ;refine aq b.tupI λvs bQ b=>?_;subst bQ;induction us generalizing vs f with|nil=>induction vs<;>rfl|cons u us ih=>induction vs with|nil=>rfl|cons v vs=>exact bM.mpr ⟨hf 0 (fZ.cons a).1 (fZ.cons b).1,ih _ (λi=>hf (i+1)) (fZ.cons a).2 (fZ.cons a).2 vs (fZ.cons b).2 (fZ.cons b).2⟩
structure wm(S:V->Prop):Prop where
 Ff:∀a,S a->eX a a=aD
 tr:∀a b c,S a->S b->S c->eX a b=ai->eX b c=ai->eX a c=ai
 tot:∀a b,S a->S b->eX a b=aD->eX b a=aD->a=b
def yg(u v:V)(us vs:ag V):jK (u::us) (v::vs)=if u=v then jK us vs else eX u v:=rfl
def Wd:∀(us:ag V)(f:aa->Sh),(∀i,wm (ej (f i)))->fZ f us->jK us us=aD:=by intro us;induction us with|nil=>intro f _ _;rfl|cons u us ih=>intro f hf h;rw[yg,a0 rfl];exact ih _ (λi=>hf (i+1)) h.cons.2
def We:∀(us vs ws:ag V)(f:aa->Sh),(∀i,wm (ej (f i)))->fZ f us->fZ f vs->fZ f ws->jK us vs=ai->jK vs ws=ai->jK us ws=ai:=by
 intro us;induction us with
  |nil=>intro vs ws f hf a b c h1 h2;induction ws with|cons w ws=>rfl|nil=>induction vs with|nil=>exact h1|cons v vs=>contradiction
  |cons u us ih=>
   intro vs ws f hf a b c h1 h2;induction vs using b7 with
    |nil=>contradiction|cons v vs=>
     induction ws using b7 with
      |nil=>contradiction|cons w ws=>
       dsimp only[yg]at h1 h2⊢;by_cases e1:u=v;·
        subst e1;rw[a0 rfl]at h1;by_cases e2:u=w;·rw[a0 e2]at h2⊢;exact ih _ _ _ (λi=>hf (i+1)) a.cons.2 b.cons.2 c.cons.2 h1 h2
        ·rw[aX e2]at h2⊢;exact h2
       ·rw[aX e1]at h1;by_cases e2:v=w;·rw[←e2];rw[aX e1];exact h1
        ·rw[aX e2]at h2;have h3:=(hf 0).tr u v w a.cons.1 b.cons.1 c.cons.1 h1 h2;by_cases e3:u=w;·rw[←e3,(hf 0).Ff u a.cons.1]at h3;nomatch h3
         ·rw[aX e3];exact h3
def Wf:∀(us vs:ag V)(f:aa->Sh),(∀i,wm (ej (f i)))->fZ f us->fZ f vs->jK us vs=aD->jK vs us=aD->us=vs:=by
 intro us;induction us with
  |nil=>intro vs f hf a b h1 h2;induction vs with|nil=>rfl|cons v vs=>contradiction
  |cons u us ih=>
   intro vs f hf a b h1 h2;induction vs using b7 with
    |nil=>contradiction|cons v vs=>
     dsimp only[yg]at h1 h2;by_cases e:u=v;·rw[a0 e]at h1;rw[a0 e.symm]at h2;rw[e,ih _ _ (λi=>hf (i+1)) a.cons.2 b.cons.2 h1 h2]
     ·rw[aX e]at h1;rw[aX (nJ e)]at h2;exact bA ((hf 0).tot u v a.cons.1 b.cons.1 h1 h2) e
def wo(sh:Sh):wm (ej sh):=by
 induction sh with
  |int=>
   refine⟨λa h=>?_,λa b c h1 h2 h3 x y=>?_,λa b h1 h2 x y=>?_⟩;·obtain⟨i,rfl⟩:=h.lD;exact dS (Int.lt_irrefl i)
   ·obtain⟨i,rfl⟩:=h1.lD;obtain⟨j,rfl⟩:=h2.lD;obtain⟨k,rfl⟩:=h3.lD;exact c7 (Int.lt_trans (gD x) (gD y))
   ·obtain⟨i,rfl⟩:=h1.lD;obtain⟨j,rfl⟩:=h2.lD;exact aO _ (Int.le_antisymm (ahs.mp (D4 y)) (ahs.mp (D4 x)))|str=>
   refine⟨λa h=>?_,λa b c h1 h2 h3 x y=>?_,λa b h1 h2 x y=>?_⟩;·obtain⟨i,rfl⟩:=h.lF;exact dS (List.lt_irrefl _)
   ·obtain⟨i,rfl⟩:=h1.lF;obtain⟨j,rfl⟩:=h2.lF;obtain⟨k,rfl⟩:=h3.lF;exact c7 (List.lt_trans (gD x) (gD y))
   ·obtain⟨⟨i⟩,rfl⟩:=h1.lF;obtain⟨⟨j⟩,rfl⟩:=h2.lF;exact aO (λz=>V.str ⟨z⟩) (Rz.mp (List.le_antisymm (ahe.mp (D4 y)) (ahe.mp (D4 x))))|tup f ih=>
   refine⟨λa h=>?_,λa b c h1 h2 h3 x y=>?_,λa b h1 h2 x y=>?_⟩;·refine aq h.tupI λi bQ h=>?_;rw[bQ];exact Wd i f ih h
   ·refine aq h1.tupI λi bQ h1=>?_;subst bQ;obtain⟨j,rfl,h2⟩:=h2.tupI;refine aq h3.tupI λk bQ h3=>?_;subst bQ;exact We i j k f ih h1 h2 h3 x y
   ·obtain⟨i,rfl,h1⟩:=h1.tupI;obtain⟨j,rfl,h2⟩:=h2.tupI;exact aO _ (Wf i j f ih h1 h2 x y)
def wm.neg(O:wm S)(a b c:V)(h1:S a)(h2:S b)(h3:S c)(h:eX a c=ai):eX a b=ai\/eX b c=ai:=by cases q1:eX a b with|true=>exact .inl rfl|false=>cases q2:eX b a with|true=>exact .inr (O.tr _ _ _ h2 h1 h3 q2 h)|false=>rw[O.tot _ _ h1 h2 q1 q2]at h;exact .inr h
def Lq(sh:Sh):KeyOrd where α:={v:V//ej sh v};blt a b:=eX a.1 b.1;irrefl a:=(wo sh).Ff a.1 a.2;trans a b c:=(wo sh).tr a.1 b.1 c.1 a.2 b.2 c.2;negTrans a b c:=(wo sh).neg a.1 b.1 c.1 a.2 b.2 c.2;total a b h1 h2:=Subtype.ext ((wo sh).tot a.1 b.1 a.2 b.2 h1 h2)
end
section
variable [dq:Hid]
section
variable{prog:cx}{w:aZ}{A:cQ}{E:aF->aK->Prop}{s:aK}
def Wg(hu:A.units+n<fA):∀(us vs:ag V)(xs ys:ag aF)(i:aa),bB s.heap us xs->bB s.heap vs ys->eU n us=ai->eU n vs=ai->rS us vs=ai->(b=ai->i=0->∀u v,us.head?=af u->vs.head?=af v->(∃a c,u=.int a/\v=.int c)\/∃a c,u=.str a/\v=.str c)->fin=decide (us.length<vs.length)->Q (jK us vs) s->KatLex prog w A b fin Q (xs.zip ys) i s:=by
 intro us;induction us with
  |nil=>intro vs xs ys i r1 r2 _ _ _ _ hf h;clear a_1 a_2 a_3;rw[r1];refine kat_nil ?_;rw[hf];induction vs using b7<;>exact h|cons u us ih=>
   intro vs xs ys i r1 r2 k1 k2 ok hb hf h;obtain⟨x,xs,rfl,ru,r1⟩:=r1;induction vs using b7 with
    |nil=>rw[r2];refine kat_nil ?_;rw[hf];exact h|cons v vs=>
     obtain⟨y,ys,rfl,rv,r2⟩:=r2;have k1:=eU.cons k1;have k2:=eU.cons k2;have ok:=bM.mp ok;refine kat_cons (x9 prog w n hu k1.1 k2.1 ok.1 ru rv ?_);dsimp only[yg]at h;by_cases q:u=v;·rw[a0 q]at h;rw[c7 q];exact kat_yes (ih vs _ _ (i+1) r1 r2 k1.2 k2.2 ok.2 (λo x=>bA x (RI i)) (hf.trans (decide_eq_decide.mpr af8)) h)
     ·rw[aX q]at h;rw[dS q];refine kat_no ?_;clear ih r1 hf r2 q;cases yh:(b&&i==0)with
       |false=>exact kat_one _ _ (Vf prog w n hu k1.1 k2.1 ok.1 ru rv h)|true=>
        have yh:=bM.mp yh;clear ok;rcases hb yh.1 (eq_of_beq yh.2) u v rfl rfl with⟨a,c,rfl,rfl⟩|⟨a,c,rfl,rfl⟩;·obtain⟨_,rfl⟩:=ru;obtain⟨_,rfl⟩:=rv;exact oneLt_int h
        ·obtain⟨_,rfl⟩:=ru;obtain⟨_,rfl⟩:=rv;exact oneLt_str h
def intsAre_of(r:bB s.heap us xs)(h:∀u∈us,ej .int u):∃ns,SM xs ns:=by induction us generalizing xs with|nil=>subst r;exact⟨[],.nil⟩|cons u us ih=>obtain⟨x,xs,rfl,ru,r⟩:=r;obtain⟨ns,hn⟩:=ih r λx hx=>h x (bK _ hx);obtain⟨i,rfl⟩:=(h u aR).lD;obtain⟨t,rfl⟩:=ru;exact⟨i::ns,.cons i t hn⟩
def Wh(r:bB s.heap us xs)(h:∀u∈us,ej .str u):∃ns,StrsAre xs ns:=by induction us generalizing xs with|nil=>subst r;exact⟨[],.nil⟩|cons u us ih=>obtain⟨x,xs,rfl,ru,r⟩:=r;obtain⟨ns,hn⟩:=ih r λx hx=>h x (bK _ hx);obtain⟨i,rfl⟩:=(h u aR).lF;obtain⟨t,rfl⟩:=ru;exact⟨i::ns,.cons i t hn⟩
noncomputable def Fg:Sh->nN|.int=>"int"|.str=>"str"|.tup _=>"tuple"
def Wj(hv:ej sh v)(rx:aM s.heap v x):Jq (aU prog w) s.heap (kH x) (.type (Fg sh)):=by induction sh using Sh.casesOn with|int=>obtain⟨i,rfl⟩:=hv.lD;obtain⟨t,rfl⟩:=rx;exact As rfl|str=>obtain⟨i,rfl⟩:=hv.lF;obtain⟨t,rfl⟩:=rx;exact As rfl|tup g=>refine aq hv.tupI λvs bQ u=>?_;clear hv;subst bQ;refine fX rx λa i k bT e u=>?_;rw[bT];exact(show Jq (aU prog w) s.heap (kH (.ref _)) (cS "tuple")from(Jq.ld e).andThen .now)
def Wk(r:bB s.heap us xs)(h:∀u∈us,ej (.tup f) u/\u≠.tup []):∃fs,KatTups s.heap xs fs/\fs.length=us.length/\∀v∈fs,Jq (aU prog w) s.heap (kH v) (.type (Fg (f 0))):=by induction us generalizing xs with|nil=>rw[r];exact(bH ([]) .nil rfl (λo q=>by contradiction))|cons u us ih=>obtain⟨y,xs,rfl,ru,r⟩:=r;refine bL (ih r λx hx=>h x (bK _ hx)) λfs h1 h2 h3=>?_;refine bx (h u aR) λhs ff=>?_;refine aq hs.tupI λvs bQ hs=>?_;clear h;subst bQ;refine eS ru λa items k bT e z o=>?_;clear ru;rw[bT];induction vs using b7 with|nil=>exact bA rfl ff|cons v vs=>refine aq (z.get_some (i:=0) (v:=v) rfl) λx hx rx=>?_;exact(bH (x::fs) (.cons e rfl rfl (by exact jW▸hx) h1) (aO (·+1) h2) (λy hy=>(cg.mp hy).elim (λq=>q▸Wj (hs 0 v rfl) rx) (h3 y)))
def Wl(hb:(cS (Fg sh)!=cS "tuple")=ai)(hu:ej sh u)(hv:ej sh v):(∃a c,u=.int a/\v=.int c)\/∃a c,u=.str a/\v=.str c:=by induction sh using Sh.casesOn with|int=>obtain⟨i,rfl⟩:=hu.lD;obtain⟨j,rfl⟩:=hv.lD;exact .inl (eK _ _ rfl rfl)|str=>obtain⟨i,rfl⟩:=hu.lF;obtain⟨j,rfl⟩:=hv.lF;exact .inr (eK _ _ rfl rfl)|tup g=>exact bA hb (show¬(cS "tuple"!=cS "tuple")=ai by decide)
def Wm(hu:A.units+7<fA)(r:bB s.heap us xs)(h:∀u∈us,ej sh u/\bO 7 u=ai/\u≠.tup [])(h2:2<=us.length):∃κ,(∀Q:SortKind->aK->Prop,Q κ s->aY (aU prog w) A (keyKind' xs.toArray) Q (λo o=>dv) s)/\∀(u v:V)(x y:aF)(C:bw->aK->Prop),u∈us->v∈us->aM s.heap u x->aM s.heap v y->C (eX u v) s->aY (aU prog w) A (keyLt' κ x y) C (λo o=>dv) s:=by
 obtain⟨x1,x2,xr,rfl⟩:∃x1 x2 xr,xs=x1::x2::xr:=by have hl:=r.length;match xs,hl with|x1::x2::xr,_=>exact(pd _ _ _ rfl)|[x],hl=>exact bA (show 2<=1 from bG h2 (e9 hl.symm)) (by decide)|[],hl=>exact bA (show 2<=0 from bG h2 (e9 hl.symm)) (by decide)
 induction sh using Sh.casesOn with|int=>obtain⟨ns,hn⟩:=intsAre_of r λu hu=>(h u hu).1;refine⟨oneType',λQ q=>xJ (keyKind_ints hn) q,λu v x y C hu hv ru rv hc=>?_⟩;obtain⟨a,rfl⟩:=(h u hu).1.lD;obtain⟨c,rfl⟩:=(h v hv).1.lD;obtain⟨_,rfl⟩:=ru;obtain⟨_,rfl⟩:=rv;exact kat_lt_int hc|str=>obtain⟨ns,hn⟩:=Wh r λu hu=>(h u hu).1;refine⟨oneType',λQ q=>xJ (keyKind_strs hn) q,λu v x y C hu hv ru rv hc=>?_⟩;obtain⟨a,rfl⟩:=(h u hu).1.lF;obtain⟨c,rfl⟩:=(h v hv).1.lF;obtain⟨_,rfl⟩:=ru;obtain⟨_,rfl⟩:=rv;exact kas_lt_str hc|tup f=>refine bL (Wk (prog:=prog) (w:=w) r λu hu=>⟨(h u hu).1,(h u hu).2.2⟩) λfs h3 h4 h5=>?_;refine(aA _ (λQ q=>kat_kind h3 (l2 1148905063089 h2 h4) h5 (by cases f 0<;>rfl) q) (λu v x y C uh m6 ru rv hc=>?_));refine gf (h u uh) λs1 k1 n1=>?_;refine gf (h v m6) λs2 k2 n2=>?_;refine aq s1.tupI λhW bQ s1=>?_;clear h2 r h h3 h4 h5 uh m6 n1 n2;subst bQ;refine aq s2.tupI λgG bQ s2=>?_;subst bQ;refine eS ru λa items k bT e z o=>?_;rw[bT];refine eS rv λb ahD k' bT e' z' o=>?_;rw[bT];exact kat_lt e rfl e' rfl (Wg (n:=6) ((Ir hu)) hW gG _ _ 0 z z' k1 k2 (Lp (.tup f) s1 s2) (λhb o u v e1 e2=>Wl hb (s1 0 u (afR ..▸e1)) (s2 0 v (afR ..▸e2))) (by simp only[←fh,z.length,z'.length]) hc)
def r8(us vs:ag V):Prop:=vs.Perm us/\vs.Pairwise λa b=>eX b a=aD
def Wn(h:∀u∈us,ej sh u)(h1:1<=us.length)(hl:xs.length=us.length)(hk:∀i j,i<us.length->j<us.length->∀C:bw->aK->Prop,C (eX (us.getD i .none) (us.getD j .none)) s->kas_ask prog w A κ xs i j C s)(hR:∀p:b9 aa,r8 us (p.toList.map λi=>us.getD i .none)->(∀i∈p.toList,i<us.length)->R p s):(kas_sort xs.length).kasWp (kas_ask prog w A κ xs) R s:=by
 rw[hl];have hd:∀i,ej sh (us.getD i (us.getD 0 .none)):=λi=>by
  have h0:us.getD 0 .none∈us:=by rw[zX,gy (h1)];simp
  by_cases q:i<us.length;·rw[zX,gy q];exact h _ (by simp)
  ·rw[zX,nD ((sZ q))];exact h _ h0
 let f:aa->(Lq sh).α:=λi=>⟨us.getD i (us.getD 0 .none),hd i⟩;have ef:∀i,i<us.length->(f i).1=us.getD i .none:=λi hi=>by show us.getD i (us.getD 0 .none)=_;simp[hi]
 refine Lg (n:=us.length) (c:=λi j=>eX (us.getD i .none) (us.getD j .none)) hk ?_;refine V9 (O:=Lq sh) (f:=f) (λi j hi hj=>?_) h1 λp hp hs=>hR p (dD ?_ ?_) λi hi=>dT.mp (hp.mem_iff.mp hi);·refine(?_:_=eX (f i).1 (f j).1);rw[ef i hi,ef j hj]
 ·have:(p.toList.map λi=>us.getD i .none).Perm ((bS us.length).map λi=>us.getD i .none):=hp.map _;have e:(bS us.length).map (λi=>us.getD i .none)=us:=by apply Iy (by simp);intro i h1 h2;simp[gy h2]
  rwa [e]at this
 ·rw[jX,afK];intro i j hi hj iU;have j5:j<us.length:=by simp only[fh,hp.size]at hj;exact hj
  have:=hs i j (bF iU) j5;have gi:∀k(hk:k<p.toList.length),p.getD k 0=p.toList[k]:=λk hk=>by dsimp only[fh]at hk;simp[rD,hk]
  have Lr:eX (f (p.getD j 0)).1 (f (p.getD i 0)).1=aD:=this;rw[ef _ (hp.lt j5),ef _ (hp.lt ((df iU j5))),gi j hj,gi i hi]at Lr;exact Lr
variable{K:cJ}{r:aa}{env:bI}{loc:Loc}{st:aE}{P:bE}
def Wo{D n:aa}(hu:A.units+7<fA)(F:aH w P s env loc st)(hD:s.heap.get? D=af (listOf xs.toArray n))(hL:D≠env.locals)(rx:bB s.heap us xs)(hs:∀u∈us,ej sh u/\bO 7 u=ai)(ff:2<=us.length->∀u∈us,u≠.tup [])(pg:us.length<64)(h:∀h' vs c ys t,(∀b o,b≠D->b≠env.locals->s.heap.get? b=af o->h'.get? b=af o)->(∃m,h'.Ns env.locals m/\∀x v,loc x=af v->env.kindOf x=af .local->∃y,m x=af y/\aM h' v y)->h'.get? D=af (listOf ys c)->bB h' vs ys.toList->r8 us vs->Pp (.done (.ret .none)) {s with heap:=h',toks:=t}):aY (aU prog w) A (Builtin.«list.sort» ⟨[.ref D],[]⟩) Pp E s:=by
 have hl:=rx.length;refine fV F.A6 λm post Fm N hp jw=>?_;have Fh:∀{o:cY},s.heap.get? D=af o->o.cls≠.type "tuple":=λ{o}e=>by rw[hD]at e;rw[←bR e];exact(by decide:cS "list"≠cS "tuple")
 by_cases h2:2<=us.length;·
  have ud:∀p∈post.filter (λp=>p.1 !=D),p.1≠D:=λp hp=>by simpa using(gM.mp hp).2
  refine kat_list_sort Fm (λp hp=>N p (gM.mp hp).1) hD hL rfl ud ((hl▸h2)) ((br (e9 hl) pg)) λe1 h1 F1 N1=>?_;have kp:=λb o q1 q2 e=>(N1 (b,o) (.tail _ (gM.mpr ⟨hp b o e q2,by simpa using q1⟩))).1;have Ls:=rx.keep (λb o i k e c dd=>kp b o (λq=>Fh (q▸e) c) (F.x8 e dd) e);obtain⟨κ,hκ,Wq⟩:=Wm (prog:=prog) (A:=A) (s:={s with heap:=h1}) (sh:=sh) hu Ls (λu hu=>⟨(hs u hu).1,(hs u hu).2,ff h2 u hu⟩) h2;refine hκ _ (Wn (us:=us) (sh:=sh) (λu hu=>(hs u hu).1) ((bF h2)) hl (λi j hi hj C hc=>?_) λp Lu me=>?_);·
   have g:∀k,k<us.length->us.getD k .none∈us/\aM h1 (us.getD k .none) (xs.getD k DN):=λk hk=>by have e:=gy hk;refine aq (Ls.get_some e) λx hx rr=>?_;simp only[zX,e,hx];exact⟨by simp,rr⟩
   exact Wq _ _ _ _ C (g i hi).1 (g j hj).1 (g i hi).2 (g j hj).2 hc
  ·refine KasFin.intro F1 N1 (.head ud) λh' c F' N'=>?_;have Lv:=λb o q1 q2 e=>(N' (b,o) (.tail _ (gM.mpr ⟨hp b o e q2,by simpa using q1⟩))).1;have r9:cK s.heap h':=λb o i k e c dd=>Lv b o (λq=>Fh (q▸e) c) (F.x8 e dd) e;have Bs:=(N' _ (.head _)).1;refine h h' (p.toList.map λi=>us.getD i .none) c (ag4 (p.toList.map λi=>xs.getD i DN)) s.toks Lv (aA m F'.ns (λx v e k=>let⟨y,a,b⟩:=jw x v e k;(aA y a (b.keep r9)))) Bs ?_ Lu;clear Lu Bs N';generalize p.toList=l at me;induction l with|nil=>exact .nil|cons i l ih=>have hi:=me i aR;have e:=gy hi;refine aq ((rx.keep r9).get_some e) λx hx rr=>?_;refine .cons ?_ (ih λj hj=>me j (bK _ hj));simp only[zX,e,hx];exact rr
 ·have yj:xs.toArray.size<2:=by exact l2 2957104599299 hl h2
  dsimp only[list_sort_plain];refine wb (listItems_at hD rfl ?_);refine cD (ahv hD rfl ?_ (by exact bF (bj yj (aL rfl))) (cF _));obtain⟨e1,Lw⟩:∃e1,(s.heap.update D (qc λz=>(#[]:b9 aF))).get? D=af (rF "list" #[] e1):=⟨_,ahj hD λz=>#[]⟩;refine wb (seqEpoch_at Lw rfl ?_);refine wb (RY ?_ (by exact DO▸(bF (bj yj (aL rfl)))));refine wb (Sb ?_ (cF _));refine dU ?_;rw[a0 yj,a0 yj];refine wb (aG ?_);refine cD (aG ?_);dsimp only;have Fj:(((s.heap.update D (qc λz=>(#[]:b9 aF))).push (rF "tuple" xs.toArray 0)).push (rF "list" #[] 0)).get? D=af (rF "list" #[] e1):=cB _ (cB _ Lw);have Wr:(arrOf (SortSt.mk' general' (xs.toArray.zip xs.toArray) #[] 7 ah)).map (·.2)=xs.toArray:=by apply Rz.mp;rw[Array.toList_map,Array.toList_zip];exact List.map_snd_zip (bq _)
  refine wb (seqEpoch_at Fj rfl ?_);rw[Wr];refine wb (ahv Fj rfl ?_ (cF _) (by exact Ru▸DO▸(bF (bj yj (aL rfl)))));rw[aX (by simp)];have kp:∀b o,b≠D->s.heap.get? b=af o->((((s.heap.update D (qc λz=>(#[]:b9 aF))).push (rF "tuple" xs.toArray 0)).push (rF "list" #[] 0)).update D (qc λz=>xs.toArray)).get? b=af o:=λb o q e=>(mK _ _ (nJ q)).trans (cB _ (cB _ ((mK _ _ (nJ q)).trans e)));have tk:cK s.heap _:=λb o i k e c dd=>kp b o (λq=>Fh (q▸e) c) e;refine fX Fm.ns λoL rQ rR eL dL zL=>?_;refine aG (h _ us _ xs.toArray s.toks (λb o q z e=>kp b o q e) (aA m ⟨oL,rQ,rR,kp _ _ (nJ hL) eL,dL,zL⟩ (λx v e k=>let⟨y,a,b⟩:=jw x v e k;(aA y a (b.keep tk)))) (ahj Fj _) (by simpa using rx.keep tk) ⟨.refl _,?_⟩);match us,h2 with|[],_=>exact .nil|[u],_=>simp|_::_::_,h2=>simp at h2
end
end
section
variable [dq:Hid]
section
variable{prog:cx}{w:aZ}{K:cJ}{r:aa}{env:bI}{loc:Loc}{st:aE}{A:cQ}{P:bE}{s:aK}{E:aF->aK->Prop}
def aH.Ws{fp:ag aa}(F:aH w P s env loc st)(k:∀b x,b∉fp->b≠env.locals->s.heap.get? b=af x->h'.get? b=af x)(hm:∃m,h'.Ns env.locals m/\∀x v,loc x=af v->env.kindOf x=af .local->∃y,m x=af y/\aM h' v y)(off:∀b∈fp,Off P env st b)(nt:∀b∈fp,∃o,s.heap.get? b=af o/\o.cls≠.type "tuple")(t:aa):aH w P {s with heap:=h',toks:=t} env loc st/\cK s.heap h':=by
 have tk:cK s.heap h':=λb o i n e c d=>k b o (λq=>by refine aq (nt b q) λo' e' c'=>?_;rw[e]at e';injection e' with zc;subst zc;exact c' c) (F.x8 e d) e;refine fX F.ns.choose_spec.1 λoL rQ rR eL dL j=>?_;have Wu:∀x c,(x,c)∈env.cells->c≠env.locals:=λx c hc q=>by refine eR (F.cell x c hc) λv o h1 h2=>?_;rw[q,eL]at h1;injection h1 with zc;subst zc;rw[h2]at dL;contradiction
 have kc:∀{x c v},(x,c)∈env.cells->s.heap.IsCell c v->h'.IsCell c v:=λ{x c v}hc zf=>aq zf λo h1 h2=>(aA o (k _ _ ((λhc q=>(off _ q).2.2.2 _ hc) hc) (Wu x c hc) h1) h2);exact⟨{F with keep:=λb o e=>k _ _ ((λe q=>by rw[(off _ q).1]at e;nomatch e) e) (λq=>by rw[q,F.lx]at e;nomatch e) (F.keep b o e),obj:=λb x e=>by refine aq (F.obj b x e) λro u v=>?_;exact(aA ro (k _ _ ((λe q=>by rw[(off _ q).2.1]at e;nomatch e) e) (λz=>by rw[z,F.lst]at e;nomatch e) u) (v.keep tk)),ns:=hm,cells:=λx v p q=>let⟨c,y,u,t,z⟩:=F.cells x v p q;(bZ c y u (kc (mem_of_lookup u) t) (z.keep tk)),cell:=λx c hc=>let⟨v,hv⟩:=F.cell x c hc;(gE v (kc hc hv))},tk⟩
def aH.draw(F:aH w P s env loc st)(d:Drawn):aH w P {s with drawn:=d} env loc st:={F with keep:=F.keep,apart:=F.apart,obj:=F.obj,os:=F.os,gens:=F.gens}
def jx(prog:cx)(w:aZ)(st:aE)(u:V)(us:ag V):Prop:=∀{A:cQ}{P:bE}{s:aK}{env:bI}{loc:Loc}{x:aF}{Q:ag aF->aK->Prop}{E:aF->aK->Prop},A.handled=ah->aH w P s env loc st->aM s.heap u x->(∀h' tk dr xs hW,(∀b o,s.heap.get? b=af o->h'.get? b=af o)->hW.Perm us->bB h' hW xs->Q xs {s with heap:=h',toks:=tk,drawn:=dr})->aY (aU prog w) A (collect x) Q E s
def jx.list{a:aa}{us:ag V}(h:st a=af (.list us))(hz:us.length<=16777216):jx prog w st (.ref a) us:=λ{A P s env loc x Q E}u F rx hQ=>by rw[rx];refine ba (F.toSRel.list h) λitems n e z hl=>?_;have kk:∀b o,s.heap.get? b=af o->((s.heap.push (rF "list" #[] 0)).update s.heap.objs.size (qc (·++items.toList.toArray))).get? b=af o:=λb o q=>(mK _ _ (jY (dW q))).trans (cB _ q);exact collect_list (vs:=items.toList) (by simpa using fO e) (hQ _ s.toks s.drawn _ _ kk (.refl _) (z.keep λb o u u q u u=>kk b o q)) (by exact z.length▸j8▸hz)
def Lx{d:aa}{ds:ag DV}{ep:aa}(lo:(d==DQ)=aD):KdlSrc prog w "dict" d d ds.length (λi v=>∃e,ds[i]?=af e/\v=e.key) (λh=>h.get? d=af (jG ds ep))where
 type:=λu hm=>(aA _ hm rfl)
 there:=λu hm=>⟨dW hm,dW hm⟩
 keep:=λu u hm hk=>hk d (.inl rfl) _ hm
 notList:=by decide
 notTuple:=by decide
 hint:=λu u u u hm hq=>kdl_hint_dict (aA _ hm rfl) hq
 iter:=λA s hh hm=>(bZ _ (λi h=>h.IsKeyIter s.heap.objs.size d i ds.length ep/\h.get? d=af (jG ds ep)) (λu u hq=>V' lo hm hq) ({sub:=λb hb=>by simp at hb;simp[hb],frame:=λu u u st hk=>⟨st.1.at λo e=>hk _ (by simp) o e,hk d (by simp) _ st.2⟩,item:=λi s' Q E hi st hQ=>by refine Wa st.1 st.2 (gy hi) λh' lB hV=>?_;exact hQ _ h' s'.toks (aA _ (gy hi) rfl) ⟨lB,(hV.2 d (cV (dW hm))).trans st.2⟩ λb o hb e=>hV.extBut b o (λh=>hb (by simp[h])) e,done:=λs' Q E st hQ=>Wc hh st.1 st.2 (by simp) λh' t7=>hQ h' s'.toks λb o hb e=>t7 b o (λh=>hb (by simp[h])) e,self:=λu u u u st hQ=>wpAny_pyIter_keyiter st.1 hQ}) ⟨(bH _ (eG _ rfl) rfl rfl),cB _ hm⟩)
def jx.dict(h:st d=af (.dict es))(hz:es.length<=16777216):jx prog w st (.ref d) (es.map (·.1)):=λ{A P s env loc x Q E}hh F rx hQ=>by
 rw[rx];refine fV (F.toSRel.dict h) λds n e z nd lo=>?_;have hl:=z.length;refine kdu_collect (Lx (ds:=ds) (ep:=n) lo) hh e (by exact hl▸j8▸hz) λh' tk acc hk pA=>hQ h' tk s.drawn _ _ hk (.refl _) ?_;have z':=z.keep λb o u u q u u=>hk b o q;have hsz:acc.toList.length=ds.length:=by exact pA.1
 have eu:acc.toList=ds.map (·.key):=by apply Iy (by simp[hsz]);intro i h1 h2;refine aq (pA.2 i acc.toList[i] (by simp at h1⊢)) λe he hv=>?_;rw[hv,RE];have:=(iQ.mp he).2;rw[this]
 rw[eu];clear eu hsz pA hz nd e hl z h hQ;induction z' with|nil=>exact .nil|cons a _ _ _ ih=>exact .cons a (ih)
def yk(hc:jx prog w st u us)(hs:∀u∈us,ej sh u/\bO 7 u=ai)(ff:2<=us.length->∀u∈us,u≠.tup [])(pg:us.length<64)(h:∀b vs,st b=ah->r8 us vs->Q (.ref b) (st.put b (.list vs))):OV prog w K (r+1) env (λxs=>dR (.builtin "sorted") xs) [u] loc st Q:=λA P s xs a y F rx=>by refine ba rx λy y aC ru rn=>?_;rw[aC];rw[rn];refine Calls.call_function_entry kind_sorted plain_sorted entry_sorted (args_sorted1 _) ?_;refine wb (m:=checkCount "sorted" 1 1 _) (aG ?_);refine wb (hc (show A.in1.handled=ah from a.handled) F ru λh1 tk dr xs hW hk pm rx=>?_);refine wb (Sb ?_ (by rw[(rx.length.trans pm.length_eq)];exact bF (bj pg (aL rfl))));have F1:=((F.grow hk).tok tk).draw dr;have F2:=F1.grow (h':=h1.push (rF "list" xs.toArray 0)) λb o q=>cB _ q;refine kM (F1.beyond (bq _)) λb1 b2 b3 b4 b5=>?_;have hD:(h1.push (rF "list" xs.toArray 0)).get? h1.objs.size=af (rF "list" xs.toArray 0):=eG _ rfl;refine wb (dU (jj slot_list_sort (aA _ hD rfl) entry_list_sort ?_ (args_list_sort _)));refine Wo (P:=P) (loc:=loc) (st:=st) (env:=env) (sh:=sh) (by have:=a.units;refine(?_:A.units+1+1+7<_);exact l2 0x26ac4a7b0dd9826ac4a1d1e2c092 this) F2 hD b3 (rx.keep λb o y y q y y=>cB _ q) (λu hu=>hs u (pm.mem_iff.mp hu)) (λq u hu=>ff (pm.length_eq▸q) u (pm.mem_iff.mp hu)) (pm.length_eq▸pg) λh' vs c ys t Wv hm Bs Ww Ly=>?_;refine(aA .none rfl (aG ⟨_,rfl,.ref h1.objs.size,st.put h1.objs.size (.list vs),.ref _,?_,h _ _ b1 ⟨Ly.1.trans pm,Ly.2⟩⟩));refine bx (F2.Ws (fp:=[h1.objs.size]) (h':=h') (λb o q1 q2 e=>Wv b o (by simpa using q1) q2 e) hm (λb hb=>by exact(by simpa using hb)▸((ip b2 b1 b3 b4))) (λb hb=>by rw[(by simpa using hb:b=h1.objs.size)];exact(aA _ hD ((by decide:cS "list"≠cS "tuple")))) t) λF3 y=>?_;exact F3.adopt b5 b2 b3 b4 Bs (eK ys c rfl Ww)
end
end
section
variable [dq:Hid]
inductive mu(h:cL):ag (V×V)->ag (aI×aF)->Prop|nil:mu h [] []|cons{k v x es gu}:aM h v x->mu h es gu->mu h ((.str k,v)::es) ((k,x)::gu)
def mu.keep(k:cK h h')(r:mu h es gu):mu h' es gu:=by induction r with|nil=>exact .nil|cons a _ ih=>exact .cons (a.keep k) ih
def mu.length(r:mu h es gu):gu.length=es.length:=by induction r with|nil=>rfl|cons _ _ ih=>simp[ih]
def mu.keys(r:mu h es gu):es.map (·.1)=(gu.map (·.1)).map V.str:=by induction r with|nil=>rfl|cons _ _ ih=>simp[ih]
def StrKeys(es:ag (V×V)):Prop:=∀p∈es,∃k,p.1=.str k
section
variable{prog:cx}{w:aZ}{K:cJ}{r:aa}{env:bI}{loc:Loc}{st:aE}{A:cQ}{P:bE}{s:aK}{E:aF->aK->Prop}
def toKV(z:eH w h es ds)(hs:StrKeys es):∃gu,mu h es gu/\Pairs (nH prog w) ds gu/\∀e∈ds,∃k,(nH prog w).is k e.key=ai/\e.hash=(nH prog w).hash k:=by
 induction z with
  |nil=>exact(bH ([]) .nil .nil (λu h=>by simp at h))|@cons k v kx x es ds a b c _ ih=>
   refine bL (ih λp hp=>hs p (bK _ hp)) λgu h1 h2 h3=>?_;obtain⟨k',eu⟩:=hs (k,v) aR;clear c a_1 ih hs;subst eu;obtain⟨t,rfl⟩:=a;have q:=jr k';refine(bH ((k',x)::gu) (.cons b h1) (.cons q rfl h2) (λe he=>?_));rcases cg.mp he with rfl|he;·exact(aA k' q rfl)
   ·exact h3 e he
def Wx(z:mu h es gu)(p:Pairs (nH prog w) ds gu)(hk:∀e∈ds,∃k,(nH prog w).is k e.key=ai/\e.hash=(nH prog w).hash k):eH w h es ds:=by induction z generalizing ds with|nil=>cases p;exact .nil|@cons k v x es gu a z ih=>cases p with|@cons e _ _ _ h1 h2 h3=>refine dh (afZ h1) λt ht=>?_;refine aq (hk e aR) λk' Lz Bt=>?_;have:k'=k:=(nH prog w).inj e.key k' k Lz h1;clear z h1 Lz;subst this;have:=ih h3 λe' t7=>hk e' (bK _ t7);obtain⟨eh,ek,ev⟩:=e;simp only at h2 ht Bt;rw[h2];rw[ht];rw[Bt];exact .cons (k:=.str k') (gE _ rfl) a rfl this
def SRel.Fl(F:SRel w P s st)(h:st d=af (.dict es))(hs:StrKeys es):∃gu ep,mu s.heap es gu/\s.heap.DictAt (nH prog w) d gu ep/\(d==DQ)=aD:=by refine fV (F.dict h) λds n e z nd lo=>?_;refine bL (toKV (prog:=prog) z hs) λgu h1 h2 h3=>?_;refine(bZ gu n h1 (S9 _ ds.toArray e (cM rfl rfl rfl) rfl (λe he=>h3 e (by simpa using he)) (by simpa using h2) ?_) lo);have:=h1.keys;rw[this]at nd;exact(jX.mp nd).imp λh q=>h (by rw[q])
def Wy(h1:st d=af (.dict es))(hs:StrKeys es)(hz:es.length<=16777216)(h:∀b,st b=ah->Q (.ref b) (st.put b (.dict es))):OV prog w K r env (λxs=>dR (.type "dict") xs) [.ref d] loc st Q:=λA P s xs a u F rx=>by refine ba rx λu u aC ru rn=>?_;rw[aC];rw[rn];rw[ru];refine ba (F.toSRel.Fl (prog:=prog) h1 hs) λgu ep z D lo=>?_;refine kt_call_dict (knd:=nH prog w) lo D.dictOf (by exact z.length▸j8▸hz) λh' D' hV=>?_;refine kM (F.beyond (bq _)) λb1 b2 b3 b4 b5=>?_;have kk:∀b o,s.heap.get? b=af o->h'.get? b=af o:=λb o q=>(hV.2 b (cV (dW q))).trans (cB _ q);refine Jt D' λo fD Wz ho hc hd hk hp hn=>?_;obtain⟨cl,di,da,sl⟩:=o;obtain⟨c1,c2,c3⟩:=hc;simp only at c1 c2 c3 hd;subst c1;subst c2;subst c3;subst hd;refine⟨_,_,.ref _,(F.grow kk).adopt (o:=.dict es) b5 b2 b3 b4 ho (bZ fD.toList Wz (by rfl) (Wx (prog:=prog) (z.keep λb o u u q u u=>kk b o q) hp λe he=>hk e (by simpa using he)) ?_),h _ b1⟩;rw[z.keys];exact(jX.mpr ((ah3 (λh q=>h (by clear h;cases q;rfl)) hn)))
def WB(h1:st d=af (.dict es))(hs:StrKeys es)(h:∀b,st b=ah->Q (.ref b) (st.put b (.items d))):OV prog w K r env (λxs=>dR (.builtin "dict.items") xs) [.ref d] loc st Q:=λA P s xs a u F rx=>by refine ba rx λu u aC ru rn=>?_;rw[aC];rw[rn];rw[ru];refine ba (F.toSRel.Fl (prog:=prog) h1 hs) λgu ep z D lo=>?_;refine kM (F.beyond (bq _)) λb1 b2 b3 b4 b5=>?_;refine call_meetsIn afE D.dictOf.typeIs PySem.F.entry_dict_items (PySem.F.args_dict_items_1 _) (meets_dict_items (nH prog w) d lo) (dD ⟨gu,D.dictOf⟩ ?_);exact⟨_,_,.ref _,(F.grow λb o q=>cB _ q).adopt (o:=.items d) b5 b2 b3 b4 (eG _ rfl) rfl,h _ b1⟩
def jx.items(hv:st v=af (.items d))(h1:st d=af (.dict es))(hs:StrKeys es)(hz:es.length<=16777216):jx prog w st (.ref v) (es.map λp=>.tup [p.1,p.2]):=λ{A P s env loc x Q E}hh F rx hQ=>by rw[rx];refine ba (F.toSRel.Fl (prog:=prog) h1 hs) λgu ep z D lo=>?_;refine aq (F.obj v _ hv) λro ev aC=>?_;subst aC;refine kdx_collect (knd:=nH prog w) hh (bH _ ev rfl rfl) D (by exact z.length▸j8▸hz) λh' tk as hk hl hG=>hQ h' tk s.drawn _ _ hk (.refl _) ?_;have z':=z.keep λb o u u q u u=>hk b o q;have hp:=hG.pairs;have jw:=hG.above;clear hG D hv ev z h1 hs hz hQ;induction z' generalizing as with|nil=>have:as=[]:=Q6.mp hl;rw[this];exact .nil|@cons k v x es gu a z' ih=>induction as using b7 with|nil=>simp at hl|cons b as=>refine fX (hp 0 b rfl) λkey k' x' e1 e2 e3=>?_;simp only[List.getElem?_cons_zero,Ib,Prod.mk.injEq]at e1;obtain⟨rfl,rfl⟩:=e1;obtain⟨t,rfl⟩:=afZ e2;refine .cons (.tup e3 (.cons (.str _ _) (.cons a .nil)) (F.tB (bF (jw b aR)))) (ih as (by simpa using hl) (λj c hc=>?_) λc hc=>jw c (bK _ hc));·refine fX (hp (j+1) c (by simpa using hc)) λkey k' x' e1 e2 e3=>?_;exact(rK key k' x' (by simpa using e1) e2 e3)
end
end
section
variable [dq:Hid]
section
variable{prog:cx}{w:aZ}{K:cJ}{r:aa}{env:bI}{loc:Loc}{st:aE}{A:cQ}{P:bE}{s:aK}{E:aF->aK->Prop}
def WC(h1:st a=af (.list us))(hz:us.length<=16777216)(h:∀b,st b=ah->Q (.ref b) (st.put b (.list us))):OV prog w K r env (λxs=>dR (.type "list") xs) [.ref a] loc st Q:=λA P s xs u u F rx=>by refine ba rx λu u aC ru rn=>?_;rw[aC];rw[rn];rw[ru];refine ba (F.toSRel.list h1) λitems n e z hl=>?_;refine kM (F.beyond (bq _)) λb1 b2 b3 b4 b5=>?_;refine aht (hsz:=by exact hl▸j8▸hz) a (.inl rfl) e rfl rfl λh' c' hk hD=>?_;exact⟨_,_,.ref _,(F.grow hk).adopt (o:=.list us) b5 b2 b3 b4 hD (eK items c' rfl (z.keep λb o u u q u u=>hk b o q)),h _ b1⟩
def WD(h1:st d=af (.dict es))(hz:es.length<=16777216)(h:∀b,st b=ah->Q (.ref b) (st.put b (.list (es.map (·.1))))):OV prog w K r env (λxs=>dR (.type "list") xs) [.ref d] loc st Q:=λA P s xs a u F rx=>by
 refine ba rx λu u aC ru rn=>?_;rw[aC];rw[rn];rw[ru];refine fV (F.toSRel.dict h1) λds n e z nd lo=>?_;have hl:=z.length;refine kM (F.beyond (bq _)) λb1 b2 b3 b4 b5=>?_;refine kdl_call (Lx (ds:=ds) (ep:=n) lo) a.handled e (by exact hl▸j8▸hz) λh' tk acc c' hk hD pA=>?_;refine⟨_,_,.ref _,((F.grow hk).tok tk).adopt (o:=.list (es.map (·.1))) b5 b2 b3 b4 hD (eK acc c' rfl ?_),h _ b1⟩;have z':=z.keep λb o u u q u u=>hk b o q;have hsz:acc.toList.length=ds.length:=by exact pA.1
 have eu:acc.toList=ds.map (·.key):=by apply Iy (by simp[hsz]);intro i h1 h2;refine aq (pA.2 i acc.toList[i] (by simp at h1⊢)) λe he hv=>?_;rw[hv,RE];have:=(iQ.mp he).2;rw[this]
 simp only[eu];clear eu hsz pA hz nd e hl z h1 h hD;induction z' with|nil=>exact .nil|cons a _ _ _ ih=>exact .cons a (ih)
def LA(h1:st a=af (.list us))(hz:us.length<=16777216)(h:Q (.tup us) st):OV prog w K r env (λxs=>dR (.type "tuple") xs) [.ref a] loc st Q:=λA P s xs u u F rx=>by refine ba rx λu u aC ru rn=>?_;rw[aC];rw[rn];rw[ru];refine ba (F.toSRel.list h1) λitems n e z hl=>?_;refine call_tuple_list (fO e) (λh' hk=>?_) (by exact hl▸j8▸hz);have k2:∀b o,s.heap.get? b=af o->(h'.push {cls:=.type "tuple",data:=.seq items}).get? b=af o:=λb o q=>cB _ (hk b o q);exact⟨_,st,.tup (eG _ rfl) (z.keep λb o u u q u u=>k2 b o q) ((F.grow hk).tB (bq _)),F.grow k2,h⟩
def LB(h:Q (.tup us) st):OV prog w K r env (λxs=>dR (.type "tuple") xs) [.tup us] loc st Q:=λA P s xs u u F rx=>by refine ba rx λu u aC ru rn=>?_;rw[aC];rw[rn];refine eS ru λu u u bT e z hx=>?_;clear aC;subst bT;exact call_tuple_same (fB e) ⟨_,st,ru,F,h⟩
def WG(h:∀b,st b=ah->Q (.ref b) (st.put b (.range 0 n))):OV prog w K r env (λxs=>dR (.type "range") xs) [.int n] loc st Q:=λA P s xs u u F rx=>by refine ba rx λu u aC ru rn=>?_;rw[aC];rw[rn];clear aC;obtain⟨_,rfl⟩:=ru;refine kM (F.beyond (bq _)) λb1 b2 b3 b4 b5=>?_;refine call_range_1 ?_;exact⟨_,_,.ref _,((F.grow λb o q=>cB _ q).tok _).adopt (o:=.range 0 n) b5 b2 b3 b4 (eG _ rfl) (pd _ _ _ rfl),h _ b1⟩
def WH(h:∀b,st b=ah->Q (.ref b) (st.put b (.range m n))):OV prog w K r env (λxs=>dR (.type "range") xs) [.int m,.int n] loc st Q:=λA P s xs u u F rx=>by refine ba rx λu u aC ru rn=>?_;rw[aC];obtain⟨_,_,rfl,rv,rn⟩:=rn;rw[rn];obtain⟨_,rfl⟩:=ru;obtain⟨_,rfl⟩:=rv;refine kM (F.beyond (bq _)) λb1 b2 b3 b4 b5=>?_;refine call_range_2 ?_;exact⟨_,_,.ref _,((F.grow λb o q=>cB _ q).tok _).adopt (o:=.range m n) b5 b2 b3 b4 (eG _ rfl) (pd _ _ _ rfl),h _ b1⟩
def WJ(us:ag V)(ns:ag bp):Prop:=us=ns.map V.int
def intsOf(e:WJ us ns)(r:bB h us xs):SM xs ns:=by subst e;induction ns generalizing xs with|nil=>rw[r];exact .nil|cons n ns ih=>refine ba r λu u aC a b=>?_;rw[aC];clear r aC;obtain⟨_,rfl⟩:=a;exact .cons _ _ (ih b)
def WK{ns:ag bp}(h1:st a=af (.list (ns.map V.int)))(ff:0<ns.length)(h:∀m,m∈ns->(∀a∈ns,a<=m)->Q (.int m) st):OV prog w K r env (λxs=>dR (.builtin "max") xs) [.ref a] loc st Q:=λA P s xs ao u F rx=>by refine ba rx λu u aC ru rn=>?_;rw[aC];rw[rn];rw[ru];refine ba (F.toSRel.list h1) λitems n e z hl=>?_;refine fV F.A6 λm post Fm N hp jw=>?_;refine max_list_N ao.handled Fm N (by simpa using fO e) (intsOf rfl z) ff λh' M t tk F' N' hm hb=>?_;exact⟨_,st,.int _ _,F.EA (λb x q e=>(N' _ (hp b x e q)).1) F'.ns jw tk,h M hm hb⟩
def WM{ns:ag bp}(h1:st a=af (.list (ns.map V.int)))(h:Q (.int ns.sum) st):OV prog w K r env (λxs=>dR (.builtin "sum") xs) [.ref a] loc st Q:=λA P s xs ao u F rx=>by
 refine ba rx λu u aC ru rn=>?_;rw[aC];rw[rn];rw[ru];refine ba (F.toSRel.list h1) λitems n e z hl=>?_;have hi:=intsOf (us:=ns.map V.int) rfl z;refine dh ((hi.allInts).items) λys e2=>?_;have e3:items=intItems ys:=by rw[←e2]
 clear h1 rx aC ru rn z hl e2;subst e3;refine sum_intListG ao.handled (fO e) λh' tk t' hk=>?_;have hs:preSum (numAt ys) ys.size=ns.sum:=by rw[preSum_eq,z7 (by simp),←hi.numsOf,nums_intItems]
 exact hs▸(⟨_,st,.int _ _,(F.grow hk).tok tk,h⟩)
end
end
section
variable [dq:Hid]
section
variable{prog:cx}{w:aZ}{K:cJ}{r:aa}{env:bI}{loc:Loc}{st:aE}{A:cQ}{P:bE}{s:aK}{E:aF->aK->Prop}
def ui(prog:cx)(w:aZ)(K:cJ)(r:aa)(env:bI)(o i v:V)(loc:Loc)(st:aE)(N:aE->Prop):Prop:=∀A P s x y z,dY A r->Gd K P.h->aH w P s env loc st->aM s.heap o x->aM s.heap i y->aM s.heap v z->aY (aU prog w) A (SI x y z) (λu s'=>∃ak,aH w P s' env loc ak/\N ak) (λu u=>dv) s
def WN(h:WE prog w K r env (bc e env) loc st λv aQ=>WE prog w K r env (bc o env) loc aQ λu bP=>WE prog w K r env (bc i env) loc bP λk ma=>ui prog w K r env u k v loc ma (N loc))(hs:aB (qd e (af (.Subscript o i pos')) pos.line env=pure aD) tR):WF prog w K r env (j3 (.Assign [.Subscript o i pos'] e pos) env) loc st N R:=λA P s a g F=>by rw[exec_Assign_Subscript _ _ _ _ _ hs];refine wb (lV (wb (h.use a g F λx s1 v aQ rv F1 z j=>wb ?_)));refine wb (dU (z.use a g F1 λy s2 u bP ru F2 z k2=>wb (dU (z.use a g F2 λq s3 k ma rk F3 z k3=>wb (lV (wb (dU ?_)))))));refine cC (z A P s3 y q x a g F3 (ru.keep k3.tup) rk ((rv.keep k2.tup).keep k3.tup)) (λj s4 z=>?_) λj j x=>x.elim;refine aq z λA0 F4 hN=>?_;exact wpAny_release (aG ⟨loc,A0,F4,hN⟩)
def ui.dict(h1:st d=af (.dict es))(kk:eM es k)(hz:es.length<=16777216)(h:N (st.put d (.dict (dt es k v)))):ui prog w K (r+1) env (.ref d) k v loc st N:=λA P s x y z a g F rd rk rv=>by rw[rd];exact Vp a F h1 rk rv kk hz λs' F'=>(aA _ F' h)
def ui.list{a:aa}{us:ag V}{i:aa}{v:V}{N:aE->Prop}(h1:st a=af (.list us))(hi:i<us.length)(hz:us.length<=16777216)(h:N (st.put a (.list (us.set i v)))):ui prog w K r env (.ref a) (.int i) v loc st N:=λA P s x y z ao g F rd rk rv=>by rw[rd];obtain⟨_,rfl⟩:=rk;refine ba (F.toSRel.list h1) λitems n e zz hl=>?_;refine ki_setAt (k:=(i:bp)) e (by lia) (by lia) (by lia) ?_;refine(aA _ (F.x7 (f:=λxs=>xs.setIfInBounds (i:bp).toNat _) (us:=us.set i v) h1 e (λh' tk=>?_)) h);rw[Array.toList_setIfInBounds];exact(zz.keep tk).set i (rv.keep tk)
def WO(h:WE prog w K r env (bc e env) loc st λu aQ=>∃vs,u=.tup vs/\ts.length=vs.length/\N (loc.ups ns vs) aQ)(hn:aB (namesOf env ts=af ns) tR)(hs:aB (Au [.Tuple ts x1 tpos] e pos.line env=pure aD) tR)(hw:aB (xF [.Tuple ts x1 tpos] e env=pure ah) tR):WF prog w K r env (j3 (.Assign [.Tuple ts x1 tpos] e pos) env) loc st N R:=λA P s a g F=>by refine Assign_Tuple (h.use a g F λx s1 u aQ ru F1 z o=>?_) hs hw;obtain⟨vs,rfl,hl,z⟩:=z;refine cC (Be (prog:=prog) (K:=K) (r:=r) (N:=N) hl z hn A P s1 x a g F1 ru) (λo s2 z=>?_) λo o x=>x;exact z
def WQ:∀{ns:ag aI}{vs:ag V}{xs:ag aF}{loc:Loc}{s:aK}{Q:kK->aK->Prop},(∀x∈ns,env.kindOf x=af .local\/env.kindOf x=af .cell)->ns.length=vs.length->aH w P s env loc st->bB s.heap vs xs->(∀s',aH w P s' env (loc.ups ns vs) st->Q () s')->aY (aU prog w) A (ahu (ns.map λn=>bindName env n) xs) Q (λu u=>dv) s:=by intro ns;induction ns with|nil=>intro vs xs loc s Q _ hl F rv hQ;exact ag3 (hQ s F)|cons n ns ih=>intro vs xs loc s Q hk hl F rv hQ;induction vs using b7 with|nil=>simp at hl|cons v vs=>refine ba rv λu u aC r1 r2=>?_;rw[aC];·refine agO (wpAny_bindName (cC (Eo (P:=bE.all env st s) (Q:=λu s'=>aH w (bE.all env st s) s' env (loc.up n v) st) F.all r1 (hk n aR) λs' F'=>F') (λu s' F'=>?_) λu u x=>x));exact ih (λx hx=>hk x (bK _ hx)) (by simpa using hl) (F.back F') (r2.keep (F.ly F')) λnO ug=>hQ nO ug
def bB.reverse(r:bB h vs xs):bB h vs.reverse xs.reverse:=by induction vs generalizing xs with|nil=>rw[r];exact .nil|cons v vs ih=>refine ba r λu u aC a b=>?_;rw[aC];simp only[List.reverse_cons];exact(ih b).append (.cons a .nil)
def LC(h:WE prog w K r env (bc e env) loc st λu aQ=>∃vs,u=.tup vs/\ns.length=vs.length/\N (loc.ups ns.reverse vs.reverse) aQ)(hw:aB (xF [.Tuple ts x1 tpos] e env=pure (af ns)) tR)(hs:aB (Au [.Tuple ts x1 tpos] e pos.line env=pure aD) tR)(hk:aB ((ns.all λx=>env.kindOf x==af .local||env.kindOf x==af .cell)=ai) tT):WF prog w K r env (j3 (.Assign [.Tuple ts x1 tpos] e pos) env) loc st N R:=λA P s a g F=>by refine Assign_Tuple_swapped (h.use a g F λx s1 u aQ ru F1 z _=>?_) hs hw;obtain⟨vs,rfl,hl,z⟩:=z;refine eS ru λ_ _ _ bT e zz hx=>?_;rw[bT];rename_i items k;rw[←(by rw[hl,←zz.length,fh]:items.size=ns.length)];refine unpackItems_tuple a.handled (fB e) λh' he=>?_;have kk:=λb o q=>he b o (cV (dW q)) q;refine WQ (vs:=vs.reverse) (λx hx=>?_) (by simpa using hl) (F1.grow kk) (zz.keep λb o _ _ q _ _=>kk b o q).reverse λs' F'=>⟨_,_,F',z⟩;have:=f7.mp hk x (ags.mp hx);simpa using this
def WR(ff:l≠it):∀(n i:aa)(s:aK)(Q:ag aF->aK->Prop),s.heap.IsListIter it l i->s.heap.IsList l items->i+n<=items.size->(∀h',h'.IsListIter it l (i+n)->s9 it s.heap h'->Q ((items.toList.drop i).take n) {s with heap:=h'})->aY (aU prog w) A (draw (.ref it) n) Q E s:=by intro n;induction n with|zero=>intro i s Q hit _ _ hQ;exact aG (by simpa using hQ s.heap hit (Rc ..))|succ n ih=>intro i s Q hit ht hle hQ;have iE:=(br (dE _ _) hle);refine wb (Rj hit ht (x:=items[i]) (by simp[iE]) λh₁ Fp lG=>?_);refine wb (dU (ih (i+1) _ _ Fp (ht.extBut lG.extBut ff) (l3 36342253867153 hle) λh₂ WU pB=>aG ?_));have:=hQ h₂ (by rw[show i+(n+1)=i+1+n by exact l2 4522627225];exact WU) (lG.trans pB);rw[(by simp[Dq,iE]:items.toList.drop i=items[i]::items.toList.drop (i+1))]at this;exact this
def WV(hh:A.handled=ah)(ht:s.heap.IsList t items)(hQ:∀h',(∀b o,s.heap.get? b=af o->h'.get? b=af o)->Q items.toList {s with heap:=h'}):aY (aU prog w) A (unpackItems (.ref t) items.size ah) Q E s:=by
 have iE:t≠s.heap.objs.size:=by refine aq ht λo ho u=>?_;exact cV (dW ho)
 refine wb ?_;·
  refine wb (xD ht.typeIs slot_list_iter.lookup ?_);refine aG ?_;refine wb (dU (RL ht ?_));refine cD (dU (WR iE items.size 0 _ _ (bH _ (eG _ rfl) rfl rfl) (ht.push _) (l1 2967) λh₁ Fp lG=>?_));have wh:List.take items.size (List.drop 0 items.toList)=items.toList:=by exact z7 (by simp)
  rw[wh];rw[aX (by simp)];refine cD (dU (Rk hh Fp ((ht.push _).extBut lG.extBut iE) (by simp) λh₂ WW=>?_));refine aG (hQ h₂ λb o e=>WW b o (cV (dW e)) (lG.extBut b o (cV (dW e)) (cB _ e)))
def WX(h:WE prog w K r env (bc e env) loc st λu aQ=>∃a vs,u=.ref a/\aQ a=af (.list vs)/\ts.length=vs.length/\N (loc.ups ns vs) aQ)(hn:aB (namesOf env ts=af ns) tR)(hs:aB (Au [.Tuple ts x1 tpos] e pos.line env=pure aD) tR)(hw:aB (xF [.Tuple ts x1 tpos] e env=pure ah) tR):WF prog w K r env (j3 (.Assign [.Tuple ts x1 tpos] e pos) env) loc st N R:=λA P s a g F=>by refine Assign_Tuple (h.use a g F λx s1 u aQ ru F1 z y=>?_) hs hw;obtain⟨l,vs,rfl,h1,hl,z⟩:=z;rw[ru];refine ba (F1.toSRel.list h1) λitems n e zz hz=>?_;refine gf (Kv hn) λq1 q2 q3=>?_;refine cD (lV ?_);delta unpack;simp only[q1,q2,hl,←hz];refine wb (dU (WV a.handled (fO e) λh' kk=>?_));exact Kw hn hl (F1.grow kk) (zz.keep λb o y y q y y=>kk b o q) λs' F'=>⟨_,_,F',z⟩
def WY(bJ:aa->Loc->aE->Prop)(n:aa)(i0:bJ n loc st)(jI:∀n cu ak,bJ n cu ak->WT prog w K r env (fe test env (bc test env)) cu ak λb aQ=>if b then WF prog w K r env (mV body env) cu aQ (λt8 bP=>∃m,m<n/\bJ m t8 bP) R else N cu aQ):WF prog w K r env (j3 (.While test body [] pos) env) loc st N R:=λA P s a g F=>by refine wpAny_While ?_;refine codeAny_whileLoop (λn s'=>∃cu ak,bJ n cu ak/\aH w P s' env cu ak) ?_ n (eK loc st i0 F);intro n s' zi;refine eR zi λcu ak hi F'=>?_;refine cC (jI n cu ak hi A P s' a g F') (λb s1 z=>?_) λu u x=>x.elim;obtain⟨aQ,F1,z⟩:=z;induction b with|false=>exact IH ⟨cu,aQ,F1,z⟩|true=>refine cC (z A P s1 a g F1) (λf s2 z=>?_) λu u x=>x.elim;induction f with|next=>obtain⟨t8,bP,F2,m,hm,hI⟩:=z;exact(aA m hm (eK t8 bP hI F2))|ret v=>exact z|brk=>exact z.elim|cont=>exact z.elim
end
end
section
variable [dq:Hid]
def ahF(C:aa)(rest:ag aF)(kw:ag (aI×aF)):(ag2 "type.__call__" ⟨.ref C::rest,kw⟩).weight=1:=by kernel_rfl
def ahG(C:aa)(rest:ag aF)(kw:ag (aI×aF)):(ag2 "type.__call__" ⟨.ref C::rest,kw⟩).cUnits=1:=by kernel_rfl
section
variable{prog:cx}{w:aZ}{K:cJ}{r:aa}{env:bI}{loc:Loc}{st:aE}{A:cQ}{P:bE}{s:aK}{E:aF->aK->Prop}
def dY.make(a:dY A (r+1))(C:aa)(rest:ag aF)(kw:ag (aI×aF)):dY (A.under (.builtin "type.__call__" ⟨.ref C::rest,kw⟩)) r:=⟨a.handled,by have:=a.depth;refine(?_:A.depth+_+_<_);exact l2 0x3e83a121c0d983e83a1d21c092 this,by have:=a.units;refine(?_:A.units+_+_<_);exact l2 0x26ac4a11e2c0d9826ac4a1d1e2c092 this⟩
def WZ{C fI:aa}(hm:makesIn K C=ai)(hi:th K (.ref C) "__init__"=af (af (.ref fI)))(hf:typeIn K (.ref fI)=af (.type "function"))(h:∀x dx,st x=ah->st dx=ah->x≠dx->Spec prog w K r fI (.ref x::vs) ((st.put dx (.attrs [])).put x (.inst C dx)) λv ak=>v=.none/\Q (.ref x) ak):OV prog w K (r+1) env (λxs=>dR (.ref C) xs) vs loc st Q:=λA P s xs a g F rx=>by obtain⟨n1,F1⟩:=F.new (o:=.attrs []) (ro:=emptyDict) rfl λh' u=>(bZ ([]) 0 rfl .nil (cF _));obtain⟨n2,F2⟩:=F1.new (o:=.inst C s.heap.objs.size) (ro:=SK C s.heap.objs.size) rfl λh' u=>rfl;dsimp only at F2 n2;rw[(mQ ..)]at F2 n2;refine Sw ?_;obtain⟨hh,gg,dd,tt,os⟩:=s;have g':=g.keeps F.keep;refine make_core (makes_of g'.dM hm) (looks_findIn g'.dM hi) (λself=>bind_fn g'.dM self hf) (.inl rfl) ?_;refine xH ((h (hh.objs.size+1) hh.objs.size (by rw[aE.gj (DE _)]at n2;exact n2) n1 (DE _)) _ (bE.rest _ _) _ (.ref (hh.objs.size+1)::xs) (a.make C xs []) (g.keeps F2.toSRel.sub) F2.toSRel.rest (.cons (.ref _) (rx.keep λb o u u q u u=>(λb o q=>cB _ (cB _ q)) b o q))) λres s' z=>?_;obtain⟨x,v,ak,rfl,rv,S',hv,z⟩:=z;subst hv;rw[rv];exact⟨rfl,_,ak,.ref _,F2.JJ S',z⟩
end
end
section
open PySem PySem.W PySem.Calls PyProof.Rows PySem.SeqAt
variable [dq:Hid]
section
variable{prog:cx}{w:aZ}{K:cJ}{r:aa}{env:bI}{loc:Loc}{st:aE}{A:cQ}{P:bE}{s:aK}{E:aF->aK->Prop}
def W4(hu:A.units+n<fA)(k1:bO n u=ai)(k2:bO n v=ai)(ok:fC u v=ai)(r1:aM s.heap u x)(r2:aM s.heap v y):EqAt A s x y (decide (u=v)):=λprog w E Q h=>x9 prog w n hu k1 k2 ok r1 r2 h
def bB.W5(z:bB h us xs)(hy:y∈xs):∃v∈us,aM h v y:=by
 induction us generalizing xs with
  |nil=>subst z;simp at hy|cons u us ih=>
   obtain⟨_,_,rfl,a,z⟩:=z;rcases cg.mp hy with rfl|hy;·exact(aA _ aR a)
   ·refine aq (ih z hy) λv hv rv=>?_;exact(aA v (bK _ hv) rv)
def bB.W6(z:bB h us xs)(hv:v∈us):∃y∈xs,aM h v y:=by
 induction us generalizing xs with
  |nil=>simp at hv|cons u us ih=>
   obtain⟨_,_,rfl,a,z⟩:=z;rcases cg.mp hv with rfl|hv;·exact(aA _ aR a)
   ·refine aq (ih z hv) λy hy ry=>?_;exact(aA y (bK _ hy) ry)
open Classical in def Bu{items:b9 aF}(hu:A.units+7<fA)(z:bB s.heap us items.toList)(ks:∀u∈us,bO 7 u=ai/\fC u k=ai)(kk:bO 7 k=ai)(rx:aM s.heap k x):∃e:aF->bw,(∀y,y∈items->EqAt A s y x (e y))/\items.any e=decide (k∈us):=by
 let e:aF->bw:=λy=>decide (aM s.heap k y);have key:∀y∈items.toList,∃v∈us,aM s.heap v y:=λy hy=>z.W5 hy;refine(aA e (λy hy=>?_) ?_);·
  refine aq (key y (Ri.mpr hy)) λv hv rv=>?_;have:=W4 hu (ks v hv).1 kk (ks v hv).2 rv rx;have e1:e y=decide (v=k):=by
   show decide (aM s.heap k y)=_;by_cases q:v=k;·rw[←q];simp[rv]
   ·rw[dS q,dS λz=>q (bO.inj (ks v hv).1 kk rv z)]
  exact e1▸this
 ·rw[agE,←Array.any_toList,Iz,AH];constructor;·intro zi;refine aq zi λy hy h=>?_;refine aq (key y hy) λv hv rv=>?_;have:aM s.heap k y:=gD h;exact(bO.inj kk (ks v hv).1 this rv)▸hv
  ·intro hk;refine aq ((λv hv=>z.W6 hv) k hk) λy hy ry=>?_;exact(aA y hy (c7 ry))
def W7(h1:st a=af (.list us))(ks:∀u∈us,bO 7 u=ai/\fC u k=ai)(kk:bO 7 k=ai)(h:Q (.bool (decide (k∈us))) st):dI prog w K (r+1) env (fJ .In) k (.ref a) loc st Q:=λA P s x y ao o F rk rd=>by rw[rd];refine ba (F.toSRel.list h1) λitems n e z hl=>?_;refine aq (Bu ao.nY z ks kk rk) λf h2 h3=>?_;exact in_listAt f (fO e) h2 (by exact h3▸(⟨_,st,.bool _,F,h⟩))
def W8(h1:st a=af (.list us))(ks:∀u∈us,bO 7 u=ai/\fC u k=ai)(kk:bO 7 k=ai)(h:Q (.bool (!decide (k∈us))) st):dI prog w K (r+1) env (fJ .NotIn) k (.ref a) loc st Q:=λA P s x y ao o F rk rd=>by rw[rd];refine ba (F.toSRel.list h1) λitems n e z hl=>?_;refine aq (Bu ao.nY z ks kk rk) λf h2 h3=>?_;exact notIn_listAt f (fO e) h2 (by exact h3▸(⟨_,st,.bool _,F,h⟩))
def W9(ks:∀u∈us,bO 7 u=ai/\fC u k=ai)(kk:bO 7 k=ai)(h:Q (.bool (!decide (k∈us))) st):dI prog w K (r+1) env (fJ .NotIn) k (.tup us) loc st Q:=λA P s x y ao o F rk rd=>by refine eS rd λo o o bT e z hx=>?_;rw[bT];refine aq (Bu ao.nY z ks kk rk) λf h2 h3=>?_;exact notIn_tupleAt f (fB e) h2 (by rw[h3];exact⟨_,st,.bool _,F,h⟩)
def W'(h1:st a=af (.list us))(h2:st b=af (.list []))(h:Q (.bool (decide (us=[]))) st):dI prog w K r env (fJ .Eq) (.ref a) (.ref b) loc st Q:=λA P s x y ao u F rk rd=>by
 rw[rd];rw[rk];refine ba (F.toSRel.list h1) λi1 n1 e1 z1 l1=>?_;refine ba (F.toSRel.list h2) λi2 n2 e2 z2 l2=>?_;by_cases q:us=[];·clear h1 h2 z1 z2;subst q;refine eq_listAt (e:=λu=>ai) (fO e1) (fO e2) (l1.trans l2.symm) ao.line (λj q=>(nG j (Dy q l1)).elim) ?_;exact l1▸(⟨_,st,.bool _,F,h⟩)
 ·rw[dS q]at h;exact eq_list_lengthsAt (fO e1) (fO e2) (bne_iff_ne.mpr λz=>q (vn (l1.symm.trans (z.trans l2)))) ao.line ⟨_,st,.bool _,F,h⟩
def Xa(h1:st a=af (.list us))(h2:st b=af (.list []))(h:Q (.bool (!decide (us=[]))) st):dI prog w K r env (fJ .NotEq) (.ref a) (.ref b) loc st Q:=λA P s x y ao u F rk rd=>by
 rw[rd];rw[rk];refine ba (F.toSRel.list h1) λi1 n1 e1 z1 l1=>?_;refine ba (F.toSRel.list h2) λi2 n2 e2 z2 l2=>?_;by_cases q:us=[];·clear h1 h2 z1 z2;subst q;refine RcNeAt.lists (e:=λu=>ai) (fO e1) (fO e2) (l1.trans l2.symm) ao.line (λj q=>(nG j (Dy q l1)).elim) prog w _ _ ?_;exact l1▸(⟨_,st,.bool _,F,h⟩)
 ·rw[dS q]at h;exact RcNeAt.lists_lengths (fO e1) (fO e2) (bne_iff_ne.mpr λz=>q (vn (l1.symm.trans (z.trans l2)))) ao.line prog w _ _ ⟨_,st,.bool _,F,h⟩
def Xb(h:Q (.bool aD) st):dI prog w K r env (fJ .NotEq) (.tup []) (.tup []) loc st Q:=λA P s x y ao u F rk rd=>by refine eS rk λu u u bT e1 z1 Xc=>?_;rw[bT];refine eS rd λu u u bT e2 z2 Ez=>?_;rw[bT];have l1:=z1.length;have l2:=z2.length;dsimp only[fh]at l1 l2;refine RcNeAt.tuples (e:=λu=>ai) (fB e1) (fB e2) ao.line (λj q1 q2=>by rw[l2]at q2;simp at q2) prog w _ _ ?_;exact l1.symm▸l2.symm▸(⟨_,st,.bool _,F,h⟩)
def Xd(h:Q (.bool (I3 x)) st):OV prog w K r env (λxs=>dR (.builtin "str.isspace") xs) [.str x] loc st Q:=λA P s xs u u F rx=>by refine ba rx λu u aC ru rn=>?_;rw[aC];rw[rn];clear aC;obtain⟨_,rfl⟩:=ru;exact SC.isspace ⟨_,st,.bool _,F,h⟩
def Meth.str{x:aI}{name:aI}{id:nN}(slot:vP "str" name id)(nU:kH (.builtin id)=pure (.type "method_descriptor")):Meth prog w K r env name (.str x) loc st (.builtin id):=by refine⟨.builtin,λA P s y pl R u u F ru hR=>?_⟩;obtain⟨_,rfl⟩:=ru;exact RN (typeIs_str _ _ _) PySem.F.plainAttrs_str slot nU (λb hb=>by contradiction) hR
def Xe(h:Q (.bool (IS x y)) st):dI prog w K r env (fJ .In) (.str y) (.str x) loc st Q:=λA P s a b u u F ra rb=>by obtain⟨_,rfl⟩:=ra;obtain⟨_,rfl⟩:=rb;exact SB.contains ⟨_,st,.bool _,F,h⟩
end
end
section
variable [dq:Hid]
section
variable{prog:cx}{w:aZ}{K:cJ}{r:aa}{env:bI}{loc:Loc}{st:aE}{A:cQ}{P:bE}{s:aK}{E:aF->aK->Prop}
def Xf(h:∀d,st d=ah->Q (.ref d) (st.put d (.dict []))):WE prog w K r env (bc (.Dict [] [] pos) env) loc st Q:=λA P s a g F=>by dsimp only[eval_Dict_empty];refine wb (lV ?_);refine bx (F.new (o:=.dict []) (ro:={cls:=.type "dict",data:=.dict #[]}) rfl λh' u=>(bZ ([]) 0 rfl .nil .nil)) λn1 F1=>?_;exact mM ⟨_,_,.ref _,F1,h _ n1⟩
def Xg(h:∀d,st d=ah->WE prog w K (r+1) env (bc kx env) loc (st.put d (.dict [])) λk aQ=>WE prog w K (r+1) env (bc vx env) loc aQ λv bP=>bP d=af (.dict [])/\bO 7 k=ai/\Q (.ref d) (bP.put d (.dict [(k,v)]))):WE prog w K (r+1) env (bc (.Dict [af kx] [vx] pos) env) loc st Q:=λA P s a g F=>by
 have e:bc (.Dict [af kx] [vx] pos) env=(do mU pos;dictDisplay ([(bc kx env,do let x←bc vx env;mU pos;pure x)].map λp=>(af p.1,p.2))):=by rfl
 rw[e,dictDisplay_pairs _ (by simp) (by simp)];refine wb (lV (wb ?_));refine bx (F.new (o:=.dict []) (ro:={cls:=.type "dict",data:=.dict #[]}) rfl λh' u=>(bZ ([]) 0 rfl .nil .nil)) λn1 F1=>?_;refine wb (wpAny_alloc ?_);refine wb (dU ?_);refine wb (wb ((h _ n1).use a g F1 λx s1 k aQ rk F2 z u=>?_));refine wb (dU (wb (z.use a g F2 λy s2 v bP rv F3 z k3=>?_)));refine gf z λhd kk hQ=>?_;refine wb (lV (aG (wb (dU (aG (aG ?_))))));refine dU ?_;rw[ID];refine wb (wb ?_);refine wb (Bd a.key F3 hd (rk.keep k3.tup) rv ⟨kk,λp hp=>by simp at hp⟩ (cF _) λs3 F4 u=>?_);refine aG ?_;exact aG (aG (aG (aG ⟨_,_,.ref _,F4,hQ⟩)))
end
end
section
open AutoSeq1 (wpAny_loadPart')
section
variable{prog:cx}{w:aZ}{A:cQ}{E:aF->aK->Prop}{s:aK}
def Xh(hit:nI s.heap it l i)(hl:Jr s.heap l items)(hx:items[i]?=af x)(hQ:∀h',nI h' it l (i+1)->s9 it s.heap h'->Q x {s with heap:=h'}):aY (aU prog w) A (afm (.ref it)) Q E s:=by refine bL (id hit) λo ho hc hd=>?_;refine bL hl λol wq u bg=>dh bg λnl uj=>?_;refine wb (sY (name:=qa "__next__") hit.typeIs Ip (jj Ip hit.typeIs agv ?_ (agH _)));refine(?_:aY _ _ (Jp (.ref it) 0>>=_) _ _ s);refine wb (o6 ho hd (x:=.ref l) rfl ?_);refine wb (o6 ho hd (x:=.int i 0) rfl ?_);refine cD (oW wq uj ?_);simp only[DB,hx];refine wb (IJ ho hd (by simp) (aG (aA x rfl (aG (hQ _ ?_ (vq ..))))));exact(bH _ (vo _ ho (af2 (Ik hd _))) ((agm ..).trans hc) (by rw[Ik hd];rfl))
def Xi(hh:A.handled=ah)(hit:nI s.heap it l i)(hl:Jr s.heap l items)(hx:items[i]?=ah)(hE:∀h' e,R9 it s.heap h'->(∃o,h'.get? e=af o/\o.cls=.type "StopIteration")->E (.ref e) {s with heap:=h'}):aY (aU prog w) A (afm (.ref it)) Q E s:=by
 refine bL (id hit) λo ho hc hd=>?_;refine bL hl λol wq u bg=>dh bg λnl uj=>?_;refine wb (sY (name:=qa "__next__") hit.typeIs Ip (jj Ip hit.typeIs agv ?_ (agH _)));refine(?_:aY _ _ (Jp (.ref it) 0>>=_) _ _ s);refine wb (o6 ho hd (x:=.ref l) rfl ?_);refine wb (o6 ho hd (x:=.int i 0) rfl ?_);refine cD (oW wq uj ?_);simp only[DB,hx];refine wb (jZ (wb (IJ ho hd (by simp) ?_)));refine wb ?_;refine wb (mM ?_ (by size_fits));refine wb (m:=R4 _ _) (xJ (a:=DN) (by first|rfl|(rfl;rfl)) ?_);refine mM ?_ (by size_fits);dsimp only[Je];refine wb (Sd ?_);first|rfl|simp only[hh]
 refine wb (aG (Sl ?_));exact hE _ _ (((vq ..).extBut.push _).push _) (aA _ (eG _ rfl) rfl)
def yl(hh:A.handled=ah)(it a:hJ)(ff:a≠it)(items:b9 aF):xP prog w A it [it,a] items.size (λi v=>items[i]?=af v) (λi h=>nI h it a i/\Jr h a items)where
 live:=λu u st=>let⟨o,ho,_⟩:=st.1;⟨o,ho⟩
 frame:=λu u u st hk=>⟨let⟨o,e,c⟩:=st.1;⟨o,hk it (by simp) o e,c⟩,let⟨o,e,c⟩:=st.2;⟨o,hk a (by simp) o e,c⟩⟩
 item:=λi s Q E hi st hQ=>by refine Xh st.1 st.2 (x:=items[i]) (by simp[hi]) λh' lB hV=>?_;exact hQ _ h' s.toks (by simp[hi]) ⟨lB,st.2.extBut hV.extBut ff⟩ hV
 done:=λs Q E st hE=>Xi hh st.1 st.2 (by simp) hE
def Xj(l:hJ)(items:b9 aF)(n:aa)(Xk:d6 hJ)(sl:b9 (d6 aF)):Meets (Builtin.«enumerate.__new__» ⟨[.type "enumerate",.ref l],[]⟩) (λu R s=>s.heap.get? l=af {cls:=.type "tuple",dict:=Xk,data:=.seq items n,slots:=sl}/\R (.ok (.ret (.ref (s.heap.push {cls:=.type "tuple_iterator",data:=.fields #[.ref l,.int 0 0]}).objs.size))) {s with heap:=(s.heap.push {cls:=.type "tuple_iterator",data:=.fields #[.ref l,.int 0 0]}).push {cls:=.type "enumerate",data:=.fields #[.none,.bool aD,.ref s.heap.objs.size,fy 0,.none,.none]}}):=.of_wp λprog w A R s h=>by
 obtain⟨hp,g,d,tk,os⟩:=s;refine bx h λhl h=>?_;have Fq:=sub_enumerate;have hL:agY (agK ⟨hp,g,d,tk,os⟩) l items:=(bH _ hl rfl (gE n rfl));wp_walk using IG hl,(λh=>wb (wpAny_stack_any λst=>aG (h _)):∀{c:aF}{Q:bw->aK->Prop}{E:aF->aK->Prop}{A:cQ}{s:aK},(∀b,Q b s)->aY (aU prog w) A (ahS c) Q E s);intro b;induction b;·wp_walk using IG hl,Iv hL;exact⟨_,rfl,h⟩
 ·wp_walk using IG hl,Iv hL;exact⟨_,rfl,h⟩
def Xl(hl:s.heap.get? l=af (gO items n))(h:∀h',IsEnum h' (s.heap.objs.size+1) s.heap.objs.size 0 .none->nI h' s.heap.objs.size l 0->h'.objs.size=s.heap.objs.size+2->(∀b o,s.heap.get? b=af o->h'.get? b=af o)->Q (.ref (s.heap.objs.size+1)) {s with heap:=h'}):aY (aU prog w) A (dR (.type "enumerate") [.ref l]) Q E s:=by
 refine callType_new PySem.F.called_enumerate (by decide) (PySem.F.typeCall_enumerate_1 _) (PySem.F.newCall_enumerate_1 _) (λobj=>PySem.F.args_object_init_2 obj _) PySem.F.entry_enumerate_new (Xj l items n ah #[]) ⟨hl,?_⟩;have hz:(s.heap.push {cls:=.type "tuple_iterator",data:=.fields #[.ref l,.int 0 0]}).objs.size=s.heap.objs.size+1:=mQ ..;rw[hz];have he:IsEnum ((s.heap.push {cls:=.type "tuple_iterator",data:=.fields #[.ref l,.int 0 0]}).push {cls:=.type "enumerate",data:=.fields #[.none,.bool aD,.ref s.heap.objs.size,fy 0,.none,.none]}) (s.heap.objs.size+1) s.heap.objs.size 0 .none:=by have:=eG (s.heap.push {cls:=.type "tuple_iterator",data:=.fields #[.ref l,.int 0 0]}) (o:={cls:=.type "enumerate",data:=.fields #[.none,.bool aD,.ref s.heap.objs.size,fy 0,.none,.none]}) rfl;rw[hz]at this;exact this
 refine⟨(aA _ he rfl),h _ he (bH _ (cB _ (eG _ rfl)) rfl rfl) (by rw[mQ,hz]) λb o x=>cB _ (cB _ x)⟩
end
noncomputable def qu(us:ag V):ag V:=us.mapIdx λi v=>.tup [.int i,v]
def LF(t:aT):Prop:=∃elts k pos,t=.Tuple elts k pos
section
variable [dq:Hid]
variable{prog:cx}{w:aZ}{K:cJ}{r:aa}{env:bI}{loc:Loc}{st:aE}{A:cQ}{P:bE}{s:aK}{E:aF->aK->Prop}
def kT.enum{e it a:aa}{us:ag V}{items:b9 aF}{n:aa}(Fs:e≠it)(Xm:a≠e)(Ft:a≠it):kT prog w e [e,it] (qu us) (λj=>iD) LF (λi h=>(∃old,IsEnum h e it i old)/\nI h it a i/\h.get? a=af (gO items n)/\bB h us items.toList)where
 frame:=λi h h'⟨⟨old,q1⟩,⟨o,q2,q3⟩,q4,q5⟩k tk=>(ip ⟨old,k e (by simp) _ q1⟩ ⟨o,k it (by simp) o q2,q3⟩ (tk _ _ _ _ q4 rfl rfl) (q5.keep tk))
 live:=λi h⟨⟨old,q1⟩,⟨o,q2,q3,_⟩,_⟩b hb=>by
  rcases cg.mp hb with rfl|hb;·exact(aA _ q1 ((by decide:cS "enumerate"≠cS "tuple")))
  ·obtain rfl:b=it:=by simpa using hb
   exact(aA o q2 (by rw[q3];decide))
 item:=λ{A P s env loc st i v Q E}hh F j⟨⟨old,q1⟩,q2,q3,q4⟩hv hQ=>by
  obtain⟨u,hu,rfl⟩:∃u,us[i]?=af u/\v=.tup [.int i,u]:=by delta qu at hv;rw[af6]at hv;cases q:us[i]? with|none=>rw[q]at hv;contradiction|some u=>rw[q]at hv;injection hv with zc;rw[←zc];exact(aA u rfl rfl)
  refine aq (q4.get_some hu) λx hx rx=>?_;have mv:items[i]?=af x:=by exact jW▸hx
  refine wpAny_pyNext_enum_itemD (yl (A:=A.in1) hh it a Ft items) q1 ⟨q2,fB q3⟩ ((sX.mp mv).1) Fs (by simp;exact⟨Fs,λq=>Xm q.symm⟩) λy h' tk hy ho gQ hT hsz hk=>?_;rw[mv]at hy;obtain rfl:=bR hy;refine bL q2 λo Xn Xo j=>?_;have kk:∀b o,b∉[e,it]->s.heap.get? b=af o->h'.get? b=af o:=λb o hb q=>hk b o (λz=>hb (by simp[z])) (λz=>hb (by simp[z])) q;have jN:cK s.heap h':=λb o i n e1 c j=>hk b o (λz=>by rw[z,q1]at e1;obtain rfl:=bR e1;exact bA c (show¬cS "enumerate"=cS "tuple"by decide)) (λz=>by rw[z,Xn]at e1;obtain rfl:=bR e1;rw[Xo]at c;exact bA c (by decide)) e1;have rv:aM h' (.tup [.int i,u]) (.ref s.heap.objs.size):=.tup hT (.cons (.int _ _) (.cons (rx.keep jN) .nil)) (F.tB (bq _));have ym:ir [e,it] s {s with heap:=h',toks:=tk+1}:=(eK h' (tk+1) rfl kk);refine hQ _ _ rv ym λgR Q' zf h2=>xS zf λelts k pos ht=>?_;rw[ht];refine wpAny_letOwnedTupleGo_enum ho λFu t7 hV=>?_;have k2:∀b o,b≠e->h'.get? b=af o->Fu.get? b=af o:=λb o q z=>(hV.2 b q).trans z;have pC:cK h' Fu:=λb o i n e1 c j=>k2 b o (λz=>by rw[z,ho]at e1;obtain rfl:=bR e1;exact bA c (show¬cS "enumerate"=cS "tuple"by decide)) e1;obtain⟨⟨o3,e3,c3⟩,_⟩:=gQ;exact h2 _ (rv.keep pC) (eK Fu (tk+1) rfl (λb o hb q=>k2 b o (λz=>hb (by simp[z])) (kk b o hb q))) (ip ⟨x,by simpa using t7⟩ ⟨o3,k2 it o3 Fs.symm e3,c3⟩ (pC _ _ _ _ (jN _ _ _ _ q3 rfl rfl) rfl rfl) ((q4.keep jN).keep pC))
 done:=λ{A P s env loc st Q E}hh F j⟨⟨old,q1⟩,q2,q3,q4⟩hQ=>by have hl:=q4.length;dsimp only[fh]at hl;rw[(by rw[hl];simp[qu]:(qu us).length=items.size)]at q1 q2;exact wpAny_pyNext_enum_endD (yl (A:=A.in1) hh it a Ft items) q1 ⟨q2,fB q3⟩ λh' he=>hQ _ (eK h' s.toks rfl (λb o hb q=>he b o (λz=>hb (by simp[z])) q))
 self:=λ{A s i Q E}zf hQ=>by obtain⟨⟨old,q1⟩,_⟩:=zf;exact agR q1 hQ
def Xp(hn:hH K fw x=af ah)(hb:vM x=af (.type "enumerate"))(Fv:x≠"__name__")(h:WL prog w K r env (o7 t) loc st λvs aQ=>∃us,vs=[.tup us]/\Q (qu us) (λ_=>iD) LF aQ)(hx:env.kindOf x=af .globalImplicit)(hd:(x==("__debug__":aI))=aD)(he:bc ce env=(do tc pos (←bc (.Name x p) env) [] t []))(hp:t.any (·.1)=aD)(hy:t=[]\/∃x l,t=(aD,x)::l):WI prog w K r env ce loc st Q:=λA P s a g F=>by
 rw[he];refine wb (A4 (prog:=prog) (w:=w) hn hb Fv hx hd A P s _ g F ?_);refine x6 a g F (fv:=[]) (first:=[]) .nil .type h (λxs s' vs ak rx _ F' z=>?_) hp hy;obtain⟨us,rfl,z⟩:=z;refine ba rx λ_ _ aC ru rn=>?_;rw[aC];rw[rn];refine eS ru λ_ _ _ bT eT zT hxT=>?_;rw[bT];rename_i l items n;refine Xl eT λh' h1 h2 h3 hk=>?_;refine agR h1 ?_;have off:∀b,s'.heap.objs.size<=b->Off P env ak b:=λb hb=>let⟨q1,q2,q3,q4,_⟩:=F'.beyond hb;(ip q2 q1 q3 q4);exact⟨_,[s'.heap.objs.size+1,s'.heap.objs.size],_,_,_,_,ak,rfl,kT.enum (us:=us) (items:=items) (n:=n) (a:=l) (DE _) (cV (oS (dW eT))) (cV (dW eT)),(ip ⟨_,h1⟩ h2 (hk _ _ eT) (zT.keep λb o _ _ q _ _=>hk b o q)),F'.grow hk,λb hb=>by
  rcases cg.mp hb with rfl|hb;·exact off _ (kE _)
  ·obtain rfl:b=s'.heap.objs.size:=by simpa using hb
   exact off _ (bq _),z⟩
end
end
section
section
variable{prog:cx}{w:aZ}{A:cQ}{E:aF->aK->Prop}{s:aK}
structure sa(z TI TO i1 i2:hJ):Prop where
 TIz:TI≠z
 TOz:TO≠z
 i1z:i1≠z
 i2z:i2≠z
 TITO:TI≠TO
 TIi1:TI≠i1
 TIi2:TI≠i2
 TOi1:TO≠i1
 TOi2:TO≠i2
 i12:i1≠i2
def Xq{Q:aF->aK->Prop}(D1:xP prog w A i1 m8 n1 P1 n7)(D2:xP prog w A i2 sf n2 P2 uk)(D:sa z TI TO i1 i2)(f1:z∉m8/\TO∉m8/\i2∉m8)(f2:z∉sf/\TO∉sf/\i1∉sf)(hz:kJ s.heap z TI TO .none)(iH:gC s.heap TI (.ref i1) (.ref i2))(iV:gC s.heap TO a b)(h1:n7 k s.heap)(h2:uk k s.heap)(hx:k<n1)(hy:k<n2)(hQ:∀x y h' tk,P1 k x->P2 k y->kJ h' z TI TO (fy s.heap.objs.size)->gC h' TO x y->n7 (k+1) h'->uk (k+1) h'->gC h' s.heap.objs.size x y->(∀c o,c≠z->c≠TO->c≠i1->c≠i2->s.heap.get? c=af o->h'.get? c=af o)->Q (.ref s.heap.objs.size) {s with heap:=h',toks:=tk}):aY (aU prog w) A (Builtin.«zip.__next__» ⟨[.ref z],[]⟩) (λfin s'=>∃v,fin=.done (.ret v)/\Q v s') E s:=by
 show aY _ _ (Jp (.ref z) 2>>=_) _ _ _;refine wb (o6 hz rfl (x:=.bool aD) rfl ?_);refine wb (o6 hz rfl (x:=.ref TI) rfl ?_);refine wb (oW iH rfl ?_);refine wb ?_;refine wb (o6 hz rfl (x:=.none) rfl (aG ?_));refine wb (jZ ?_);refine wb (o6 hz rfl (x:=.ref TO) rfl ?_);refine wb (pY hz (by simp) λh₁ uo lG=>?_);replace uo:kJ h₁ z TI TO .ellipsis:=uo;refine wb ?_;simp only[List.zipIdx_cons,List.zipIdx_nil,ID,List.forIn_nil];have Bv:∀{h h':cL}{c i:aa},s9 c h h'->c∉m8->n7 i h->n7 i h':=λ{h h' c i}sb hc st=>D1.frame _ _ _ st λb hb o e=>(sb.2 b λq=>hc (q▸hb)).trans e;have Bw:∀{h h':cL}{c i:aa},s9 c h h'->c∉sf->uk i h->uk i h':=λ{h h' c i}sb hc st=>D2.frame _ _ _ st λb hb o e=>(sb.2 b λq=>hc (q▸hb)).trans e;refine wb (wb (Sa ?_));refine wb (D1.item k _ _ _ hx (Bv lG f1.1 h1) λx h₂ ahH mv Xr pB=>aG ?_);have LH:=pB.extBut _ _ D.TOi1 (lG.extBut _ _ D.TOz iV);refine wb (oW LH rfl ?_);refine wb (agu LH λh₃ Fw sg=>?_);replace Fw:gC h₃ TO x b:=Fw;refine wb (Sm (aG ?_));refine wb (wb (Sa ?_));refine wb (D2.item k _ _ _ hy (Bw sg f2.2.1 (Bw pB f2.2.2 (Bw lG f2.1 h2))) λy h₄ Xs qv Xu yo=>aG ?_);have LI:=yo.extBut _ _ D.TOi2 Fw;refine wb (oW LI rfl ?_);refine wb (agu LI λh₅ Bx yp=>?_);replace Bx:gC h₅ TO x y:=Bx;refine wb (Sm (aG (aG ?_)));refine wb (oW Bx rfl ?_);refine wb (RY ?_);have hsz:h₅.objs.size=s.heap.objs.size:=by rw[yp.1,yo.1,sg.1,pB.1,lG.1]
 have LJ:=yp.extBut _ _ D.TOz.symm (yo.extBut _ _ D.i2z.symm (sg.extBut _ _ D.TOz.symm (pB.extBut _ _ D.i1z.symm uo)));have Xv:∀c o,c≠z->c≠TO->c≠i1->c≠i2->s.heap.get? c=af o->h₅.get? c=af o:=λc o c1 c2 c3 c4 e=>yp.extBut _ _ c2 (yo.extBut _ _ c4 (sg.extBut _ _ c2 (pB.extBut _ _ c3 (lG.extBut _ _ c1 e))));have LK:=dW LJ;refine cD ?_;have Xw:kJ (h₅.push {cls:=.type "tuple",data:=.seq #[x,y]}) z TI TO .ellipsis:=cB _ LJ;refine wb (pY Xw (by simp) λh₇ Fx LL=>?_);replace Fx:kJ h₇ z TI TO (fy h₅.objs.size):=Fx;refine pY Fx (by simp) λh₈ By LM=>?_;replace By:kJ h₈ z TI TO (fy h₅.objs.size):=By;have up:∀c o,c≠z->h₅.get? c=af o->h₈.get? c=af o:=λc o c1 e=>LM.extBut _ _ c1 (LL.extBut _ _ c1 (cB _ e));have LN:=LM.extBut _ _ (jY LK) (LL.extBut _ _ (jY LK) (eG _ rfl));rw[hsz]at By LN;refine aG (aA _ rfl ?_);rw[hsz];exact hQ x y h₈ Xs mv qv By (up _ _ D.TOz Bx) (D1.frame _ _ _ (Bv yp f1.2.1 (Bv yo f1.2.2 (Bv sg f1.2.1 Xr))) λc hc o e=>up c o (λq=>f1.1 (q▸hc)) e) (D2.frame _ _ _ (Bw yp f2.2.1 Xu) λc hc o e=>up c o (λq=>f2.1 (q▸hc)) e) LN λc o c1 c2 c3 c4 e=>up c o c1 (Xv c o c1 c2 c3 c4 e)
def Xx(D1:xP prog w A i1 m8 n1 P1 n7)(D:sa z TI TO i1 i2)(f1:z∉m8)(hz:kJ s.heap z TI TO .none)(iH:gC s.heap TI (.ref i1) (.ref i2))(iV:gC s.heap TO a b)(h1:n7 n1 s.heap)(hE:∀h' e,(∀c o,c≠z->c≠TO->c≠i1->c≠i2->s.heap.get? c=af o->h'.get? c=af o)->(∃o,h'.get? e=af o/\o.cls=.type "StopIteration")->E (.ref e) {s with heap:=h'}):aY (aU prog w) A (Builtin.«zip.__next__» ⟨[.ref z],[]⟩) Q E s:=by show aY _ _ (Jp (.ref z) 2>>=_) _ _ _;refine wb (o6 hz rfl (x:=.bool aD) rfl ?_);refine wb (o6 hz rfl (x:=.ref TI) rfl ?_);refine wb (oW iH rfl ?_);refine wb ?_;refine wb (o6 hz rfl (x:=.none) rfl (aG ?_));refine wb (jZ ?_);refine wb (o6 hz rfl (x:=.ref TO) rfl ?_);refine wb (pY hz (by simp) λh₁ uo lG=>?_);replace uo:kJ h₁ z TI TO .ellipsis:=uo;refine wb ?_;refine wb (wb (Sa ?_));refine wb (D1.done _ _ _ (D1.frame _ _ _ h1 λb hb o e=>(lG.2 b λq=>f1 (q▸hb)).trans e) λh₂ e pB he=>?_);refine aq he λoe Fy LO=>?_;have LP:=pB _ _ D.i1z.symm uo;refine pY LP (by simp) λh₃ u sg=>hE h₃ e (λc o c1 u c3 u x=>sg.extBut _ _ c1 (pB _ _ c3 (lG.extBut _ _ c1 x))) (aA oe (sg.extBut _ _ (λx=>by clear he;cases x;rw[LP]at Fy;obtain rfl:=bR Fy;simp at LO) Fy) LO)
def LQ(D1:xP prog w A.in1 i1 m8 n1 P1 n7)(D2:xP prog w A.in1 i2 sf n2 P2 uk)(D:sa z TI TO i1 i2)(f1:z∉m8/\TO∉m8/\i2∉m8)(f2:z∉sf/\TO∉sf/\i1∉sf)(hz:kJ s.heap z TI TO .none)(iH:gC s.heap TI (.ref i1) (.ref i2))(iV:gC s.heap TO a b)(h1:n7 k s.heap)(h2:uk k s.heap)(hx:k<n1)(hy:k<n2)(hQ:∀x y h' tk,P1 k x->P2 k y->kJ h' z TI TO (fy s.heap.objs.size)->gC h' TO x y->n7 (k+1) h'->uk (k+1) h'->gC h' s.heap.objs.size x y->(∀c o,c≠z->c≠TO->c≠i1->c≠i2->s.heap.get? c=af o->h'.get? c=af o)->Q (af (.ref s.heap.objs.size)) {s with heap:=h',toks:=tk}):aY (aU prog w) A (qe (.ref z)) Q E s:=by have hT:s.TypeIs (.ref z) "zip":=(aA _ hz rfl);exact wb (DI (sY (name:=qa "__next__") hT Ia (jj Ia hT afI (Xq D1 D2 D f1 f2 hz iH iV h1 h2 hx hy λx y h' tk a1 a2 a3 a4 a5 a6 a7 a8=>aG (hQ x y h' tk a1 a2 a3 a4 a5 a6 a7 a8)) (afG _))))
def LR(D1:xP prog w A.in1 i1 m8 n1 P1 n7)(D:sa z TI TO i1 i2)(f1:z∉m8)(hz:kJ s.heap z TI TO .none)(iH:gC s.heap TI (.ref i1) (.ref i2))(iV:gC s.heap TO a b)(h1:n7 n1 s.heap)(hQ:∀h',(∀c o,c≠z->c≠TO->c≠i1->c≠i2->s.heap.get? c=af o->h'.get? c=af o)->Q ah {s with heap:=h'}):aY (aU prog w) A (qe (.ref z)) Q E s:=by have hT:s.TypeIs (.ref z) "zip":=(aA _ hz rfl);refine wb (DI (sY (name:=qa "__next__") hT Ia (jj Ia hT afI (Xx D1 D f1 hz iH iV h1 λh' e hk he=>?_) (afG _))));refine aq he λo ho hc=>?_;refine wb (vD (T:="StopIteration") (b:=ai) (aA o ho hc) IL ?_);exact aG (hQ _ hk)
noncomputable abbrev Bz(h:cL)(l1:hJ):cL:=h.push {cls:=.type "tuple_iterator",data:=.fields #[.ref l1,.int 0 0]}
abbrev BB(h:cL)(l1 l2:hJ):cL:=(Bz h l1).push {cls:=.type "tuple_iterator",data:=.fields #[.ref l2,.int 0 0]}
abbrev BC(h:cL)(l1 l2:hJ):cL:=(BB h l1 l2).push {cls:=.type "tuple",data:=.seq #[.ref h.objs.size,.ref (Bz h l1).objs.size]}
abbrev BD(h:cL)(l1 l2:hJ):cL:=(BC h l1 l2).push {cls:=.type "tuple",data:=.seq #[.none,.none]}
abbrev yq(h:cL)(l1 l2:hJ):cL:=(BD h l1 l2).push {cls:=.type "zip",data:=.fields #[.none,.bool aD,.bool aD,.ref (BB h l1 l2).objs.size,.ref (BC h l1 l2).objs.size]}
def IsTuple.up{h:cL}(x:h.IsTuple a xs)(o:cY):(h.push o).IsTuple a xs:=let⟨o',e,c⟩:=x;⟨o',cB _ e,c⟩
def Xy(l1 l2:hJ)(xs ys:b9 aF):Meets (Builtin.«zip.__new__» ⟨[.type "zip",.ref l1,.ref l2],[]⟩) (λu R s=>s.heap.IsTuple l1 xs/\s.heap.IsTuple l2 ys/\R (.ok (.ret (.ref (BD s.heap l1 l2).objs.size))) {s with heap:=yq s.heap l1 l2}):=.of_wp λprog w A R s h=>by obtain⟨hp,g,d,tk,os⟩:=s;refine gf h λqw j9 h=>?_;have Fq:=sub_zip;have BE:agY (agK ⟨hp.push {cls:=.type "tuple_iterator",data:=.fields #[.ref l1,.int 0 0]},g,d,tk,os⟩) l2 ys:=IsTuple.up j9 _;wp_walk using Iv qw,Iv BE;exact(aA _ rfl h)
def Xz{l1 l2:hJ}(qw:s.heap.IsTuple l1 xs)(j9:s.heap.IsTuple l2 ys)(h:∀h',kJ h' (s.heap.objs.size+4) (s.heap.objs.size+2) (s.heap.objs.size+3) .none->gC h' (s.heap.objs.size+2) (.ref s.heap.objs.size) (.ref (s.heap.objs.size+1))->gC h' (s.heap.objs.size+3) .none .none->nI h' s.heap.objs.size l1 0->nI h' (s.heap.objs.size+1) l2 0->h'.objs.size=s.heap.objs.size+5->(∀c o,s.heap.get? c=af o->h'.get? c=af o)->Q (.ref (s.heap.objs.size+4)) {s with heap:=h'}):aY (aU prog w) A (dR (.type "zip") [.ref l1,.ref l2]) Q E s:=by
 refine callType_new PySem.F.called_zip (by decide) (PySem.F.typeCall_zip_2 _ _) (PySem.F.newCall_zip_2 _ _) (λobj=>PySem.F.args_object_init_3 obj _ _) PySem.F.entry_zip_new (Xy l1 l2 xs ys) (cM qw j9 ?_);have z1:(Bz s.heap l1).objs.size=s.heap.objs.size+1:=mQ ..;have z2:(BB s.heap l1 l2).objs.size=s.heap.objs.size+2:=by rw[mQ,z1]
 have z3:(BC s.heap l1 l2).objs.size=s.heap.objs.size+3:=by rw[mQ,z2]
 have z4:(BD s.heap l1 l2).objs.size=s.heap.objs.size+4:=by rw[mQ,z3]
 have g5:(yq s.heap l1 l2).get? (BD s.heap l1 l2).objs.size=af _:=eG _ rfl;have g4:(yq s.heap l1 l2).get? (BC s.heap l1 l2).objs.size=af _:=cB _ (eG _ rfl);have g3:(yq s.heap l1 l2).get? (BB s.heap l1 l2).objs.size=af _:=cB _ (cB _ (eG _ rfl));have g2:(yq s.heap l1 l2).get? (Bz s.heap l1).objs.size=af _:=cB _ (cB _ (cB _ (eG _ rfl)));rw[z2,z3,z4]at g5;rw[z1,z2]at g3;rw[z3]at g4;rw[z1]at g2;rw[z4];exact⟨(aA _ g5 rfl),h _ g5 g3 g4 (bH _ (cB _ (cB _ (cB _ (cB _ (eG _ rfl))))) rfl rfl) (bH _ g2 rfl rfl) (by rw[mQ,z4]) λc o x=>cB _ (cB _ (cB _ (cB _ (cB _ x))))⟩
end
end
section
def bB.n8(k:∀v x,@aM X h v x->@aM X' h' v x):∀{vs:ag V}{xs:ag aF},@bB X h vs xs->@bB X' h' vs xs:=by intro vs;induction vs with|nil=>intro xs r;rw[r];exact .nil|cons v vs ih=>intro xs r;refine ba r λu u aC a b=>?_;rw[aC];exact .cons (k _ _ a) (ih b)
def eH.n8(k:∀v x,@aM X h v x->@aM X' h' v x)(r:@eH X w h es ds):@eH X' w h' es ds:=by induction r with|nil=>exact .nil|cons a b c _ ih=>exact .cons (k _ _ a) (k _ _ b) c ih
def eV.n8(k:∀v x,@aM X h v x->@aM X' h' v x)(r:@eV X w h es ds):@eV X' w h' es ds:=by induction r with|nil=>exact .nil|cons a c _ ih=>exact .cons (k _ _ a) c ih
def ju.n8(k:∀v x,@aM X h v x->@aM X' h' v x)(r:@ju X h es ds):@ju X' h' es ds:=by induction r with|nil=>exact .nil|cons a _ ih=>exact .cons (k _ _ a) ih
def j6.n8(k:∀v x,@aM X h v x->@aM X' h' v x)(r:@j6 X w h o ro):@j6 X' w h' o ro:=by induction o with|list vs=>refine eR r λi n a b=>?_;exact(eK i n a (b.n8 k))|dict vs=>refine ba r λi n a b c=>?_;exact(bZ i n a (b.n8 k) c)|set vs=>refine fX r λi n t a b c=>?_;exact⟨i,n,t,a,b.n8 k,c⟩|inst C dx=>exact r|attrs vs=>refine ba r λi n a b c=>?_;exact(bZ i n a (b.n8 k) c)|range a b=>exact r|items d=>exact r
section
variable [X:Hid]
mutual theorem aM.wu{h h':cL}{hid':aa->bw}(k:∀a items n,h.get? a=af (gO items n)->Hid.hO a=aD->h'.get? a=af (gO items n)/\hid' a=aD):∀{v:V}{x:aF},aM h v x->@aM ⟨hid'⟩ h' v x|.none,_,r=>r|.bool _,_,r=>r|.int _,_,r=>r|.str _,_,r=>r|.ref _,_,r=>r|.tup _,_,⟨a,i,n,e,g,r,x⟩=>(mX a i n e ((k _ _ _ g x).1) (bB.wu k r) ((k _ _ _ g x).2))theorem bB.wu{h h':cL}{hid':aa->bw}(k:∀a items n,h.get? a=af (gO items n)->Hid.hO a=aD->h'.get? a=af (gO items n)/\hid' a=aD):∀{v:ag V}{x:ag aF},bB h v x->@bB ⟨hid'⟩ h' v x|[],_,r=>r|_::_,_,⟨x,xs,e,a,b⟩=>(bZ x xs e (aM.wu k a) (bB.wu k b))end
end
section
variable [X:Hid]
noncomputable def eJ(T:aa):Hid:=⟨λb=>Hid.hO b||b==T⟩
abbrev ki(s:aK)(T:aa):aK:={s with heap:=ew s.heap (·==T)}
def cR{T b:aa}:(ew h (·==T)).get? b=af o↔b≠T/\h.get? b=af o:=by rw[eD];simp
def aM.plus(r:aM (ew h (·==T)) v x):@aM (eJ T) h v x:=r.wu (hid':=λb=>Hid.hO b||b==T) λa items n e q=>⟨(cR.mp e).2,by rw[q];simpa using(cR.mp e).1⟩
def aM.minus(r:@aM (eJ T) h v x):aM (ew h (·==T)) v x:=@aM.wu (eJ T) h (ew h (·==T)) X.hO (λa items n e q=>by have x':(Hid.hO a||a==T)=aD:=q;rw[af7,SQ]at x';exact⟨cR.mpr ⟨x'.2,e⟩,x'.1⟩) v x r
def cK.hide:cK (ew h (·==T)) h:=λu u u u e u u=>(cR.mp e).2
variable{prog:cx}{w:aZ}{K:cJ}{r:aa}{env:bI}{loc:Loc}{st:aE}{A:cQ}{P:bE}{s:aK}{E:aF->aK->Prop}{T:aa}
def XA{a:aa}(n:(ew h (·==T)).Ns a m):h.Ns a m:=let⟨o,es,ep,e,c⟩:=n;⟨o,es,ep,(cR.mp e).2,c⟩
def XB(n:h.Ns a m)(ne:a≠T):(ew h (·==T)).Ns a m:=let⟨o,es,ep,e,c⟩:=n;⟨o,es,ep,cR.mpr ⟨ne,e⟩,c⟩
def aH.Fz(F:aH w P (ki s T) env loc st):st T=ah/\T≠env.locals/\(∀x,(x,T)∉env.cells)/\P.h.get? T=ah:=by
 have nT:∀o,(ki s T).heap.get? T≠af o:=λo e=>(cR.mp e).1 rfl;refine(ip ?_ ?_ ?_ ?_);·cases q:st T with|none=>rfl|some m=>refine aq (F.obj T m q) λro e u=>?_;exact bA e (nT _)
 ·rintro q;refine aq F.ns λm bQ u=>?_;refine gN bQ λo u u e u=>?_;rw[←q]at e;exact nT _ e
 ·intro x hx;refine eR (F.cell x T hx) λv o e u=>?_;exact nT _ e
 ·cases q:P.h.get? T with|none=>rfl|some o=>exact bA (F.keep T o q) (nT _)
def aH.uq(F:aH w P (ki s T) env loc st){b:aa}(e:P.h.get? b=af o):(bE.all env st s).h.get? b=af o:=by have h2:=eD.mp (F.sub b o e);exact eD.mpr ⟨h2.1,(cR.mp h2.2).2⟩
def aH.XC(F:aH w P (ki s T) env loc st)(hT:∃o,s.heap.get? T=af o):@aH (eJ T) w (bE.all env st s) s env loc st:=by
 refine il F.Fz λt1 t2 t3 t4=>?_;have hO:=λ{b}q=>by show(ew s.heap (own env st)).get? b=ah;rw[AX,a0 q]
 exact @aH.mk (eJ T) w (bE.all env st s) s env loc st (@SRel.mk (eJ T) w (bE.all env st s) s st (λb o e=>(eD.mp e).2) (λa o e=>hO (by simp[own,e])) (λa o e=>let⟨ro,q1,q2⟩:=F.obj a o e;(aA ro ((cR.mp q1).2) (q2.n8 λv x=>aM.plus))) rfl rfl F.big (let⟨b,o,q1,q2⟩:=F.wide;(eK b o q1 (F.uq q2))) (λa q=>by
  have q':=q;rcases DF _ _▸q' with q'|q';·obtain⟨o,e⟩:=F.j7 a q';exact⟨o,F.uq e⟩
  ·obtain⟨o,e⟩:=hT;have ea:a=T:=by simpa using q'
   clear t4 q q';cases ea;exact⟨o,eD.mpr ⟨mZ t1 t2 t3,e⟩⟩)) F.kind F.glob F.lZ (let⟨m,q1,q2⟩:=F.ns;(aA m (XA q1) (λx v e k=>let⟨y,c,d⟩:=q2 x v e k;(aA y c d.plus)))) (λx v e k=>let⟨c,y,q1,⟨o,q2,q3⟩,q4⟩:=F.cells x v e k;(bZ c y q1 (aA o ((cR.mp q2).2) q3) q4.plus)) (λx c hc=>let⟨v,o,q2,q3⟩:=F.cell x c hc;(eK v o ((cR.mp q2).2) q3)) F.named F.inj (hO (by simp[own])) F.lst (λx c hc=>⟨(F.cst x c hc).1,hO (by simp only[own,DF,Iz,D0];exact .inr (aA _ hc rfl))⟩)
def aH.FD(F:aH w P (ki s T) env loc st)(hT:∃o,s.heap.get? T=af o)(F':@aH (eJ T) w (bE.all env st s) s' env cu ak):aH w P (ki s' T) env cu ak:=by
 refine il F.Fz λt1 t2 t3 t4=>?_;obtain⟨oT,eT⟩:=hT;have pT:(bE.all env st s).h.get? T=af oT:=eD.mpr ⟨mZ t1 t2 t3,eT⟩;have dn:∀b,(bE.all env st s).h.get? b=ah->P.h.get? b=ah:=λb e=>by cases q:P.h.get? b with|none=>rfl|some x=>rw[F.uq q]at e;nomatch e
 have nS:∀{a o},ak a=af o->a≠T:=λ{a o}e q=>by have:=@SRel.apart (eJ T) w _ s' ak (@aH.toSRel (eJ T) _ _ _ _ _ _ F') a o e;rw[q,pT]at this;nomatch this
 have S':=@aH.toSRel (eJ T) _ _ _ _ _ _ F';exact{keep:=λb o e=>cR.mpr ⟨(λq=>by rw[q,t4]at e;nomatch e),@SRel.keep (eJ T) _ _ _ _ S' b o (F.uq e)⟩,apart:=λa o e=>dn a (@SRel.apart (eJ T) _ _ _ _ S' a o e),obj:=λa o e=>let⟨ro,q1,q2⟩:=@SRel.obj (eJ T) _ _ _ _ S' a o e;(aA ro (cR.mpr ⟨nS e,q1⟩) (q2.n8 λv x=>aM.minus)),os:=(@SRel.os (eJ T) _ _ _ _ S').trans F.os,gens:=(@SRel.gens (eJ T) _ _ _ _ S').trans F.gens,big:=@SRel.big (eJ T) _ _ _ _ S',wide:=F.wide,j7:=F.j7,kind:=F.kind,glob:=F.glob,lZ:=F.lZ,ns:=let⟨m,q1,q2⟩:=@aH.ns (eJ T) _ _ _ _ _ _ F';(aA m (XB q1 t2.symm) (λx v e k=>let⟨y,c,d⟩:=q2 x v e k;(aA y c d.minus))),cells:=λx v e k=>let⟨c,y,q1,⟨o,q2,q3⟩,q4⟩:=@aH.cells (eJ T) _ _ _ _ _ _ F' x v e k;(bZ c y q1 (aA o (cR.mpr ⟨λq=>t3 x (q▸mem_of_lookup q1),q2⟩) q3) q4.minus),cell:=λx c hc=>let⟨v,o,q2,q3⟩:=@aH.cell (eJ T) _ _ _ _ _ _ F' x c hc;(eK v o (cR.mpr ⟨λq=>t3 x (q▸hc),q2⟩) q3),named:=F.named,inj:=F.inj,lx:=F.lx,lst:=@aH.lst (eJ T) _ _ _ _ _ _ F',cst:=λx c hc=>⟨(@aH.cst (eJ T) _ _ _ _ _ _ F' x c hc).1,(F.cst x c hc).2⟩}
def SRel.FD{s':aK}{ak:aE}(F:aH w P (ki s T) env loc st)(S':@SRel (eJ T) w (bE.all env st s) s' ak):SRel w P s' ak where
 keep:=λb o e=>@SRel.keep (eJ T) _ _ _ _ S' b o (F.uq e)
 apart:=λa o e=>by cases q:P.h.get? a with|none=>rfl|some x=>have:=@SRel.apart (eJ T) _ _ _ _ S' a o e;rw[F.uq q]at this;nomatch this
 obj:=λa o e=>let⟨ro,q1,q2⟩:=@SRel.obj (eJ T) _ _ _ _ S' a o e;(aA ro q1 (q2.n8 λv x z=>z.minus.keep cK.hide))
 os:=(@SRel.os (eJ T) _ _ _ _ S').trans F.os
 gens:=(@SRel.gens (eJ T) _ _ _ _ S').trans F.gens
 big:=@SRel.big (eJ T) _ _ _ _ S'
 wide:=F.wide
 j7:=F.j7
end
end
section
section
variable [X:Hid]
variable{prog:cx}{w:aZ}{K:cJ}{r:aa}{env:bI}{loc:Loc}{st:aE}{A:cQ}{P:bE}{s:aK}{E:aF->aK->Prop}
structure ur(prog:cx)(w:aZ)(i1 i2:aa)(us ws:ag V)(D:aE->Prop)(Zk:aa->cL->Prop):Prop where
 frame:∀k h h',Zk k h->(∀b∈[i1,i2],∀o,h.get? b=af o->h'.get? b=af o)->cK h h'->Zk k h'
 live:∀k h,Zk k h->∀b∈[i1,i2],∃o,h.get? b=af o/\o.cls≠.type "tuple"
 item:∀{A:cQ}{P:bE}{s:aK}{env:bI}{loc:Loc}{st:aE}{k z TI TO:aa}{u v:V}{a b:aF}{Q:d6 aF->aK->Prop},A.handled=ah->aH w P (ki s TO) env loc st->D st->Zk k (ew s.heap (·==TO))->kJ s.heap z TI TO .none->gC s.heap TI (.ref i1) (.ref i2)->gC s.heap TO a b->sa z TI TO i1 i2->Off P env st z->Off P env st i1->Off P env st i2->us[k]?=af u->ws[k]?=af v->(∀x y h' tk,aM (ew h' (·==TO)) u x->aM (ew h' (·==TO)) v y->kJ h' z TI TO (fy s.heap.objs.size)->gC h' TO x y->Zk (k+1) (ew h' (·==TO))->gC h' s.heap.objs.size x y->(∀c o,c≠z->c≠TO->c≠i1->c≠i2->s.heap.get? c=af o->h'.get? c=af o)->Q (af (.ref s.heap.objs.size)) {s with heap:=h',toks:=tk})->aY (aU prog w) A (qe (.ref z)) Q (λq q=>dv) s
 done:∀{A:cQ}{P:bE}{s:aK}{env:bI}{loc:Loc}{st:aE}{z TI TO:aa}{a b:aF}{Q:d6 aF->aK->Prop},A.handled=ah->aH w P (ki s TO) env loc st->D st->Zk us.length (ew s.heap (·==TO))->kJ s.heap z TI TO .none->gC s.heap TI (.ref i1) (.ref i2)->gC s.heap TO a b->sa z TI TO i1 i2->Off P env st z->Off P env st i1->Off P env st i2->(∀h',(∀c o,c≠z->c≠TO->c≠i1->c≠i2->s.heap.get? c=af o->h'.get? c=af o)->Q ah {s with heap:=h'})->aY (aU prog w) A (qe (.ref z)) Q (λq q=>dv) s
def aM.XD(e:h.get? a=af (gO items n))(ne:a≠T)(hx:Hid.hO a=aD)(z:bB (ew h (·==T)) us items.toList):@aM (eJ T) h (.tup us) (.ref a):=(aM.tup (h:=ew h (·==T)) (cR.mpr (dD ne e)) z hx).plus
def LS{z TI TO i1 i2:aa}{N:Loc->aE->Prop}(B:ur prog w i1 i2 us ws D Zk)(hlen:us.length=ws.length)(ha:sa z TI TO i1 i2)(hn:namesOf env ts=af ns)(BF:ts.length=2)(bJ:ag (V×V)->Loc->aE->Prop)(jI:∀(X':Hid)u v rest cu ak,bJ ((u,v)::rest) cu ak->D ak/\@WF X' prog w K r env (mV body env) (cu.ups ns [u,v]) ak (bJ rest) R)(fin:∀cu ak,bJ [] cu ak->D ak)(hR:∀s' cu ak,aH w P s' env cu ak->bJ [] cu ak->RR (.ok .next) s')(XE:∀s' v x ak,aM s'.heap v x->SRel w P s' ak->R v ak->RR (.ok (.ret x)) s')(ao:dY A r)(g:Gd K P.h)(F:aH w P (ki s TO) env loc st)(hz:kJ s.heap z TI TO .none)(iH:gC s.heap TI (.ref i1) (.ref i2))(iV:gC s.heap TO a b)(hZ:Zk 0 (ew s.heap (·==TO)))(oz:Off P env st z)(o1:Off P env st i1)(o2:Off P env st i2)(oT:Off P env st TI)(i0:bJ (us.zip ws) loc st):nK (aU prog w) A (.forLoop (.Tuple ts x1 tpos) (.ref z) body [] env) RR s:=by
 refine agG (λn s'=>∃k cu ak a b,n=us.length-k/\k<=us.length/\bJ ((us.drop k).zip (ws.drop k)) cu ak/\aH w P (ki s' TO) env cu ak/\kJ s'.heap z TI TO .none/\gC s'.heap TI (.ref i1) (.ref i2)/\gC s'.heap TO a b/\Zk k (ew s'.heap (·==TO))/\Off P env ak z/\Off P env ak i1/\Off P env ak i2/\Off P env ak TI) ?_ us.length (Ju 0 loc st a b rfl (cF _) (by simpa using i0) F (D9 hz iH iV hZ oz o1 o2 oT));intro n s' zi;refine SY zi λk cu ak a b ek hk hI F' zr=>D6 zr λhz iH iV hZ oz o1 o2 oT=>?_;subst ek;have LU:∀b∈[z,i1,i2],∃o,(ki s' TO).heap.get? b=af o/\o.cls≠.type "tuple":=λb hb=>by
  rcases cg.mp hb with rfl|hb;·exact(aA _ (cR.mpr ⟨ha.TOz.symm,hz⟩) (show cS "zip"≠cS "tuple"by decide))
  ·exact(B.live _ _ hZ) b hb
 have LV:∀b∈[z,i1,i2],Off P env ak b:=λb hb=>by
  rcases cg.mp hb with rfl|hb;·exact oz
  rcases cg.mp hb with rfl|hb;·exact o1
  obtain rfl:b=i2:=by simpa using hb
  exact o2
 rcases Ay k us.length with lt|ge;·
  have LW:=(hlen▸lt);have ed:(us.drop k).zip (ws.drop k)=(us[k],ws[k])::(us.drop (k+1)).zip (ws.drop (k+1)):=by rw[Dq lt,Dq LW];rfl
  rw[ed]at hI;refine bx (jI (eJ TO) _ _ _ _ _ hI) λhD wf=>?_;refine cC (B.item ao.handled F' hD hZ hz iH iV ha oz o1 o2 (gy lt) (gy LW) λx y h3 tk rx ry BG XF XG XH FE=>?_) (λj j q=>q) λj j x=>x.elim;refine cC (wpAny_letOwnedTupleGo_zip (s:={s' with heap:=h3,toks:=tk}) (A:=A) (E:=λj j=>dv) (Q:=λj s4=>aY (aU prog w) A (vO (.Tuple ts x1 tpos) env (.ref s'.heap.objs.size)) _ _ s4) BG λh4 LX XI=>?_) (λj j q=>q) λj j x=>x.elim;have yr:∀c o,c≠z->h3.get? c=af o->h4.get? c=af o:=λc o q e=>(XI.2 c q).trans e;have k4:=λc o c1 c2 c3 c4 e=>yr c o c1 (FE c o c1 c2 c3 c4 e);have ym:ir [z,i1,i2] (ki s' TO) (ki {s' with heap:=h4,toks:=tk} TO):=(eK _ tk rfl (λc o hc e=>by refine bx (cR.mp e) λq1 q2=>?_;simp only[cg,rj,SR,D3]at hc;exact cR.mpr ⟨q1,k4 c o hc.1 q1 hc.2.1 hc.2.2 q2⟩));obtain⟨F4,EK⟩:=F'.nZ ym LV LU;have FF:cK (ew h3 (·==TO)) (ew h4 (·==TO)):=λb o i n e c j=>by obtain⟨q1,q2⟩:=cR.mp e;exact cR.mpr ⟨q1,yr b o (λq=>by rw[q,BG]at q2;obtain rfl:=bR q2;exact bA c (show cS "zip"≠cS "tuple"by decide)) q2⟩
  have FG:=yr _ _ ha.TOz XF;have LY:gC h4 TI (.ref i1) (.ref i2):=k4 _ _ ha.TIz ha.TITO ha.TIi1 ha.TIi2 iH;have FH:=B.frame _ _ _ XG (λb hb o e=>by
   obtain⟨q1,q2⟩:=cR.mp e;refine cR.mpr ⟨q1,yr b o (λq=>?_) q2⟩;rcases cg.mp hb with h|hb;·exact ha.i1z (h▸q)
   ·exact ha.i2z ((by simpa using hb:b=i2)▸q)) FF;have XJ:@aM (eJ TO) h4 (.tup [us[k],ws[k]]) (.ref s'.heap.objs.size):=aM.XD (yr _ _ (jY (dW hz)) XH) (jY (dW iV)) (F'.tB (by simp[ew])) (.cons (rx.keep FF) (.cons (ry.keep FF) .nil));have gp:Gd K (bE.all env ak {s' with heap:=h4,toks:=tk}).h:=g.keeps λb o e=>F4.uq e;refine cC ((@Be (eJ TO) prog w K r env cu ak ts x1 tpos ns [us[k],ws[k]] (λl2 bP=>l2=cu.ups ns [us[k],ws[k]]/\bP=ak) (by rw[BF];rfl) ⟨rfl,rfl⟩ hn) A _ _ _ ao gp (F4.XC ⟨_,FG⟩) XJ) (λj s5 q=>?_) λj j x=>x.elim;clear k4;obtain⟨l5,nQ,F5,rfl,rfl⟩:=q;refine cC (wf A _ s5 ao gp F5) (λf s6 q=>?_) λj j x=>x.elim;have BH:∀c o,Off P env nQ c->h4.get? c=af o->(bE.all env nQ {s' with heap:=h4,toks:=tk}).h.get? c=af o:=λc o oc e=>eD.mpr ⟨mZ oc.2.1 oc.2.2.1 oc.2.2.2,e⟩;have FI:=F4.Fz;induction f with
   |next=>
    obtain⟨l6,n6,F6,inv⟩:=q;have yt:=@SRel.keep (eJ TO) _ _ _ _ (@aH.toSRel (eJ TO) _ _ _ _ _ _ F6);have rY:∀c o,Off P env nQ c->h4.get? c=af o->Off P env n6 c:=λc o oc e=>(cM oc.1 (by cases q:n6 c with|none=>rfl|some m=>(have:=@SRel.apart (eJ TO) _ _ _ _ (@aH.toSRel (eJ TO) _ _ _ _ _ _ F6) c m q;rw[BH c o oc e]at this;nomatch this)) oc.2.2);refine aq ((B.live _ _ FH) i1 (by simp)) λq1 e1 j=>?_;refine aq ((B.live _ _ FH) i2 (by simp)) λq2 e2 j=>?_;refine(aA (us.length-(k+1)) (l4 0x3081392121d093 (fY (l2 17658114 lt)) kQ) (Ju (k+1) l6 n6 x y rfl lt inv (F4.FD ⟨_,FG⟩ F6) (D9 (yt _ _ (BH _ _ oz LX)) (yt _ _ (BH _ _ oT LY)) (yt _ _ (eD.mpr ⟨mZ FI.1 FI.2.1 FI.2.2.1,FG⟩)) ?_ (rY _ _ oz LX) (rY _ _ o1 ((cR.mp e1).2)) (rY _ _ o2 ((cR.mp e2).2)) (rY _ _ oT LY))));refine B.frame _ _ _ FH (λb hb o e=>?_) λb o i n e c dd=>?_;·
     obtain⟨q1,q2⟩:=cR.mp e;refine cR.mpr ⟨q1,yt b o (BH b o ?_ q2)⟩;rcases cg.mp hb with rfl|hb;·exact o1
     ·obtain rfl:b=i2:=by simpa using hb
      exact o2
    ·obtain⟨q1,q2⟩:=cR.mp e;exact cR.mpr ⟨q1,yt b o (eD.mpr ⟨F4.tup e c dd,q2⟩)⟩|ret v=>obtain⟨u,n6,ru,S6,hr⟩:=q;exact XE s6 u v n6 (ru.minus.keep cK.hide) (SRel.FD F4 S6) hr|brk=>exact q.elim|cont=>exact q.elim
 ·obtain rfl:k=us.length:=s7 hk ge;rw[(by rw[RF];rfl:(us.drop us.length).zip (ws.drop us.length)=[])]at hI;refine cC (B.done ao.handled F' (fin _ _ hI) hZ hz iH iV ha oz o1 o2 λh3 FE=>?_) (λj j q=>q) λj j x=>x.elim;have ym:ir [z,i1,i2] (ki s' TO) (ki {s' with heap:=h3} TO):=(eK _ s'.toks rfl (λc o hc e=>by obtain⟨q1,q2⟩:=cR.mp e;simp only[cg,rj,SR,D3]at hc;exact cR.mpr ⟨q1,FE c o hc.1 q1 hc.2.1 hc.2.2 q2⟩));refine bx (F'.nZ ym LV LU) λF3 j=>?_;have BI:aH w P {s' with heap:=h3} env cu ak:=F3.grow (h':=h3) λb o e=>(cR.mp e).2;exact IH (hR _ _ _ BI hI)
end
end
section
section
variable [X:Hid]
variable{prog:cx}{w:aZ}{K:cJ}{r:aa}{env:bI}{loc:Loc}{st:aE}{A:cQ}{P:bE}{s:aK}{E:aF->aK->Prop}
def ur.uu{i1 i2 l1 l2:aa}{us ws:ag V}{xs ys:b9 aF}{n1 n2:aa}:ur prog w i1 i2 us ws (λj=>iD) (λk h=>nI h i1 l1 k/\nI h i2 l2 k/\h.get? l1=af (gO xs n1)/\h.get? l2=af (gO ys n2)/\bB h us xs.toList/\bB h ws ys.toList)where
 frame:=λk h h' zf kk tk=>by refine D5 zf λqx bQ c1 c2 d1 d2=>?_;obtain⟨o1,a1,b1⟩:=qx;obtain⟨o2,a2,b2⟩:=bQ;exact(AJ ⟨o1,kk i1 (by simp) o1 a1,b1⟩ ⟨o2,kk i2 (by simp) o2 a2,b2⟩ (tk _ _ _ _ c1 rfl rfl) (tk _ _ _ _ c2 rfl rfl) (d1.keep tk) (d2.keep tk))
 live:=λk h⟨⟨o1,a1,b1,_⟩,⟨o2,a2,b2,_⟩,_⟩b hb=>by
  rcases cg.mp hb with rfl|hb;·exact(aA o1 a1 (by rw[b1];decide))
  ·obtain rfl:b=i2:=by simpa using hb
   exact(aA o2 a2 (by rw[b2];decide))
 item:=λ{A P s env loc st k z TI TO u v a b Q}hh F j⟨⟨o1,a1,b1⟩,⟨o2,a2,b2⟩,c1,c2,d1,d2⟩hz iH iV ha j j j hu hv hQ=>by
  refine aq (d1.get_some hu) λx hx rx=>?_;refine aq (d2.get_some hv) λy hy ry=>?_;have mv:xs[k]?=af x:=by exact jW▸hx
  have qv:ys[k]?=af y:=by exact jW▸hy
  have r1:=(cR.mp a1).2;have r2:=(cR.mp a2).2;obtain⟨yu,t1⟩:=cR.mp c1;obtain⟨FJ,t2⟩:=cR.mp c2;have l1i1:l1≠i1:=λq=>by rw[q,r1]at t1;injection t1 with zc;subst zc;exact bA b1.1 (show¬cS "tuple"=cS "tuple_iterator"by decide)
  have l1i2:l1≠i2:=λq=>by rw[q,r2]at t1;obtain rfl:=bR t1;exact bA b2.1 (show¬cS "tuple"=cS "tuple_iterator"by decide)
  have l2i1:l2≠i1:=λq=>by rw[q,r1]at t2;obtain rfl:=bR t2;exact bA b1.1 (show¬cS "tuple"=cS "tuple_iterator"by decide)
  have l2i2:l2≠i2:=λq=>by rw[q,r2]at t2;clear a2;injection t2 with zc;subst zc;exact bA b2.1 (show¬cS "tuple"=cS "tuple_iterator"by decide)
  have l1z:l1≠z:=λq=>by rw[q,hz]at t1;exact bA (aO (DM SE) t1) (show¬(af (cS "zip")=af (cS "tuple"))by decide)
  have l2z:l2≠z:=λq=>by rw[q,hz]at t2;exact bA (aO (DM SE) t2) (show¬(af (cS "zip")=af (cS "tuple"))by decide)
  refine LQ (yl (A:=A.in1) hh i1 l1 l1i1 xs) (yl (A:=A.in1) hh i2 l2 l2i2 ys) ha ⟨by simp;exact⟨ha.i1z.symm,l1z.symm⟩,by simp;exact⟨ha.TOi1,yu.symm⟩,by simp;exact⟨ha.i12.symm,l1i2.symm⟩⟩ ⟨by simp;exact⟨ha.i2z.symm,l2z.symm⟩,by simp;exact⟨ha.TOi2,FJ.symm⟩,by simp;exact⟨ha.i12,l2i1.symm⟩⟩ hz iH iV ⟨⟨o1,r1,b1⟩,fB t1⟩ ⟨⟨o2,r2,b2⟩,fB t2⟩ (sX.mp mv).1 (sX.mp qv).1 λx' y' h' tk px py z1 z2 z3 z4 z5 hk=>?_;rw[mv]at px;obtain rfl:=bR px;rw[qv]at py;obtain rfl:=bR py;have jN:cK (ew s.heap (·==TO)) (ew h' (·==TO)):=λb o i n e c j=>by
   obtain⟨q1,q2⟩:=cR.mp e;refine cR.mpr ⟨q1,hk b o (λq=>?_) q1 (λq=>?_) (λq=>?_) q2⟩;·rw[q,hz]at q2;injection q2 with zc;subst zc;exact bA c (show cS "zip"≠cS "tuple"by decide)
   ·rw[q,r1]at q2;injection q2 with zc;subst zc;rw[b1.1]at c;exact bA c (by decide)
   ·rw[q,r2]at q2;injection q2 with zc;subst zc;rw[b2.1]at c;exact bA c (by decide)
  refine bx z3 λqx j=>?_;refine aq qx λo3 a3 b3=>?_;obtain⟨⟨o4,a4,b4⟩,_⟩:=z4;exact hQ x y h' tk (rx.keep jN) (ry.keep jN) z1 z2 (AJ ⟨o3,cR.mpr ⟨ha.TOi1.symm,a3⟩,b3⟩ ⟨o4,cR.mpr ⟨ha.TOi2.symm,a4⟩,b4⟩ (jN _ _ _ _ c1 rfl rfl) (jN _ _ _ _ c2 rfl rfl) (d1.keep jN) (d2.keep jN)) z5 hk
 done:=λ{A P s env loc st z TI TO a b Q}hh F j⟨⟨o1,a1,b1⟩,_,c1,c2,d1,d2⟩hz iH iV ha j j j hQ=>by
  have r1:=(cR.mp a1).2;obtain⟨yu,t1⟩:=cR.mp c1;have l1i1:l1≠i1:=λq=>by rw[q,r1]at t1;obtain rfl:=bR t1;exact bA b1.1 (show¬cS "tuple"=cS "tuple_iterator"by decide)
  have l1z:l1≠z:=λq=>by rw[q,hz]at t1;exact bA (aO (DM SE) t1) (show¬(af (cS "zip")=af (cS "tuple"))by decide)
  have hl:=d1.length;rw[←hl]at b1;exact LR (yl (A:=A.in1) hh i1 l1 l1i1 xs) ha (by simp;exact⟨ha.i1z.symm,l1z.symm⟩) hz iH iV ⟨⟨o1,r1,b1⟩,fB t1⟩ hQ
def ur.lists{i1 i2 l1 l2:aa}{us ws:ag V}(hz1:us.length<=16777216):ur prog w i1 i2 us ws (λst=>st l1=af (.list us)/\st l2=af (.list ws)) (λk h=>h.IsListIter i1 l1 k/\h.IsListIter i2 l2 k)where
 frame:=λk h h' zf kk tk=>by obtain⟨⟨o1,a1,b1⟩,⟨o2,a2,b2⟩⟩:=zf;exact⟨⟨o1,kk i1 (by simp) o1 a1,b1⟩,⟨o2,kk i2 (by simp) o2 a2,b2⟩⟩
 live:=λk h⟨⟨o1,a1,b1,_⟩,⟨o2,a2,b2,_⟩⟩b hb=>by
  rcases cg.mp hb with rfl|hb;·exact(aA o1 a1 (by rw[b1];decide))
  ·obtain rfl:b=i2:=by simpa using hb
   exact(aA o2 a2 (by rw[b2];decide))
 item:=λ{A P s env loc st k z TI TO u v a b Q}hh F⟨D1,D2⟩⟨⟨o1,a1,b1⟩,⟨o2,a2,b2⟩⟩hz iH iV ha oz BJ FK hu hv hQ=>by
  refine ba (F.toSRel.list D1) λxs n1 c1 d1 q1=>?_;refine ba (F.toSRel.list D2) λys n2 c2 d2 q2=>?_;refine aq (d1.get_some hu) λx hx rx=>?_;refine aq (d2.get_some hv) λy hy ry=>?_;have mv:xs[k]?=af x:=by exact jW▸hx
  have qv:ys[k]?=af y:=by exact jW▸hy
  have r1:=(cR.mp a1).2;have r2:=(cR.mp a2).2;obtain⟨yu,t1⟩:=cR.mp c1;obtain⟨FJ,t2⟩:=cR.mp c2;have ne:∀{c l o},Off P env st c->st l=af o->l≠c:=λ{c l o}oc e q=>by rw[q,oc.2.1]at e;nomatch e
  refine LQ (Sg (A:=A.in1) hh i1 l1 (ne BJ D1) xs) (Sg (A:=A.in1) hh i2 l2 (ne FK D2) ys) ha ⟨by simp;exact⟨ha.i1z.symm,(ne oz D1).symm⟩,by simp;exact⟨ha.TOi1,yu.symm⟩,by simp;exact⟨ha.i12.symm,(ne FK D1).symm⟩⟩ ⟨by simp;exact⟨ha.i2z.symm,(ne oz D2).symm⟩,by simp;exact⟨ha.TOi2,FJ.symm⟩,by simp;exact⟨ha.i12,(ne BJ D2).symm⟩⟩ hz iH iV ⟨⟨o1,r1,b1⟩,fO t1⟩ ⟨⟨o2,r2,b2⟩,fO t2⟩ (sX.mp mv).1 (sX.mp qv).1 λx' y' h' tk px py z1 z2 z3 z4 z5 hk=>?_;rw[mv]at px;obtain rfl:=bR px;rw[qv]at py;obtain rfl:=bR py;have jN:cK (ew s.heap (·==TO)) (ew h' (·==TO)):=λb o i n e c j=>by
   obtain⟨q1,q2⟩:=cR.mp e;refine cR.mpr ⟨q1,hk b o (λq=>?_) q1 (λq=>?_) (λq=>?_) q2⟩;·rw[q,hz]at q2;injection q2 with zc;subst zc;exact bA c (show cS "zip"≠cS "tuple"by decide)
   ·rw[q,r1]at q2;injection q2 with zc;subst zc;rw[b1.1]at c;exact bA c (by decide)
   ·rw[q,r2]at q2;injection q2 with zc;subst zc;rw[b2.1]at c;exact bA c (by decide)
  refine bx z3 λqx j=>?_;refine aq qx λo3 a3 b3=>?_;obtain⟨⟨o4,a4,b4⟩,_⟩:=z4;exact hQ x y h' tk (rx.keep jN) (ry.keep jN) z1 z2 ⟨⟨o3,cR.mpr ⟨ha.TOi1.symm,a3⟩,b3⟩,⟨o4,cR.mpr ⟨ha.TOi2.symm,a4⟩,b4⟩⟩ z5 hk
 done:=λ{A P s env loc st z TI TO a b Q}hh F⟨D1,D2⟩⟨⟨o1,a1,b1⟩,_⟩hz iH iV ha oz BJ FK hQ=>by
  refine ba (F.toSRel.list D1) λxs n1 c1 d1 q1=>?_;obtain⟨yu,t1⟩:=cR.mp c1;have ne:∀{c l o},Off P env st c->st l=af o->l≠c:=λ{c l o}oc e q=>by rw[q,oc.2.1]at e;nomatch e
  rw[←q1]at b1;exact LR (Sg (A:=A.in1) hh i1 l1 (ne BJ D1) xs) ha (by simp;exact⟨ha.i1z.symm,(ne oz D1).symm⟩) hz iH iV ⟨⟨o1,((cR.mp a1).2),b1⟩,fO t1⟩ hQ
inductive BK(st:aE):ag V->ag V->ag V->(aE->Prop)->Prop|uu{us ws}:BK st [.tup us,.tup ws] us ws (λu=>iD)|lists{a b us ws}:st a=af (.list us)->st b=af (.list ws)->us.length<=16777216->BK st [.ref a,.ref b] us ws (λak=>ak a=af (.list us)/\ak b=af (.list ws))
def XK(hn:hH K fw x=af ah)(hb:vM x=af (.type "zip"))(Fv:x≠"__name__")(h:WL prog w K r env (o7 t) loc st λvs aQ=>∃us ws D,BK aQ vs us ws D/\us.length=ws.length/\∃bJ:ag (V×V)->Loc->aE->Prop,bJ (us.zip ws) loc aQ/\(∀(X':Hid)u v rest cu ak,bJ ((u,v)::rest) cu ak->D ak/\@WF X' prog w K r env (mV body env) (cu.ups ns [u,v]) ak (bJ rest) R)/\∀cu ak,bJ [] cu ak->D ak/\N cu ak)(mj:namesOf env ts=af ns)(BF:ts.length=2)(hx:env.kindOf x=af .globalImplicit)(hd:(x==("__debug__":aI))=aD)(he:bc ce env=(do tc ahI (←bc (.Name x p) env) [] t []))(hp:t.any (·.1)=aD)(hy:t=[]\/∃x l,t=(aD,x)::l)(hs:∀y,ji ce env y=pure y):WF prog w K r env (j3 (.For (.Tuple ts x1 tpos) ce body [] pos) env) loc st N R:=λA P s a g F=>by
 refine wpAny_For ?_ hs;simp only[he];refine wb (A4 (prog:=prog) (w:=w) hn hb Fv hx hd A P s _ g F ?_);refine x6 a g F (fv:=[]) (first:=[]) .nil .type h (λxs s' vs ak rx j F' z=>?_) hp hy;refine fX z λus ws D src hlen bg=>bL bg λbJ i0 jI fin=>?_;have off:∀b,s'.heap.objs.size<=b->Off P env ak b:=λb hb=>let⟨q1,q2,q3,q4,_⟩:=F'.beyond hb;(ip q2 q1 q3 q4);have apart:sa (s'.heap.objs.size+4) (s'.heap.objs.size+2) (s'.heap.objs.size+3) s'.heap.objs.size (s'.heap.objs.size+1):=by constructor<;>(lia)
 clear bg;induction src with
  |uu=>
   obtain⟨_,_,rfl,r1,rx⟩:=rx;obtain⟨_,_,rfl,r2,rx⟩:=rx;subst rx;refine eS r1 λj j j bT e1 z1 Xc=>?_;rw[bT];refine eS r2 λj j j bT e2 z2 Ez=>?_;rw[bT];refine Xz (fB e1) (fB e2) λh' q1 q2 q3 q4 q5 q6 hk=>?_;refine ag7 q1 ?_;have kh:=λb o e=>cR.mpr ⟨cV (bj (dW e) (dE _ 3)),hk b o e⟩;obtain⟨o4,a4,b4⟩:=q4;refine aq q5 λo5 a5 b5=>?_;refine LS (K:=K) (r:=r) (R:=R) (N:=N) ur.uu hlen apart mj BF bJ (λX' u v rest cu ak q=>jI X' u v rest cu ak q) (λcu ak q=>(fin cu ak q).1) ?_ ?_ a g (F'.grow (h':=ew h' (·==s'.heap.objs.size+3)) kh) q1 q2 q3 (AJ ⟨o4,cR.mpr ⟨l1 171641092,a4⟩,b4⟩ ⟨o5,cR.mpr ⟨l1 2746257620,a5⟩,b5⟩ (kh _ _ e1) (kh _ _ e2) (z1.keep λb o j j q j j=>kh b o q) (z2.keep λb o j j q j j=>kh b o q)) (off _ ((dE _ _))) (off _ ((bq _))) (off _ ((kE _))) (off _ ((dE _ _))) i0;·intro nO cu nR ug q;exact⟨cu,nR,ug,(fin cu nR q).2⟩
   ·intro nO v x nR rv FL hr;exact⟨v,nR,rv,FL,hr⟩|lists h1 h2 hz=>
   obtain⟨_,_,rfl,r1,rx⟩:=rx;obtain⟨_,_,rfl,r2,rx⟩:=rx;subst rx;subst r1;subst r2;refine ba (F'.toSRel.list h1) λxs1 n1 c1 d1 l1=>?_;refine ba (F'.toSRel.list h2) λxs2 n2 c2 d2 l2=>?_;refine call_zip_2 (fO c1) (fO c2) λh' q1 q2 q3 q4 q5 q6 hk=>?_;refine ag7 q1 ?_;have kh:=λb o e=>cR.mpr ⟨cV (bj (dW e) (dE _ 3)),hk b o e⟩;refine aq q4 λo4 a4 b4=>?_;refine aq q5 λo5 a5 b5=>?_;refine LS (K:=K) (r:=r) (R:=R) (N:=N) (ur.lists hz) hlen apart mj BF bJ (λX' u v rest cu ak q=>jI X' u v rest cu ak q) (λcu ak q=>(fin cu ak q).1) ?_ ?_ a g (F'.grow (h':=ew h' (·==s'.heap.objs.size+3)) kh) q1 q2 q3 ⟨⟨o4,cR.mpr ⟨by lia,a4⟩,b4⟩,⟨o5,cR.mpr ⟨by lia,a5⟩,b5⟩⟩ (off _ ((dE _ _))) (off _ ((bq _))) (off _ ((kE _))) (off _ ((dE _ _))) i0;·intro nO cu nR ug q;exact⟨cu,nR,ug,(fin cu nR q).2⟩
   ·intro nO v x nR rv FL hr;exact⟨v,nR,rv,FL,hr⟩
end
end
section
def XM:typeLookup (.type "tuple") "keys"=pure ah:=by kernel_rfl
section
variable{prog:cx}{w:aZ}{A:cQ}{E:aF->aK->Prop}{s:aK}{a:hJ}
def XN(hx:s.heap.get? a=af (gO xs k))(hA:A.handled=ah)(h:∀h' tk,(∀b o,s.heap.get? b=af o->h'.get? b=af o)->Q ah {s with heap:=h',toks:=tk}):aY (aU prog w) A (getAttr? (.ref a) "keys") Q E s:=by
 obtain⟨hp,g,d,tk,os⟩:=s;have hT:∀r9,(⟨hp,g,d,r9,os⟩:aK).TypeIs (.ref a) "tuple":=λu=>(aA _ hx rfl);have f1:=sub_AttributeError;have f3:=QV.lookup;have f4:=QV.bind (.ref a);have f5:=am_tuple_getattr_none;have XO:=XM;repeat(any_goals(first|assumption|exact hT _|((with_reducible refine(?_:aY _ _ (dR (aF.builtin "tuple.__getattribute__") _ _) _ _ _));refine DR QV (hT _) am_entry_tuple_getattribute (PySem.F.args_tuple_getattribute_2 _ _) (meets_getattribute_miss_tuple a xs k #[] (qa "keys") _ XO (by decide+kernel)) (cM hx hA (λh' r9 e mv=>?_)))|wp_step))
 refine qh mv.there λt' u' he=>?_;delta getattributeRaised;repeat(any_goals(first|assumption|wp_step))
 exact h h' r9 mv.keeps
end
def LZ:Jf Jo "dict.update.loop"=af Builtin.«dict.update.loop»:=ag8 (by kernel_rfl)
def L8:plainId "dict.update.loop"=ai:=by decide+kernel
def kj(ps:ag (V×V))(es:ag (V×V)):ag (V×V):=ps.foldl (λes p=>dt es p.1 p.2) es
section
variable [dq:Hid]
variable{prog:cx}{w:aZ}{K:cJ}{r:aa}{env:bI}{loc:Loc}{st:aE}{A:cQ}{P:bE}{s:aK}{E:aF->aK->Prop}
def XQ(h:p∈dt es k v):p.1=k\/p.1∈es.map (·.1):=by
 delta dt at h;cases q:eY es k with
  |some i=>rw[q]at h;have:p.1∈(es.modify i λp=>(p.1,v)).map (·.1):=bt.mpr (aA p h rfl);rw[Kk]at this;exact .inr this|none=>
   rw[q]at h;rcases cw.mp h with h|h;·exact .inr (bt.mpr (aA p h rfl))
   ·rw[bU]at h;rw[h];exact .inl rfl
def XR(es:ag (V×V))(k v:V):(dt es k v).length<=es.length+1:=by delta dt;cases eY es k with|some i=>rw[List.length_modify];exact kE _|none=>simp
def bB.two(z:bB h [u,v] xs):∃x y,xs=[x,y]/\aM h u x/\aM h v y:=by obtain⟨_,_,rfl,a,z⟩:=z;obtain⟨_,_,rfl,b,z⟩:=z;rw[z];exact(bZ _ _ rfl a b)
def XS(hh:A.handled=ah)(hu:A.units+9<fA)(hk:∀p∈ps,∀q∈ps,bO 7 p.1=ai/\fC p.1 q.1=ai)(hz:ps.length<=16777216)(wx:Off P env st it)(hd:st d=ah)(L9:d≠it)(Ft:a≠it)(hR:∀s',aH w P s' env loc (st.put d (.dict (kj ps [])))->R (.ok (.ret .none)) s'):∀(rest done:ag (V×V))(s:aK)(t:Tok),ps=done++rest->aH w P s env loc (st.put d (.dict (kj done [])))->(∀p∈kj done [],p.1∈done.map (·.1))->(kj done []).length<=done.length->nI s.heap it a done.length->s.heap.get? a=af (gO items n)->bB s.heap (ps.map λp=>.tup [p.1,p.2]) items.toList->nK (aU prog w) A (.builtin "dict.update.loop" ⟨[.ref d,.ref it,.int done.length t,.none],[]⟩) R s:=by
 intro rest;induction rest with
  |nil=>
   intro done s t e F m7 hlen hit ha z;rw[bN]at e;subst e;refine vH LZ ?_;have hl:=z.length;rw[aN]at hl;refine bL (id hit) λo eo co _=>?_;refine wb (ahp (A:=A.in1) hh hit (fB ha) (by rw[z6];exact e9 hl) λh' he=>?_);have wy:Off P env (st.put d (.dict (kj ps []))) it:=(cM wx.1 (by rw[aE.gj L9.symm];exact wx.2.1) wx.2.2);refine bx (F.nZ (fp:=[it]) (ir.eI (t:=s.toks) λb o q e=>he b o q e) (λb hb=>by
    have e:b=it:=by simpa using hb
    exact e▸wy) (λb hb=>by
    have e:b=it:=by simpa using hb
    exact e▸((aA o eo (by rw[co];decide))))) λF2 _=>?_;exact wb (aG (aG (hR _ F2)))|cons p rest ih=>
   intro done s t e F m7 hlen hit ha z;refine vH LZ ?_;have hv:(ps.map λp=>V.tup [p.1,p.2])[done.length]?=af (.tup [p.1,p.2]):=by rw[e];simp
   refine aq (z.get_some hv) λx hx rx=>?_;refine bL (id hit) λo eo co _=>?_;have nt:o.cls≠.type "tuple":=by rw[co];decide
   refine wb (ahi hit (fB ha) (x:=x) (by exact jW▸hx) λh' lB hV=>?_);have kx:=hV.extBut;have wy:Off P env (st.put d (.dict (kj done []))) it:=(cM wx.1 (by rw[aE.gj L9.symm];exact wx.2.1) wx.2.2);refine bx (F.nZ (fp:=[it]) (ir.eI (h':=h') (t:=s.toks) kx) (λb hb=>by
    have e:b=it:=by simpa using hb
    exact e▸wy) (λb hb=>by
    have e:b=it:=by simpa using hb
    exact e▸((aA o eo nt)))) λF2 pC=>?_;have XT:=rx.keep pC;refine eS XT λ_ _ _ bT ep zp hxp=>?_;rw[bT];rename_i pa ahK pn;refine ba zp.two λxk xv el r1 r2=>?_;refine wb (dU ?_);refine cD (wpAny_tryCatch (cC (Q:=λl s'=>l=[xk,xv]/\s'={s with heap:=h'}) (E:=λ_ _=>dv) ?_ (λl s' q=>?_) λ_ _ x=>x.elim));·refine wb (DK (T:="tuple") (aA _ ep rfl) ?_);refine wb (oW ep rfl (aG ?_));exact⟨el,rfl⟩
   obtain⟨rfl,rfl⟩:=q;dsimp only;have kf:eM (kj done []) p.1:=⟨(hk p (by rw[e];simp) p (by rw[e];simp)).1,λq hq=>by refine aq (bt.mp (m7 q hq)) λp' kX e'=>?_;exact e'▸((hk p' (by rw[e];simp[kX]) p (by rw[e];simp)).2)⟩;have uj:done.length<=ps.length:=by rw[e];simp
   refine bL (id lB) λo2 XU XW XX=>?_;have XY:(bE.all env (st.put d (.dict (kj done []))) {s with heap:=h'}).h.get? it=af o2:=eD.mpr ⟨mZ wy.2.1 wy.2.2.1 wy.2.2.2,XU⟩;refine dU (Bd (by exact Ir hu) F2.all (aE.lY ..) r1 r2 kf (l3 0x10000007a1702121110000007a01 hz hlen uj) λs3 BI Bk=>?_);have F3:=F2.back BI;have XZ:=BI.keep _ _ XY;rw[aE.E2]at F3;have ea:dt (kj done []) p.1 p.2=kj (done++[p]) []:=by unfold kj;simp only[List.foldl_append];rfl
   rw[ea]at F3;have X0:nI s3.heap it a (done++[p]).length:=by rw[bD];exact(bH o2 XZ XW XX)
   have X1:((done.length:bp)+1)=(((done++[p]).length:aa):bp):=by simp
   refine aG ⟨Av L8 _,?_⟩;have:=ih (done++[p]) s3 0 (by rw[e];simp) F3 (λq hq=>?_) ?_ X0 (Bk _ _ _ _ (pC _ _ _ _ ha rfl rfl) rfl rfl) ((z.keep pC).keep Bk);·rw[←X1]at this;exact this
   ·rw[←ea]at hq;rcases XQ hq with q1|q1;·rw[q1];simp
    ·refine aq (bt.mp q1) λp' kX e'=>?_;rw[←e',cy];exact de _ (m7 p' kX)
   ·rw[←ea,bD];exact bG (XR _ _ _) (by simpa using hlen)
def X3(hk:∀p∈ps,∀q∈ps,bO 7 p.1=ai/\fC p.1 q.1=ai)(hz:ps.length<=16777216)(h:∀b,st b=ah->Q (.ref b) (st.put b (.dict (kj ps [])))):OV prog w K (r+1) env (λxs=>dR (.type "dict") xs) [.tup (ps.map λp=>.tup [p.1,p.2])] loc st Q:=λA P s xs a _ F rx=>by
 refine ba rx λ_ _ aC ru rn=>?_;rw[aC];rw[rn];refine eS ru λ_ _ _ bT ex zx hx=>?_;rw[bT];rename_i pa items pn;refine kM (F.beyond (bq s.heap.objs.size)) λb1 b2 b3 b4 b5=>?_;refine callType_codes (Q₁:=λobj s₁=>obj=.ref s.heap.objs.size/\s₁={s with heap:=s.heap.push {cls:=.type "dict",data:=.dict #[]}}) PySem.F.kt_called_dict (PySem.F.kt_typeCall_dict_1 _) PySem.F.entry_dict_init (kt_code_dict_new _ ⟨rfl,rfl⟩) ?_;rintro obj s₁⟨rfl,rfl⟩;have kU:(s.heap.push {cls:=.type "dict",data:=.dict #[]}).get? s.heap.objs.size=af {cls:=.type "dict",data:=.dict #[]}:=eG _ rfl;have kk:∀b o,s.heap.get? b=af o->(s.heap.push {cls:=.type "dict",data:=.dict #[]}).get? b=af o:=λb o q=>cB _ q;have F1:aH w P {s with heap:=s.heap.push {cls:=.type "dict",data:=.dict #[]}} env loc (st.put s.heap.objs.size (.dict [])):=by exact(F.grow kk).adopt (o:=.dict []) b5 b2 b3 b4 kU (bZ ([]) 0 rfl .nil .nil)
 have wA:=kk _ _ ex;refine(cM (aA _ kU rfl) (PySem.F.args_dict_init_2 _ _) ?_);refine wb ?_;refine wb (Dv (aA _ kU rfl) ?_);refine aG ?_;refine wb (DK (T:="tuple") (aA _ wA rfl) ?_);refine wb (XN (xs:=items) (k:=pn) wA a.handled λh' tk kp=>?_);refine wb (jZ ?_);refine wb (iter_tuple (fB (kp _ _ wA)) ?_);have hsz:=dW (kp _ _ kU);refine kM (((F1.grow (h':=h') kp).tok (t:=tk)).beyond (bq _)) λc1 c2 c3 c4 c5=>?_;have yv:∀o b x,h'.get? b=af x->(h'.push o).get? b=af x:=λo b x q=>cB _ q;refine aG ⟨Av L8 _,?_⟩;have F3:=((F1.grow (h':=h') kp).tok (t:=tk)).grow (h':=h'.push {cls:=.type "tuple_iterator",data:=.fields #[.ref pa,.int 0 0]}) (yv _);have au:=a.units;refine XS (A:=A.in1) (prog:=prog) (w:=w) (ps:=ps) (d:=s.heap.objs.size) (it:=h'.objs.size) (a:=pa) (loc:=loc) (P:=P) (env:=env) (st:=st) (by exact a.handled) ?_ hk hz ?_ b1 ?_ ?_ (λs' F'=>⟨rfl,?_⟩) ps [] _ 0 rfl F3 (by simp[kj]) (by simp[kj]) (by exact(bH _ (eG _ rfl) rfl rfl)) (yv _ _ _ (kp _ _ wA)) ?_;·delta fA;lia
 ·exact(ip c2 (by rw[←c1,aE.gj (jY hsz)]) c3 c4)
 ·exactλq=>bA (q▸hsz) (i6 _)
 ·exactλq=>bA (q▸dW (kp _ _ (kk _ _ ex))) (i6 _)
 ·exact zx.keep λb o _ _ q _ _=>yv _ _ _ (kp _ _ (kk _ _ q))
 ·exact⟨_,_,.ref _,F',h _ b1⟩
end
end
section
section
variable [dq:Hid]
variable{prog:cx}{w:aZ}{A:cQ}{E:aF->aK->Prop}{s:aK}
noncomputable def setOf(es:b9 (bp×aF))(n:aa)(t:fc):cY:=⟨.type "set",ah,.set es n t,#[]⟩
def eV.length(z:eV w h vs l):l.length=vs.length:=by induction z with|nil=>rfl|cons _ _ _ ih=>simp[ih]
def eV.perm(p:l.Perm l'):∀{vs:ag V},eV w h vs l->∃gG,eV w h gG l'/\vs.Perm gG:=by
 induction p with
  |nil=>exactλz=>(aA _ z (.refl _))|cons e _ ih=>intro vs z;cases z with|cons a b z=>refine aq (ih z) λgG h1 h2=>?_;exact(aA _ (.cons a b h1) (h2.cons _))
  |swap e f l=>intro vs z;cases z with|cons a b z=>cases z with|cons c d z=>exact(aA _ (.cons c d (.cons a b z)) (.swap ..))
  |trans _ _ FN ph=>intro vs z;refine aq (FN z) λv1 h1 h2=>?_;refine aq (ph h1) λv2 h3 h4=>?_;exact(aA v2 h3 (h2.trans h4))
def eV.append(z:eV w h vs l)(y:eV w h us m):eV w h (vs++us) (l++m):=by induction z with|nil=>exact y|cons a b _ ih=>exact .cons a b ih
def wB(w:aZ)(h:cL)(a:aa)(vs:ag V)(v:V)(led:bw)(yw:Prop)(h':cL):Prop:=s9 a h h'/\∃fD n' t' gG,h'.get? a=af (setOf fD n' t')/\eV w h gG fD.toList/\((v∈vs/\gG.Perm vs)\/((yw->v∉vs)/\gG.Perm (vs++[v])))/\fK t' fD.size/\t'.led=led
def BL{es:b9 (bp×aF)}{order:b9 aa}(hp:order.toList.Perm (bS es.size)):(order.filterMap (es[·]?)).toList.Perm es.toList:=by rw[Array.toList_filterMap];exact(hp.filterMap _).trans (by rw[filterMap_getElem?_range])
def X4(h:t.relaid (es.map (·.1)) wanted=af (t',order))(hp:order.toList.Perm (bS es.size))(g:fK t' es.size):DW t es wanted=(order.filterMap (es[·]?),t',aD):=by delta DW;rw[h];dsimp only;rw[a0];rw[xy];exact⟨by exact List.isPerm_iff.mpr hp,by rw[(by have:=(BL hp).length_eq;rwa [fh,fh]at this:(order.filterMap (es[·]?)).size=es.size)];exact g.fits⟩
structure KR{K:Type} [SO K](knd:KeyKind prog w K)(enc:K->V):Prop where
 inj:∀a b,enc a=enc b->a=b
 is:∀{h:cL}{k x},aM h (enc k) x->knd.is k x=ai/\x.scannable=ai
 hash:∀k,V.hash w (enc k)=knd.hash k
 key:∀k n,bO n (enc k)=ai
def KR.int:KR (intKind prog w) V.int where
 inj:=λa b h=>by cases h;rfl
 is:=λ{h k x}r=>by obtain⟨_,rfl⟩:=r;exact⟨intKind_is _ _ _ _,rfl⟩
 hash:=λk=>rfl
 key:=λk n=>by induction n using jo<;>rfl
def KR.str:KR (nH prog w) V.str where
 inj:=λa b h=>by cases h;rfl
 is:=λ{h k x}r=>by obtain⟨_,rfl⟩:=r;exact⟨strKind_is _ _ _ _,rfl⟩
 hash:=λk=>rfl
 key:=λk n=>by induction n using jo<;>rfl
section
variable{K:Type} [SO K]{knd:KeyKind prog w K}{enc:K->V}
def KR.elems(R:KR knd enc):∀{ks:ag K}{l:ag (bp×aF)},eV w h (ks.map enc) l->ElemsOf knd l:=by
 intro ks;induction ks with
  |nil=>intro l z;cases z;exactλe he=>by contradiction|cons k ks ih=>
   intro l z;cases z with
    |cons a b z=>
     intro e he;rcases cg.mp he with rfl|he;·exact⟨(aA k ((R.is a).1) (R.hash k)),(R.is a).2⟩
     ·exact ih z e he
def KR.find(R:KR knd enc):∀{ks:ag K}{l:ag (bp×aF)},eV w h (ks.map enc) l->(l.findIdx? (λe=>knd.is k e.2)=ah↔k∉ks):=by
 intro ks;induction ks with
  |nil=>intro l z;cases z;simp|cons k' ks ih=>
   intro l z;cases z with
    |cons a b z=>
     rw[xw];rw[(KeyKind.is_eq_decide (R.is a).1 k)];by_cases q:k=k';·simp[q]
     ·simp only[q,cg,false_or];rw[afN];exact ih z
def wH{α:Type}{M:Model}{A:cQ}{E:aF->aK->Prop}{s:aK}{b:bw}{x k:fU α}{Q:α->aK->Prop}(e:b=aD)(h:aY M A k Q E s):aY M A (if b=ai then x else k) Q E s:=by subst e;exact h
def wG{α:Type}{M:Model}{A:cQ}{E:aF->aK->Prop}{s:aK}{b:bw}{x k:fU α}{Q:α->aK->Prop}(e:b=ai)(h:aY M A k Q E s):aY M A (if b=ai then k else x) Q E s:=by subst e;exact h
def Ma(R:KR knd enc){a:hJ}{es:b9 (bp×aF)}{n:aa}{t:fc}{ks:ag K}{k:K}{x:aF}{Q:bw->aK->Prop}(ho:s.heap.get? a=af (setOf es n t))(z:eV w s.heap (ks.map enc) es.toList)(g:fK t es.size)(hn:es.size+1<64)(rx:aM s.heap (enc k) x)(h:∀b h',wB w s.heap a (ks.map enc) (enc k) t.led iD h'->Q b {s with heap:=h'}):aY (aU prog w) A (setAddHashed a x (knd.hash k)) Q E s:=by
 refine bx (R.is rx) λMb Mc=>?_;have FO:enc k∈ks.map enc↔k∈ks:=⟨λq=>by refine aq (bt.mp q) λk' h1 h2=>?_;exact(R.inj _ _ h2)▸h1,λq=>gK q⟩;have hb:=byScan_of Mc (bF (bj hn (aL rfl))) (R.elems z);cases hr:List.findIdx? (λe=>knd.is k e.2) es.toList with
  |some j=>
   have hk:k∈ks:=xp λq=>by rw[(R.find z).mpr q]at hr;nomatch hr
   refine dU (cD (lS ho rfl g.fits (wG hb ?_)));refine wb ?_;refine wb (jZ ?_);refine cD (ag6 Mb ho rfl g.fits (R.elems z) ?_);rw[hr];exact aG (aG (h _ s.heap (dD (Rc a s.heap) (rL es n t _ ho z (.inl ⟨FO.mpr hk,.refl _⟩) g rfl))))|none=>
   have hk:=(R.find z).mp hr;refine bL (Tt g (knd.hash k)) λj fs j1 j2=>?_;refine D7 (g.add hn j1 j2 (if t.plain then SD x else t.plain)) λt1 q1 q2 q3 q4 q5 q6 q7 bg=>gf bg λq8 q9 BM=>?_;generalize wC:pZ es (t.put j).2 (knd.hash k,x)=fM at*;have hsz:fM.size=es.size+1:=by rw[←wC,Ek]
   have hL:layNew t es (knd.hash k) x=(fM,t1,aD,aD):=by
    delta layNew;rw[fs];dsimp only;have:(t.put j)=(t1,(t.put j).2):=by rw[←q1]
    rw[this];rw[wC];simp only[fc.orStandIn,(by simp[RJ,q2,q3,hsz,q5,q8]:t1.fits fM.size=ai),xR,Bool.not_true]
   refine aq ((z.append (by rw[←R.hash];exact .cons rx (R.key k 7) .nil)).perm (by rw[←wC,←Af];exact H8 ..:fM.toList.Perm (es.toList++[(knd.hash k,x)])).symm) λgG z1 p1=>?_;have upd:∀(h0:cL)e e' m T T',h0.get? a=af (setOf e m T)->(h0.update a (AA e' T')).get? a=af (setOf e' (m+1) T'):=λh0 e e' m T T' q=>by have:=vo (AA e' T') q (by rfl);exact this
   have fin:∀(pl:bw),pl=(if t.plain then SD x else t.plain)->∀{gw:bw->fU kK}{R:d6 bw->aK->Prop}(hg:∀(s₁:aK)(Q':kK->aK->Prop),Q' () s₁->aY (aU prog w) A (gw aD) Q' E s₁)(hR:∀h',wB w s.heap a (ks.map enc) (enc k) t.led iD h'->R (af ai) {s with heap:=h'})(t2:fc)(ht:t2={t1 with plain:=pl}),aY (aU prog w) A (do SG a fM t2;if(!aD&&t2.tooFull)=ai then do gw (DW t2 fM (p9 fM.size)).2.2;SG a (DW t2 fM (p9 fM.size)).1 (DW t2 fM (p9 fM.size)).2.1;pure (af ai)else pure (af ai)) R E s:=by
    rintro pl X5 gw R hg hR t2 rfl;rw[←X5]at q9 BM;refine cD (IB ho rfl ?_ (by exact l2 0x10000007a170d13402a0d2 hn hsz));have u1:=upd s.heap es fM n t {t1 with plain:=pl} ho;have jJ:=vq s.heap a (AA fM {t1 with plain:=pl});cases tf:({t1 with plain:=pl}:fc).tooFull with
     |false=>rw[Bool.and_false];exact aG (hR _ (dD jJ (rL fM (n+1) _ gG u1 z1 (.inr ⟨λu q=>hk (FO.mp q),p1.symm⟩) (by rw[hsz];exact q9 tf) q6)))|true=>
      refine bx (BM tf (fM.map (·.1)) (by rw[agF,hsz])) λs1 bg=>j4 bg λt' order r1 r2 r3 r4 r5=>?_;rw[←hsz]at r1 r2 r3;have X6:=X4 r1 r2 r3;rw[X6];have wD:(order.filterMap (fM[·]?)).size=fM.size:=by have:=(BL r2).length_eq;rwa [fh,fh]at this
      refine wb (hg _ _ ?_);refine wb (IB u1 rfl ?_ (by exact l3 0x10000007a271230d13402a0d2 hn hsz wD));refine aq (z1.perm (BL r2).symm) λFQ z2 p3=>?_;exact aG (hR _ (dD (jJ.trans (vq _ a _)) (rL _ (n+1+1) t' FQ (upd _ _ _ _ _ _ u1) z2 (.inr ⟨λu q=>hk (FO.mp q),(p1.trans p3).symm⟩) (by rw[wD];exact r3) r4)))
   refine dU (cD (lS ho rfl g.fits (wG hb ?_)));refine wb ?_;refine wb (jZ ?_);refine cD (ag6 Mb ho rfl g.fits (R.elems z) ?_);rw[hr,hL];refine wb (aG ?_);cases tp:t1.plain with
    |true=>refine wb ?_;rw[hashByValue_scannable 8 Mc];refine aG ?_;cases pk:SD x with|true=>exact fin ai (by rw[←q7,tp,pk];rfl) (λs₁ Q' q=>aG q) (λh' q=>aG (h _ _ q)) t1 (by rw[←tp])|false=>exact fin aD (by rw[←q7,tp,pk];rfl) (λs₁ Q' q=>aG q) (λh' q=>aG (h _ _ q)) _ rfl
    |false=>refine wb (aG ?_);exact fin aD (by rw[←q7,tp];rfl) (λs₁ Q' q=>aG q) (λh' q=>aG (h _ _ q)) t1 (by rw[←tp])
end
end
end
section
set_option tactic.hygienic true
set_option tactic.hygienic true
section
variable [dq:Hid]
variable{prog:cx}{w:aZ}{A:cQ}{E:aF->aK->Prop}{s:aK}
def Md(n:aa):∀{A:cQ}{E:aF->aK->Prop}{s:aK}{u:V}{x:aF}{Q:bw->aK->Prop}(m:aa),n<=m->bO n u=ai->aM s.heap u x->Q aD s->aY (aU prog w) A (agV m x) Q E s:=by
 induction n using p8 with
  |_ n ih=>
   intro A E s u x Q m hm ku ru h;refine t5 ku ru (λi t e1 e2=>?_) (λi t e1 e2=>?_) λn us a items k e0 e1 e2 e z ku=>?_;·subst e1 e2;cases m<;>exact aG h
   ·subst e1 e2;cases m<;>exact aG h
   ·clear ru;subst e0 e1 e2;induction m using jo with
     |zero=>exact bA hm (Dw n)|succ m=>
      delta agV at ih⊢;refine wb (DK ((aA _ e rfl)) ?_);refine wb (m:=pure ai) (aG ?_);refine wb (oW e rfl ?_);refine wb (m:=forIn items _ _) ?_;rw[←Ij];refine xB _ (λrest r s'=>r.1=ah/\s'=s/\∃hW,eU n hW=ai/\bB s.heap hW rest) _ (λv rest r s' q=>?_) (λr s' q=>?_) _ _ (cM rfl rfl (aA us ku z));·refine gf q λhr bQ bg=>aq bg λhW vW z'=>?_;rw[bQ];induction hW using b7 with|nil=>exact by contradiction|cons u hW=>refine ba z' λo o e q1 q2=>?_;obtain⟨rfl,rfl⟩:=cq e;obtain⟨k1,k2⟩:=bM.mp vW;exact wb (ih n (f9 n) m (Dt hm) k1 q1 (aG (cM rfl rfl (aA _ k2 q2))))
      ·obtain⟨r1,r2⟩:=r;clear e;obtain⟨hr,rfl,_⟩:=q;subst hr;exact aG h
def X7(kv:bO 7 v=ai)(rv:aM s.heap v x)(FU:∀y∈ys,∃u,bO 7 u=ai/\aM s.heap u y)(h:Q aD s):aY (aU prog w) A (searchCouldBeSeen x ys) Q E s:=by
 refine wb ?_;refine xB _ (λrest r s'=>r.1=ah/\s'=s/\∀y∈rest,∃u,bO 7 u=ai/\aM s.heap u y) _ ?_ ?_ _ _ (cM rfl rfl FU);·
  intro y rest r s' zi;refine gf zi λhr bQ hy=>?_;rw[bQ];refine aq (hy y aR) λu ku ru=>?_;have Me:=λz hz=>hy z (bK _ hz);refine vG (λo=>?_) (λo=>?_);·exact aG ⟨rfl,rfl,Me⟩
  ·refine wb (A7 7 8 (by decide) kv rv ?_);refine cD (A7 7 8 (by decide) ku ru ?_);refine cD (Md 7 8 (by decide) kv rv ?_);refine cD (Md 7 8 (by decide) ku ru ?_);exact aG ⟨rfl,rfl,Me⟩
 ·rintro⟨r1,r2⟩s'⟨hr,rfl,_⟩;subst hr;exact aG h
def X8(n:aa):∀{A:cQ}{E:aF->aK->Prop}{s:aK}{u:V}{x:aF}{Q:bw->aK->Prop}(m:aa),n<=m->bO n u=ai->aM s.heap u x->(∀b,Q b s)->aY (aU prog w) A (Sr m x) Q E s:=by
 induction n using p8 with
  |_ n ih=>
   intro A E s u x Q m hm ku ru h;refine t5 ku ru (λi t e1 e2=>?_) (λi t e1 e2=>?_) λn us a items k e0 e1 e2 e z ku=>?_;·subst e1 e2;unfold Sr;exact aG (h _)
   ·subst e1 e2;unfold Sr;exact aG (h _)
   ·clear ru;subst e0 e1 e2;induction m using jo with
     |zero=>exact bA hm (Dw n)|succ m=>
      refine wb (xD ((aA _ e rfl)) DC.lookup ?_);refine wb (oW e rfl ?_);refine wb (m:=forIn items _ _) ?_;rw[←Ij];refine xB _ (λrest r s'=>s'=s/\∃hW,eU n hW=ai/\bB s.heap hW rest) _ (λv rest r s' q=>?_) (λr s' q=>?_) _ _ (dD rfl (aA us ku z));·clear z;obtain⟨rfl,hW,vW,z'⟩:=q;induction hW using b7 with|nil=>exact by contradiction|cons u hW=>refine ba z' λo o e q1 q2=>?_;obtain⟨rfl,rfl⟩:=cq e;obtain⟨k1,k2⟩:=bM.mp vW;refine wb (ih n (f9 n) m (Dt hm) k1 q1 λb=>?_);induction b with|true=>exact aG (dD rfl (aA _ k2 q2))|false=>exact aG (aG (h _))
      ·clear e;obtain⟨rfl,_⟩:=q;obtain⟨r1,r2⟩:=r;induction r1 with|none=>exact aG (h _)|some b=>exact aG (h _)
def eV.get(z:eV w h vs l)(hp:p∈l):∃u∈vs,aM h u p.2/\bO 7 u=ai:=by
 induction z with
  |nil=>contradiction|cons a b _ ih=>
   rcases cg.mp hp with rfl|hp;·exact(bH _ aR a b)
   ·refine aq (ih hp) λu h1 h2=>?_;exact⟨u,bK _ h1,h2⟩
def fK.Mf(g:fK t n):t.gaveWay=aD:=by delta fc.gaveWay;rcases g.mask with q|q|q<;>rw[q]<;>decide
def X9(t:fc):t.sameMemory t.moves t.mask=af ai:=by delta fc.sameMemory;simp
def Yb(ho:s.heap.get? a=af (setOf es n t))(z:eV w s.heap vs es.toList)(g:fK t es.size)(hu:A.units+7<fA)(kv:bO 7 v=ai)(rv:aM s.heap v (.ref b))(hk:∀u∈vs,fC u v=ai/\∃l,u=.tup l)(he:e∉t.place.toList)(h1:v∈vs->∀i,Q (.there i) s)(h2:∀j,j<=t.mask->j∉t.place.toList->Q (.free j aD) s):∀(fuel K:aa)(BN:d6 oU),PV t.mask (BN.getD (t.probeStart hh))->tu t e K (BN.getD (t.probeStart hh))->K<=10*(t.mask+13)->K<fuel->aY (aU prog w) A (setSearchFrom a (.ref b) hh ai fuel BN) Q E s:=by
 intro fuel;induction fuel with
  |zero=>exactλK o o o o h=>bA h (nG _)|succ fuel ih=>
   intro K BN pv nr hK hf;refine aq (JE (hashAt:=λi=>(es[i]?.map (·.1)).getD 0) (h:=hh) g.mask g.rO g.up he pv nr hK) λmet m1 m2=>?_;rcases m2 with⟨j,rfl,j1,j2⟩|m2;·refine cD (lS ho rfl g.fits (wH g.Mf ?_));erw [m1];exact aG (h2 j j1 j2)
   refine xT m2 λj i dB zk i1 i2 o d=>bx d λi3 zr=>aq zr λK' i4 i5=>?_;subst zk;have hi:i<es.size:=by exact g.size▸((sX.mp i2).1)
   have hy:=Dp hi;refine bL (z.get (p:=es[i]) (by simp)) λu u1 u2 u3=>?_;obtain⟨Yc,l,rfl⟩:=hk u u1;have FU:∀y∈((es.filter (·.1==hh)).toList.map (·.2)),∃u,bO 7 u=ai/\aM s.heap u y:=λy qv=>by
    refine aq (bt.mp qv) λp hp aC=>?_;rw[←aC];have hp:p∈es.toList:=by rw[Ri]at hp⊢;exact(Array.mem_filter.mp hp).1
    refine bL (z.get hp) λu o a b=>?_;exact(aA u b a)
   generalize hE:es[i]=ei at*;obtain⟨iq,yi⟩:=ei;clear hE;obtain⟨c,rfl⟩:∃c,yi=.ref c:=(by refine gN (Kg u2) λc o o q o=>?_;exact(gE c q));refine cD (lS ho rfl g.fits (wH g.Mf ?_));erw [m1];refine(λfin=>vG (λo=>cD (X7 kv rv FU fin)) (λo=>fin)) ?_;rw[hy];refine wb (dU (x9 prog w 7 hu u3 kv Yc u2 rv ?_));refine cD (lS ho rfl g.fits (vG (λq=>?_) λq=>?_));·exact aG (h1 (gD q▸u1) _)
   ·rw[X9];dsimp only;rw[a0 (rfl:ai=ai),i1];dsimp only;rw[hy];refine wb (wpAny_isSame_ref_self (wb (aG ?_)));exact wH ((Bool.not_eq_true _).mp q) (ih K' (af dB) i3 i5 (by lia) (by lia))
def Yd(ho:s.heap.get? a=af (setOf es n t))(z:eV w s.heap vs es.toList)(g:fK t es.size)(hn:es.size+1<64)(hu:A.units+7<fA)(kv:bO 7 v=ai)(rv:aM s.heap v (.ref b))(hk:∀u∈vs,fC u v=ai/\∃l,u=.tup l)(h:∀r h',wB w s.heap a vs v t.led dv h'->Q r {s with heap:=h'}):aY (aU prog w) A (setAddHashed a (.ref b) (V.hash w v)) Q E s:=by
 refine aq g.free λe e1 e2=>?_;have pv:=PV.start t (V.hash w v);refine dU (cD (lS ho rfl g.fits ?_));dsimp only;rw[show byScan (.ref b) es=aD from rfl];refine wb ?_;have hm:=g.mask;unfold lu at hm;refine Yb ho z g hu kv rv hk e2 (λhv i=>?_) (λj j1 j2=>?_) 100000 (10*(t.mask+13)) ah pv (near g.mask pv e1) (bq _) (by lia);·exact aG (h _ _ (dD (Rc a s.heap) (rL es n t _ ho z (.inl ⟨hv,.refl _⟩) g rfl)))
 ·refine cD (lS ho rfl g.fits ?_);dsimp only;have main:∀pl:bw,∀t2,t2={(t.put j).1 with plain:=pl}->aY (aU prog w) A (do SG a (pZ es (t.put j).2 (V.hash w v,.ref b)) t2;if(!aD&&t2.tooFull)=ai then do setRelay a (p9 (es.size+1));pure ai else pure ai) Q E s:=by
   rintro pl t2 rfl;refine D7 (g.add hn j1 j2 pl) λt1 q1 q2 q3 q4 q5 q6 q7 bg=>gf bg λq8 q9 BM=>?_;rw[q1];generalize wC:pZ es (t.put j).2 (V.hash w v,.ref b)=fM at*;have hsz:fM.size=es.size+1:=by rw[←wC,Ek]
   have zz:eV w s.heap (vs++[v]) (es.toList++[(V.hash w v,.ref b)]):=z.append (.cons rv kv .nil);refine aq (zz.perm (by exact wC▸Af▸(H8 ..):fM.toList.Perm (es.toList++[(V.hash w v,.ref b)])).symm) λgG z1 p1=>?_;have upd:∀(h0:cL)e e' m T T',h0.get? a=af (setOf e m T)->(h0.update a (AA e' T')).get? a=af (setOf e' (m+1) T'):=λh0 e e' m T T' q=>by have:=vo (AA e' T') q (by rfl);exact this
   refine wb (IB ho rfl ?_ (by exact l2 0x10000007a170d13402a0d2 hn hsz));have u1:=upd s.heap es fM n t {t1 with plain:=pl} ho;have jJ:=vq s.heap a (AA fM {t1 with plain:=pl});cases tf:({t1 with plain:=pl}:fc).tooFull with
    |false=>exact aG (h _ _ (dD jJ (rL fM (n+1) _ gG u1 z1 (.inr ⟨λq=>q.elim,p1.symm⟩) (by exact hsz▸(q9 tf)) q6)))|true=>
     refine bx (BM tf (fM.map (·.1)) (by rw[agF,hsz])) λs1 bg=>j4 bg λt' order r1 r2 r3 r4 r5=>?_;rw[←hsz]at r1 r2 r3;have p2:=BL r2;have wD:(order.filterMap (fM[·]?)).size=fM.size:=by have:=p2.length_eq;rwa [fh,fh]at this
     have f1:({t1 with plain:=pl}:fc).fits fM.size=ai:=by have:({t1 with plain:=pl}:fc).fill=es.size+1:=q3;have Ye:({t1 with plain:=pl}:fc).place.size=es.size+1:=q2;simp only[RJ,Ye,this,hsz,jr,agP,AH];exact l3 195172307204 q5 q8
     refine wb (cD (lS u1 rfl f1 ?_));dsimp only;rw[aX (by exact l1 0xa010000007a2802a01 s1)];rw[hsz]at r1;rw[r1];refine wb ?_;refine(?_:aY _ _ (if((Array.filterMap (λx=>fM[x]?) order).size !=fM.size)=ai then _ else _) _ _ _);rw[aX (by rw[wD];simp)];refine aG ?_;refine IB u1 rfl ?_ (by exact l3 0x10000007a271230d13402a0d2 hn hsz wD);refine aq (z1.perm p2.symm) λFQ z2 p3=>?_;exact aG (h _ _ (dD (jJ.trans (vq _ a _)) (rL _ (n+1+1) t' FQ (upd _ _ _ _ _ _ u1) z2 (.inr ⟨λq=>q.elim,(p1.trans p3).symm⟩) (by rw[wD];exact r3) r4)))
  cases tp:(t.put j).1.plain with
   |true=>refine cD (X8 7 8 (by decide) kv rv λbv=>?_);induction bv with|true=>simp only[xR];exact main ai _ (by rw[←tp])|false=>exact main aD _ rfl
   |false=>refine cD (aG ?_);simp only[xR];exact main aD _ (by rw[←tp])
end
end
section
section
variable [dq:Hid]
variable{prog:cx}{w:aZ}{A:cQ}{E:aF->aK->Prop}{s:aK}
def yx(us:ag V):Prop:=(∃ks:ag bp,us=ks.map V.int)\/(∃ks:ag aI,us=ks.map V.str)\/(∀u∈us,bO 7 u=ai/\(∃l,u=.tup l)/\∀v∈us,fC u v=ai)
def Tight(us:ag V):Prop:=∀u∈us,∀l,u≠.tup l
def BO{α β:Type}{f:α->β}:∀{vs:ag β}{ks:ag α},(∀v∈vs,v∈ks.map f)->∃js:ag α,vs=js.map f:=by intro vs;induction vs with|nil=>exactλo=>⟨[],rfl⟩|cons v vs ih=>intro ks h;obtain⟨js,rfl⟩:=ih (ks:=ks) λu hu=>h u (bK _ hu);refine aq (bt.mp (h v aR)) λk o aC=>?_;rw[←aC];exact⟨k::js,rfl⟩
def Yg(ho:s.heap.get? a=af (setOf es n t))(z:eV w s.heap vs es.toList)(g:fK t es.size)(hn:es.size+1<64)(hu:A.units+7<fA)(rv:aM s.heap v x)(ok:yx us)(hv:v∈us)(BQ:∀u∈vs,u∈us)(h:∀r tk h',wB w s.heap a vs v t.led (Tight us) h'->Q r {s with heap:=h',toks:=tk}):aY (aU prog w) A (setAdd a x) Q E s:=by
 have weak:∀{T:Prop}{h'},(Tight us->T)->wB w s.heap a vs v t.led T h'->wB w s.heap a vs v t.led (Tight us) h':=λf zf=>bx zf λx1 bg=>pb bg λfD n' t' gG x2 x3 x4 x5=>⟨x1,fD,n',t',gG,x2,x3,x4.imp id λq=>⟨λy=>q.1 (f y),q.2⟩,x5⟩;refine dU ?_;rcases ok with⟨ks,rfl⟩|⟨ks,rfl⟩|ok;·obtain⟨js,rfl⟩:=BO BQ;obtain⟨k,_,rfl⟩:=bt.mp hv;refine cD (t6 prog w 7 hu (by rfl) rv λtk=>?_);exact Ma (s:={s with toks:=tk}) (KR.int (prog:=prog)) ho z g hn rv λb h' q=>h _ _ _ (weak (λo=>cZ) q)
 ·obtain⟨js,rfl⟩:=BO BQ;refine aq (bt.mp hv) λk o aC=>?_;subst aC;refine cD (t6 prog w 7 hu (by rfl) rv λtk=>?_);exact Ma (s:={s with toks:=tk}) (KR.str (prog:=prog)) ho z g hn rv λb h' q=>h _ _ _ (weak (λo=>cZ) q)
 ·refine gf (ok v hv) λkv bQ o=>?_;obtain⟨l,rfl⟩:=bQ;refine gN (Kg rv) λb o o bT o=>?_;subst bT;refine wb (t6 prog w 7 hu kv rv λtk=>?_);exact Yd (s:={s with toks:=tk}) ho z g hn hu kv rv (λu uh=>⟨(ok u (BQ u uh)).2.2 _ hv,(ok u (BQ u uh)).2.1⟩) λb h' q=>h _ _ _ (weak (λy=>bA rfl (y _ hv l)) q)
structure uv(us done vs:ag V):Prop where
 mem:∀v,v∈vs↔v∈done
 len:vs.length<=done.length
 yw:Tight us->vs.Nodup
def uv.add(g:uv us done vs)(h:(v∈vs/\gG.Perm vs)\/((Tight us->v∉vs)/\gG.Perm (vs++[v]))):uv us (done++[v]) gG:=by
 rcases h with⟨h1,h2⟩|⟨h1,h2⟩;·refine⟨λu=>?_,by rw[h2.length_eq,bD];have:=g.len;exact Aj this,λt=>h2.nodup_iff.mpr (g.yw t)⟩;rw[h2.mem_iff,g.mem,cw,bU];exact⟨.inl,λq=>q.elim id λq=>by rw[q];exact(g.mem v).mp h1⟩
 ·refine⟨λu=>?_,by simp only[h2.length_eq,bD];have:=g.len;exact Ai this,λt=>h2.nodup_iff.mpr ?_⟩;·rw[h2.mem_iff,cw,cw,g.mem]
  ·exact gA.mpr ⟨g.yw t,by simp,λa ha b hb q=>by simp at hb;clear g h2;subst hb;exact h1 t (q▸ha)⟩
def Yh{led:bw}(hh:A.handled=ah)(hu:A.units+9<fA)(FV:S≠it)(Yi:S≠l)(Yj:it≠l)(ok:yx us)(hz:us.length<63):∀(rest done:ag V)(s:aK)(es:b9 (bp×aF))(n:aa)(t:fc)(vs:ag V),us=done++rest->s.heap.IsListIter it l done.length->s.heap.IsList l items->bB s.heap us items.toList->s.heap.get? S=af (setOf es n t)->eV w s.heap vs es.toList->fK t es.size->t.led=led->uv us done vs->(∀h' tk fD n' t' gG,(∀b o,b≠S->b≠it->s.heap.get? b=af o->h'.get? b=af o)->h'.get? S=af (setOf fD n' t')->eV w h' gG fD.toList->fK t' fD.size->t'.led=led->uv us us gG->R (.ok (.ret .none)) {s with heap:=h',toks:=tk})->nK (aU prog w) A (.builtin "set.update.loop" ⟨[.ref S,.ref it],[]⟩) R s:=by
 intro rest;induction rest with
  |nil=>intro done s es n t vs e hit hl z hS el g m9 sv hR;rw[bN]at e;subst e;refine vH af3 ?_;have hlen:=z.length;refine wb (Rk (A:=A.in1) hh hit hl (by rw[z6];exact e9 hlen) λh' he=>?_);have kp:∀b o,b≠S->b≠it->s.heap.get? b=af o->h'.get? b=af o:=λb o y q e=>he b o q e;have tk:cK s.heap h':=λb o i k e1 c d=>he b o (λq=>by refine bL hit λoi e2 c2 y=>?_;rw[q,e2]at e1;rw[←bR e1,c2]at c;exact bA c (by decide)) e1;exact aG (hR h' s.toks es n t vs kp (he S _ FV hS) (el.keep tk) g m9 sv)|cons v rest ih=>
   intro done s es n t vs e hit hl z hS el g m9 sv hR;refine vH af3 ?_;refine aq (z.get_some (by rw[e];simp:us[done.length]?=af v)) λx hx rx=>?_;refine wb (Rj hit hl (x:=x) (by exact jW▸hx) λh1 Yk BR=>?_);have jN:cK s.heap h1:=λb o i k e1 c d=>(BR.2 b (λq=>by refine bL hit λoi e2 c2 y=>?_;rw[q,e2]at e1;rw[←bR e1,c2]at c;exact bA c (by decide))).trans e1;have Mg:=(BR.2 S FV).trans hS;have:=sv.len;refine wb (dU (Yg (s:={s with heap:=h1}) (us:=us) Mg (el.keep jN) g (l5 0x402a1d84d39043212133f2a02 hz (by exact el.length) this (by rw[e];simp:us.length=done.length+(rest.length+1))) (by exact Ir hu) (rx.keep jN) ok (by rw[e];simp) (λu uh=>by rw[e];exact de _ ((sv.mem u).mp uh)) λr tk h2 hA=>?_));refine bx hA λsb bg=>D8 bg λfD n' t' gG Yl Ym cs g2 Yn=>?_;have pC:cK h1 h2:=λb o i k e1 c d=>(sb.2 b (λq=>by have e1:=e1;rw[q,Mg]at e1;obtain rfl:=bR e1;exact bA c (by show cS "set"≠_;decide))).trans e1;have Yo:h2.IsListIter it l (done++[v]).length:=by rw[bD];refine aq Yk λoi q1 q2=>?_;exact⟨oi,(sb.2 it FV.symm).trans q1,q2⟩
   have j9:h2.IsList l items:=by refine aq (by refine aq hl λol q1 q2=>?_;exact⟨ol,(BR.2 l Yj.symm).trans q1,q2⟩) λol q1 q2=>?_;exact⟨ol,(sb.2 l Yi.symm).trans q1,q2⟩
   refine aG ⟨Av F.plain_set_update_loop _,?_⟩;refine ih (done++[v]) {s with heap:=h2,toks:=tk} fD n' t' gG (by rw[e];simp) Yo j9 ((z.keep jN).keep pC) Yl (Ym.keep pC) g2 (Yn.trans m9) (sv.add cs) λh' r9 Yp n3 t3 Yq kp a b c d f=>?_;exact hR h' r9 Yp n3 t3 Yq (λb o q1 q2 q3=>kp b o q1 q2 ((sb.2 b q1).trans ((BR.2 b q2).trans q3))) a b c d f
end
end
section
section
variable [dq:Hid]
variable{prog:cx}{w:aZ}{K:cJ}{r:aa}{env:bI}{loc:Loc}{st:aE}{A:cQ}{P:bE}{E:aF->aK->Prop}{s:aK}
def Yr(a:aF){led:bw}(m9:(!w.params.followText "set-order")=led)(h:Q₁ (.ref s.heap.objs.size) {s with heap:=s.heap.push {cls:=.type "set",dict:=ah,data:=.set #[] 0 (.fresh 0 0 led)}}):nK (aU prog w) A (.call (.builtin "set.__new__") ⟨[.type "set",a],[]⟩) (wants Q₁ E) s:=by refine RU ?_;refine wb (xJ (F.newCall_set_1 a) (aG ⟨Av F.plain_set_new _,vH F.entry_set_new ?_⟩));delta Builtin.«set.__new__» ahW;have Fq:=sub_set_self;obtain⟨hp,g,d,tk,os⟩:=s;wp_walk;refine Al (aG ?_);refine wb (wpAny_alloc (aG ?_));exact m9▸(aG h)
set_option maxHeartbeats 3200000 in def Ys{led:bw}(m9:(!w.params.followText "set-order")=led)(hh:A.handled=ah)(hu:A.units+20<fA)(hl:s.heap.IsList l items)(z:bB s.heap us items.toList)(ok:yx us)(hz:us.length<63)(h:∀h' tk es n t vs,h'.get? s.heap.objs.size=af (setOf es n t)->eV w h' vs es.toList->fK t es.size->t.led=led->uv us us vs->(∀b o,s.heap.get? b=af o->h'.get? b=af o)->Q (.ref s.heap.objs.size) {s with heap:=h',toks:=tk}):aY (aU prog w) A (dR (.type "set") [.ref l]) Q E s:=by
 refine qh vL.mro λc tl ahL=>?_;have ahM:=vL.made;have Fq:=vL.sub;refine Sw (RU ?_);refine aG ⟨Code.quiet_builtin _ (by decide+kernel),vH F.entry_type_call ?_⟩;dsimp only[cQ.under_plain (weight_type_call_type "set" [.ref l] []) rfl];have h1:=vL.notType;have h2:=vL.canCreate;have hct:=F.typeCall_set_1 (.ref l);repeat(any_goals(first|assumption|wp_step))
 refine xH (Yr (.ref l) m9 (E:=E) (Q₁:=λobj s₁=>obj=.ref s.heap.objs.size/\s₁={s with heap:=s.heap.push {cls:=.type "set",dict:=ah,data:=.set #[] 0 (.fresh 0 0 led)}}) ⟨rfl,rfl⟩) λr s₁ hr=>?_;induction r using Except.casesOn with
  |error e=>exact hr|ok fl=>
   cases fl with
    |ret obj=>
     obtain⟨rfl,rfl⟩:=hr;have hS:(s.heap.push {cls:=.type "set",dict:=ah,data:=.set #[] 0 (.fresh 0 0 led)}).get? s.heap.objs.size=af {cls:=.type "set",dict:=ah,data:=.set #[] 0 (.fresh 0 0 led)}:=eG _ rfl;have hT:RP {s with heap:=s.heap.push {cls:=.type "set",dict:=ah,data:=.set #[] 0 (.fresh 0 0 led)}} (.ref s.heap.objs.size) "set":=⟨_,hS,rfl⟩;have hli:=vL.init.lookup;have yh:=vL.init.bind (.ref s.heap.objs.size);repeat(any_goals(first|assumption|wp_step))
     refine xH (codeAny_call_builtin (R:=wants (λr s₂=>r=.none/\Q (.ref s.heap.objs.size) s₂) E) vL.init.plain F.entry_set_init (check_set_init_1 hT ?_)) λr₂ s₂ FX=>?_;·
      have ahN:=F.sub_list_set;have ahO:=F.sub_list_frozenset;have ff:(cS "list"==cS "dict")=aD:=by decide
      obtain⟨ol,wq,m5,nl,uj⟩:=hl;obtain⟨ahP,Yt,ahQ,Yu⟩:=ol;subst m5;cases uj;have Yv:(s.heap.push {cls:=.type "set",dict:=ah,data:=.set #[] 0 (.fresh 0 0 led)}).get? l=af {cls:=.type "list",dict:=Yt,data:=.seq items nl,slots:=Yu}:=cB _ wq;have qw:(s.heap.push {cls:=.type "set",dict:=ah,data:=.set #[] 0 (.fresh 0 0 led)}).IsList l items:=⟨_,Yv,rfl,nl,rfl⟩;unfold Builtin.«set.__init__» noKeywords ahT;generalize Yw:rE=PI;wp_walk;subst Yw;refine RL qw ?_;refine cD (ahl ?_);have Mh:l<s.heap.objs.size:=dW wq;have e2:(s.heap.push {cls:=.type "set",dict:=ah,data:=.set #[] 0 (.fresh 0 0 led)}).objs.size=s.heap.objs.size+1:=mQ ..;have kk:∀b o,s.heap.get? b=af o->((s.heap.push {cls:=.type "set",dict:=ah,data:=.set #[] 0 (.fresh 0 0 led)}).push {cls:=.type "list_iterator",data:=.fields #[.ref l,.int 0 0]}).get? b=af o:=λb o q=>cB _ (cB _ q);refine Yh (S:=s.heap.objs.size) (l:=l) (items:=items) (us:=us) (led:=led) (by exact hh) ?_ (by rw[e2];exact cV (f9 _)) (jY Mh) (by rw[e2];exact jY (oS Mh)) ok hz us [] _ #[] 0 _ [] rfl ⟨_,eG _ rfl,rfl,rfl⟩ (qw.push _) (z.keep λb o u u q u u=>kk b o q) (cB _ hS) .nil (fK.fresh 0 0 _) rfl ⟨λv=>Iff.rfl,bq _,λu=>.nil⟩ λh' tk fD n' t' gG q1 q2 q3 q4 q5 q6=>?_;·show A.units+1+1+9<fA;exact l2 0x19b0dd981142a092 hu
      ·refine aG ?_;show aY _ _ (ij DN) _ _ _;exact aG ⟨rfl,h h' tk fD n' t' gG q2 q3 q4 q5 q6 λb o e=>q1 b o (cV (dW e)) (by rw[e2];exact cV (oS (dW e))) (kk b o e)⟩
     ·cases r₂ with|error e=>exact FX|ok Yx=>cases Yx with|ret r=>obtain⟨rfl,hQ⟩:=FX;repeat(any_goals(first|assumption|wp_step))|_=>exact FX.elim
    |_=>exact hr.elim
def Mi(h1:st a=af (.list us))(ok:yx us)(hz:us.length<63)(h:∀b vs,st b=ah->uv us us vs->Q (.ref b) (st.put b (.set vs))):OV prog w K (r+1) env (λxs=>dR (.type "set") xs) [.ref a] loc st Q:=λA P s xs ao u F rx=>by refine ba rx λu u aC ru rn=>?_;rw[aC];rw[rn];rw[ru];refine ba (F.toSRel.list h1) λitems n e z hl=>?_;refine kM (F.beyond (bq _)) λb1 b2 b3 b4 b5=>?_;refine Ys rfl ao.handled (by have:=ao.units;exact l2 0x26ac4a142a09826ac4a1d1e2c092 this) (fO e) z ok hz λh' tk es m t vs q1 q2 q3 q4 q5 q6=>?_;exact⟨_,_,.ref _,((F.grow q6).tok _).adopt (o:=.set vs) b5 b2 b3 b4 q1 (AK _ _ _ rfl q2 (by have:=q5.len;exact l3 0x402a180212133f2a02 hz (by exact q2.length) this) q3 q4),h _ _ b1 q5⟩
end
end
section
def BS:vP "set_iterator" "__next__" "set_iterator.__next__":=.of (owner:="set_iterator") (n:="__next__") (by kernel_rfl) (by decide+kernel) (by decide+kernel) (by decide+kernel) (by first|exact .inl (by decide+kernel)|exact .inr (by decide+kernel)) (by kernel_rfl)
def Yy:Jf Jo "set_iterator.__next__"=af Builtin.«set_iterator.__next__»:=ag8 (by kernel_rfl)
def Yz(a:aF):Jm "set_iterator.__next__" ⟨[a],[]⟩:=by unfold Jm;kernel_rfl
def YA:Jf Jo "set.__iter__"=af Builtin.«frozenset.__iter__»:=aho (id':="frozenset.__iter__") (by kernel_rfl) rfl (by decide+kernel) (by kernel_rfl)
section
variable{prog:cx}{w:aZ}{A:cQ}{E:aF->aK->Prop}{s:aK}
def Mj{Q:α->aK->Prop}(hh:A.handled=ah)(h:∀e h',(∀b o,s.heap.get? b=af o->h'.get? b=af o)->RP {s with heap:=h'} (.ref e) "StopIteration"->E (.ref e) {s with heap:=h'}):aY (aU prog w) A (newExc (.type "StopIteration") []>>=λe=>Je e) Q E s:=by refine wb ?_;refine wb (mM ?_ (by size_fits));refine wb (m:=R4 _ _) (xJ (a:=DN) (by first|rfl|(rfl;rfl)) ?_);refine mM ?_ (by size_fits);dsimp only[Je];refine wb (Sd ?_);simp only[hh];refine wb (aG (Sl ?_));exact h _ _ (λb o q=>cB _ (cB _ q)) (aA _ (eG _ rfl) rfl)
noncomputable def Mk(first:aF)(i a z n:aa):cY:=⟨.type "set_iterator",ah,.fields #[first,fy i,.ref a,fy z,fy n],#[]⟩
inductive qy(w:aZ)(h:cL)(T a:aa)(es:b9 (bp×aF))(n:aa)(t:fc)(ord:ag (bp×aF))(i:aa):aF->Prop|text(slot:aa):w.params.followText "set-order"=ai->ord=(pickOrder (w.params.setOrder a n) es).toList->qy w h T a es n t ord i (fy slot)|led(slot:aa):w.params.followText "set-order"=aD->(!t.plain&&decide (es.size>1))=aD->t.led=ai->fS t.place slot=i->ord=es.toList->qy w h T a es n t ord i (fy slot)|drawn(pl:ag aa)(m:aa):h.get? T=af (gO (pl.map λ(j:aa)=>fy j).toArray m)->(∀k:aa,ord[k]?=(pl[k]?).bind λj=>es[j]?)->(∀j∈pl,j<es.size)->qy w h T a es n t ord i (.ref T)
inductive yy(w:aZ)(h:cL)(I T a:aa)(es:b9 (bp×aF))(n:aa)(t:fc)(ord:ag (bp×aF))(i:aa):Prop|mk(first:aF):h.get? I=af (Mk first i a es.size n)->h.get? a=af (setOf es n t)->qy w h T a es n t ord i first->yy w h I T a es n t ord i
def YC(up:jt xs):fS xs 0=0:=by refine gf (AW (j:=0) up) λu h u=>?_;exact Nat.eq_zero_of_not_pos λq=>nG _ (h 0 q)
def YD(up:jt xs)(h:xs[fS xs slot]?=af j):fS xs (j+1)=fS xs slot+1:=by
 generalize fS xs slot=i at h;refine dh (sX.mp h) λhi e=>?_;have e':xs.getD i 0=j:=by simp[rD,hi,e]
 refine gf (AW (j:=j+1) up) λh1 h2 h3=>?_;apply s7;·apply sZ;intro q;have:=h2 (i+1) q;have:=up.lt (f9 i) (bj q h1);exact l3 0xa2021d22104 e' ‹_› this
 ·apply sZ;intro q;have:=h3 i (nE q) hi;exact l2 2686259459 e' this
def qy.way(sw:qy w h T a es n t ord i first):(∃slot:aa,first=fy slot)\/∃(pl:ag aa)(m:aa),first=.ref T/\h.get? T=af (gO (pl.map λ(j:aa)=>fy j).toArray m)/\(∀k:aa,ord[k]?=(pl[k]?).bind λj=>es[j]?)/\∀j∈pl,j<es.size:=by induction sw with|text slot _ _=>exact .inl ⟨slot,rfl⟩|led slot _ _ _ _ _=>exact .inl ⟨slot,rfl⟩|drawn pl m a b c=>exact .inr (rI pl m rfl a b c)
def YE{a slot i n T:aa}(ho:s.heap.get? a=af (setOf es n t))(g:fK t es.size)(sw:qy w s.heap T a es n t ord i (fy slot))(hQ:∀dB:aa,(∀e,ord[i]?=af e->∀h',qy w h' T a es n t ord (i+1) (fy dB))->Q (ord[i]?.map λe=>(e.2,dB)) s):aY (aU prog w) A (setNext a slot i n) Q E s:=by
 generalize hf:fy slot=first at sw;refine wb (lS ho rfl g.fits ?_);refine cD (wb (Al (aG ?_)));induction sw with
  |drawn pl m=>nomatch hf|text yz ht qz=>obtain rfl:yz=slot:=(Ap (af9 hf).1).symm;refine(?_:aY _ _ (if w.params.followText "set-order"=ai then _ else _) _ _ _);rw[a0 ht];rw[aX (by simp)];refine wb ?_;refine wb (lS ho rfl g.fits ?_);refine wb (wb (Al (aG ?_)));refine(?_:aY _ _ (if w.params.followText "set-order"=ai then _ else _) _ _ _);rw[a0 ht];refine wb (Al (aG (aG ?_)));exact jW▸qz▸(hQ yz λe u h'=>.text yz ht qz)|led yz ht hd hl hb qz=>
   obtain rfl:yz=slot:=(Ap (af9 hf).1).symm;refine(?_:aY _ _ (if w.params.followText "set-order"=ai then _ else _) _ _ _);rw[aX (by rw[ht];exact fH)];refine(?_:aY _ _ (if(!t.plain&&decide (es.size>1))=ai then _ else _) _ _ _);rw[aX (by rw[hd];exact fH)];refine wb ?_;refine(?_:aY _ _ (if(!t.led&&!es.isEmpty)=ai then _ else _) _ _ _);rw[aX (by rw[hl];exact fH)];refine aG (aG ?_);rw[hb];have e1:ord[i]?=es[i]?:=by rw[qz,jW]
   cases q:es[i]? with
    |none=>have:=hQ 0 (by exact e1▸q▸(λu h=>by contradiction));rw[e1,q]at this;exact this|some e=>
     have hi:i<t.place.size:=by rw[g.size];exact(sX.mp q).1
     have q2:=Dp hi;rw[q2];have:=hQ (t.place[i]+1) λe u h'=>.led _ ht hd hl (by rw[YD g.up (slot:=yz) (by rw[hb];exact q2),hb]) qz;rw[e1,q]at this;exact this
def Ml(hh:A.handled=ah)(g:fK t es.size)(yA:a≠I)(wI:T≠I)(si:yy w s.heap I T a es n t ord i)(hQ:∀h',(∀e,ord[i]?=af e->yy w h' I T a es n t ord (i+1))->R9 I s.heap h'->Q (ord[i]?.map (·.2)) {s with heap:=h'}):aY (aU prog w) A (qe (.ref I)) Q E s:=by
 obtain⟨first,hI,ha,sw⟩:=si;have hT:s.TypeIs (.ref I) "set_iterator":=(aA _ hI rfl);refine wb (DI (sY (name:=qa "__next__") hT BS (jj BS hT Yy ?_ (Yz _))));refine wb (m:=slotArgs "__next__" 0 _) (aG ?_);refine wb (RZ hI rfl ?_);refine cD (wb (lS ha rfl g.fits (aG ?_)));rw[aX (by simp)];have fin:∀(s1:aK),(∃h1,s1={s with heap:=h1}/\s9 I s.heap h1)->ord[i]?=ah->∀e h',(∀b o,s1.heap.get? b=af o->h'.get? b=af o)->RP {s1 with heap:=h'} (.ref e) "StopIteration"->Q ah {s1 with heap:=h'}:=λs1 z q e h' hk hT=>by refine aq z λh1 bQ sb=>?_;subst bQ;rw[q]at hQ;exact hQ h' (λu z=>by contradiction) λb o c x=>hk b o ((sb.2 b c).trans x)
 rcases sw.way with⟨slot,rfl⟩|⟨pl,m,rfl,Mm,qz,hb⟩;·refine wb (m:=setNext a slot i n) (YE ha g sw λdB hn=>?_);cases q:ord[i]? with|some e=>refine wb (pY hI (by simp) λh1 BU s1=>?_);refine wb (pY BU (by simp) λh2 BX s2=>?_);rw[q]at hQ;exact aG (aA _ rfl (aG (hQ h2 (λu u=>⟨_,BX,((s1.trans s2).2 a yA).trans ha,hn e q h2⟩) (s1.trans s2).extBut)))|none=>refine wb (pY hI (by simp) λh1 BU s1=>Mj hh λe h' hk hT=>?_);exact wb (vD (T:="StopIteration") (b:=ai) hT IL (aG (fin _ ⟨h1,rfl,s1⟩ q e h' hk hT)))
 ·refine cD (m:=seqItems? (.ref T)) (oW Mm rfl ?_);dsimp only;rw[(by simp:(pl.map λ(j:aa)=>fy j).toArray[((i:bp)).toNat]?=(pl[i]?).map λ(j:aa)=>fy j)];cases q:pl[i]? with
   |some j=>
    have hj:=hb j (e8 q);have q2:=Dp hj;have q3:ord[i]?=af es[j]:=by rw[qz,q];exact q2
    refine wb (m:=setNextDrawn a j n) ?_;refine cD (lS ha rfl g.fits ?_);dsimp only;rw[aX (by simp),q2];refine aG ?_;refine wb (pY hI (by simp) λh2 BX s2=>?_);rw[q3]at hQ;exact aG (aA _ rfl (aG (hQ h2 (λu u=>⟨_,BX,(s2.2 a yA).trans ha,.drawn pl m ((s2.2 T wI).trans Mm) qz hb⟩) s2.extBut)))|none=>
    have q3:ord[i]?=ah:=by rw[qz,q];rfl
    refine wb (pY hI (by simp) λh1 BU s1=>?_);refine wb (pY BU (by simp) λh2 BX s2=>Mj hh λe h' hk hT=>?_);exact wb (vD (T:="StopIteration") (b:=ai) hT IL (aG (fin _ ⟨h2,rfl,s1.trans s2⟩ q3 e h' hk hT)))
end
end
section
def Mn:vP "set_iterator" "__iter__" "set_iterator.__iter__":=.of (owner:="set_iterator") (n:="__iter__") (by kernel_rfl) (by decide+kernel) (by decide+kernel) (by decide+kernel) (by first|exact .inl (by decide+kernel)|exact .inr (by decide+kernel)) (by kernel_rfl)
def YF:Jf Jo "set_iterator.__iter__"=af Builtin.«dict_keyiterator.__iter__»:=aho (id':="dict_keyiterator.__iter__") (by kernel_rfl) rfl (by decide+kernel) (by kernel_rfl)
def YG(a:aF):Jm "set_iterator.__iter__" ⟨[a],[]⟩:=by unfold Jm;kernel_rfl
section
variable{prog:cx}{w:aZ}{A:cQ}{E:aF->aK->Prop}{s:aK}
def YH(hn:n≠0)(h:∀i d,i<n->Q i {s with drawn:=d}):aY (aU prog w) A (choose src n) Q E s:=λu u u=>⟨hn,h _ _ (I8 _ (Nat.pos_of_ne_zero hn))⟩
theorem FY{α:Type}:∀(l:ag α)(i:aa)(h:i<l.length),(l[i]::l.eraseIdx i).Perm l|_::_,0,_=>.refl _|x::l,i+1,h=>(vF x _ _).trans ((FY l i (afU h)).cons x)
def YI(n:aa):∀{xs:ag α}{s:aK}{Q:ag α->aK->Prop},xs.length=n->(∀l d,l.Perm xs->Q l {s with drawn:=d})->aY (aU prog w) A (drawOrder n xs) Q E s:=by induction n with|zero=>intro xs s Q hl h;obtain rfl:=vn hl;exact aG (h [] s.drawn (.refl _))|succ n ih=>intro xs s Q hl h;induction xs using b7 with|nil=>exact by contradiction|cons x xs=>refine cD (YH (RI _) λi d hi=>?_);rw[gy hi];refine wb (ih (xs:=(x::xs).eraseIdx i) (by rw[afH hi];exact iC hl) λl d' hp=>?_);exact aG (h _ d' ((hp.cons _).trans (FY _ _ hi)))
def YJ(dB:aa->aa):∀(f k:aa)(left:ag α)(out:b9 α),left.length=f->(agd dB f k left out).toList.Perm (out.toList++left):=by intro f;induction f with|zero=>intro k left out hl;rw[vn hl];rw[bN];exact .refl _|succ f ih=>intro k left out hl;have hi:dB k%left.length<left.length:=I8 _ (by rw[hl];exact i8 _);dsimp only[agd];rw[gy hi];refine(ih (k+1) _ _ (by rw[afH hi,hl];rfl)).trans ?_;rw[Af,bW];exact(FY _ _ hi).append_left _
def YK(dB:aa->aa)(xs:b9 α):(pickOrder dB xs).toList.Perm xs.toList:=YJ dB _ 0 xs.toList #[] fh
def YL{a n:aa}(ho:s.heap.get? a=af (setOf es n t))(g:fK t es.size)(hz:es.size<64)(m9:t.led=(!w.params.followText "set-order"))(hQ:∀h' dr I T ord,ord.Perm es.toList->yy w h' I T a es n t ord 0->(∀b o,s.heap.get? b=af o->h'.get? b=af o)->s.heap.objs.size<=I->s.heap.objs.size<=T->T≠I->Q (.ref I) {s with heap:=h',drawn:=dr}):aY (aU prog w) A (rE (.ref a)) Q E s:=by
 have hT:s.TypeIs (.ref a) "set":=(aA _ ho rfl);refine RK hT ag0 (jj ag0 hT YA ?_ (F.args_set_iter_1 _));refine wb (m:=ahU "__iter__" _) (aG ?_);refine wb (m:=ahV a) (wb (wb (lS ho rfl g.fits (aG (aG ?_)))));refine wb (m:=setDrawn a) (wb (lS ho rfl g.fits (wb (wb (Al (aG ?_))))));refine aG ?_;have tail:∀(first:aF)(h1:cL)(d1:Drawn)(T:aa)(ord:ag (bp×aF)),ord.Perm es.toList->(∀h2,(∀b o,h1.get? b=af o->h2.get? b=af o)->qy w h2 T a es n t ord 0 first)->(∀b o,s.heap.get? b=af o->h1.get? b=af o)->s.heap.objs.size<=T->T≠h1.objs.size->s.heap.objs.size<=h1.objs.size->aY (aU prog w) A.in1 (do let e←setEpoch a;let r←newFields "set_iterator" [first,fy 0,.ref a,fy (es.size:aa),fy (e:aa)];ij r) (λfin s'=>∃v,fin=.done (.ret v)/\∃T' r,s'.TypeIs v T'/\typeLookup (.type T') "__next__"=pure (af r)/\Q v s') E {s with heap:=h1,drawn:=d1}:=λfirst h1 d1 T ord hp sw kp YM YN hsz=>by refine wb ((λh1 h2=>wb (lS h1 rfl g.fits (aG h2)):∀{s1:aK}{Q':aa->aK->Prop},s1.heap.get? a=af (setOf es n t)->Q' n s1->aY (aU prog w) A.in1 (setEpoch a) Q' E s1) (kp _ _ ho) (wb (mM (aG (aA _ rfl (bZ ("set_iterator") _ (aA _ (eG _ rfl) rfl) BS.lookup ?_))))));have k2:∀b o,h1.get? b=af o->(h1.push (Mk first 0 a es.size n)).get? b=af o:=λb o q=>cB _ q;exact hQ _ d1 h1.objs.size T ord hp ⟨first,eG _ rfl,k2 _ _ (kp _ _ ho),sw _ k2⟩ (λb o q=>k2 _ _ (kp _ _ q)) hsz YM YN
 cases hf:w.params.followText "set-order"with
  |true=>
   refine(vG (λq=>?_) λu=>cD (m:=pure (fy 0)) (aG ?_));·have q:(!w.params.followText "set-order"&&(!t.plain&&decide (es.size>1)))=ai:=q;rw[hf]at q;contradiction
   ·exact tail _ s.heap s.drawn (s.heap.objs.size+1) _ (YK (w.params.setOrder a n) es) (λh2 u=>.text 0 hf rfl) (λu u q=>q) (kE _) (DE _) (bq _)|false=>
   rw[hf]at m9;refine(vG (λq=>?_) λq=>cD (m:=pure (fy 0)) (aG ?_));·
    refine wb (YI es.size (by simp) λpl d hp=>wb (mM ?_ (show(pl.map λ(j:aa)=>fy j).toArray.size<=AD by rw[Ru,aN,hp.length_eq,iR];exact bF (df hz (by decide)))));have hb:∀j∈pl,j<es.size:=λj hj=>dT.mp (hp.mem_iff.mp hj);let f:aa->bp×aF:=λj=>es.getD j (0,.none);have Mo:∀j,j<es.size->es[j]?=af (f j):=λj hj=>by simp[f,hj]
    refine tail _ _ d s.heap.objs.size (pl.map f) ?_ (λh2 k2=>.drawn pl 0 (k2 _ _ (eG _ rfl)) (λk=>?_) hb) (λb o q=>cB _ q) (bq _) ?_ ?_;·
     have:(bS es.size).map f=es.toList:=by
      apply Dz;intro k;rw[jh,show es.toList[k]?=es[k]? from jW];by_cases hk:k<es.size;·rw[Ad hk,Mo k hk];rfl
      ·rw[nD (by simpa using hk),z6 (by simpa using hk)];rfl
     exact this▸(hp.map f)
    ·rw[jh];cases q:pl[k]? with|none=>rfl|some j=>exact(Mo j (hb j (e8 q))).symm
    ·rw[mQ];exact cV (f9 _)
    ·rw[mQ];exact kE _
   ·have q:¬(!w.params.followText "set-order"&&(!t.plain&&decide (es.size>1)))=ai:=q;rw[hf]at q;exact tail _ s.heap s.drawn (s.heap.objs.size+1) _ (.refl _) (λh2 u=>.led 0 hf (by simpa using q) m9 (YC g.up) rfl) (λu u q=>q) (kE _) (DE _) (bq _)
def YO{I T a n:aa}{es:b9 (bp×aF)}{t:fc}{ord:ag (bp×aF)}(hh:A.handled=ah)(g:fK t es.size)(yA:a≠I)(wI:T≠I):WalksS prog w A I [I,T,a] [I] (λa b=>b=a) ord.length (λi v=>∃e,ord[i]?=af e/\v=e.2) (λi s=>yy w s.heap I T a es n t ord i)where
 sub:=λb hb=>by exact(bU.mp hb)▸aR
 grefl:=λj=>rfl
 gtrans:=λj j j h h'=>h'.trans h
 frame:=λi s h' tk si j hk=>by obtain⟨first,h1,h2,sw⟩:=si;refine⟨first,hk I aR _ h1,hk a (by simp) _ h2,?_⟩;induction sw with|text slot x y=>exact .text slot x y|led slot x y z u v=>exact .led slot x y z u v|drawn pl m x y z=>exact .drawn pl m (hk T (by simp) _ x) y z
 item:=λi s Q E hi si hQ=>by have e:=gy hi;refine Ml hh g yA wI si λh' hs he=>?_;rw[e];exact hQ _ _ (aA _ e rfl) (hs _ e) ⟨λb o hb q=>he b o (λz=>hb (z▸aR)) q,rfl,rfl,rfl,bq _⟩
 done:=λs Q E si hQ=>by refine Ml hh g yA wI si λh' j he=>?_;exact((nD (bq _)))▸(hQ _ ⟨λb o hb q=>he b o (λz=>hb (z▸aR)) q,rfl,rfl,rfl,bq _⟩)
 self:=λi s Q E si hQ=>by obtain⟨first,h1,_,_⟩:=si;have hT:s.TypeIs (.ref I) "set_iterator":=(aA _ h1 rfl);refine RK hT Mn (jj Mn hT YF ?_ (YG _));exact aG (aA _ rfl (bZ ("set_iterator") _ hT BS.lookup hQ))
def YQ(hT:s.TypeIs (.ref r) "set")(h:Q aD s):aY (aU prog w) A (aii (.ref r)) Q E s:=by refine cD (xD hT F.slot_set_len.lookup ?_);generalize hO:("set.__len__":nN)=id0;wp_delta;subst hO;refine wb (vD (T:="set") (b:=ai) hT (by kernel_rfl) ?_);refine vG (λnX=>bA nX (by decide)) (λu=>?_);refine vG (λu=>?_) (λnX=>bA (by decide+kernel) nX);refine wb (DK hT ?_);exact aG h
def YR{a n:aa}(hh:A.handled=ah)(ho:s.heap.get? a=af (setOf es n t))(g:fK t es.size)(hz:es.size<64)(m9:t.led=(!w.params.followText "set-order"))(h:∀h' tk dr(ord:ag (bp×aF)),ord.Perm es.toList->(∀b o,s.heap.get? b=af o->h'.get? b=af o)->R (ord.map (·.2)) {s with heap:=h',toks:=tk,drawn:=dr}):aY (aU prog w) A (collect (.ref a)) R E s:=by
 have iE:a<s.heap.objs.size:=dW ho;refine cD (ahl (vH entry_proto_collect' ?_));refine wb (mM ?_);refine aG ⟨Av PySem.F.plain_list_iadd _,vH entry_list_iadd' ?_⟩;have hL:(s.heap.push {cls:=.type "list",data:=.seq ([]:ag aF).toArray}).get? s.heap.objs.size=af {cls:=.type "list",data:=.seq #[]}:=eG _ rfl;refine(?_:aY _ A.in1 (aij (.ref s.heap.objs.size) (.ref a) (.ref s.heap.objs.size)) _ _ _);have kL:∀b o,s.heap.get? b=af o->(s.heap.push {cls:=.type "list",data:=.seq ([]:ag aF).toArray}).get? b=af o:=λb o q=>cB _ q;have eL:(s.heap.push {cls:=.type "list",data:=.seq ([]:ag aF).toArray}).objs.size=s.heap.objs.size+1:=mQ ..;have r7:s.heap.objs.size≠a:=jY iE;generalize(s.heap.push {cls:=.type "list",data:=.seq ([]:ag aF).toArray})=hp1 at hL kL eL⊢;refine cD (DK (T:="set") (aA _ (kL _ _ ho) rfl) ?_);have YS:afq (.ref s.heap.objs.size) (.ref a)=aD:=by simp[afq,r7]
 rw[aX (by rw[YS];decide)];refine wb (YL (kL _ _ ho) g hz m9 λh2 dr I T ord hp si k2 hI hT wI=>?_);rw[eL]at hI hT;have YT:s.heap.objs.size≠I:=cV (bj (f9 _) hI);have yB:s.heap.objs.size≠T:=cV (bj (f9 _) hT);have YU:a≠I:=cV (df iE (bj (f9 _) hI));have aw:s.heap.objs.size∉[I,T,a]:=by simp only[cg,rj,SR,D3];exact(cM YT yB r7)
 have W:=YO (prog:=prog) (w:=w) (A:=A.in1) (n:=n) (ord:=ord) hh g YU wI;have len:ord.length<=AD:=by simp only[hp.length_eq,fh,DO];exact bF (df hz (by decide))
 have BE:=k2 _ _ hL;refine wb (dU (YQ (aA _ (k2 _ _ (kL _ _ ho)) rfl) ?_));refine vG (λu=>?_) λq=>bA (by decide+kernel) q;refine wb (jZ (wb ?_));refine wb (ahf BE rfl ?_);have Mp:=vo (qc (·.push DN)) BE rfl;refine ahf (hz:=by seq_fits) Mp rfl ?_;have YV:=vo (qc (·.pop)) Mp rfl;have k4:∀b o,b≠s.heap.objs.size->h2.get? b=af o->((h2.update s.heap.objs.size (qc (·.push DN))).update s.heap.objs.size (qc (·.pop))).get? b=af o:=λb o hb e=>(mK _ _ (nJ hb)).trans ((mK _ _ (nJ hb)).trans e);refine aG ⟨Av PySem.F.plain_extend_loop _,?_⟩;refine codeAny_extend_loopS W len s.heap.objs.size aw (.ref s.heap.objs.size) ord.length 0 _ #[] _ rfl (cF _) (W.frame 0 {s with heap:=h2,drawn:=dr} _ s.toks si (bq _) λb hb o e=>k4 b o (λz=>aw (z▸hb)) e) YV (ItemsOf.nil _) λs' Mq c' hm YW pA=>?_;refine wb (wpAny_load YW (aG ?_));have e:Mq.toList=ord.map (·.2):=by apply Iy (by simp only[fh,aN];exact pA.1);intro i h1 h2;refine aq (pA.2 i Mq.toList[i] (by simp)) λe he hv=>?_;simp only[hv,RE];rw[(iQ.mp he).2]
 rw[e,Moved.eq_with hm];exact h s'.heap s'.toks dr ord hp λb o q=>hm.heap b o (λz=>by
  rcases cg.mp z with rfl|z;·exact i6 _ (dW q)
  ·cases bU.mp z;exact i6 _ (df (dW q) (bj (f9 _) hI))) (k4 b o (cV (dW q)) (k2 _ _ (kL _ _ q)))
end
section
variable [dq:Hid]
variable{prog:cx}{w:aZ}{st:aE}
def eV.vals(z:eV w h vs l):bB h vs (l.map (·.2)):=by induction z with|nil=>exact .nil|cons a _ _ ih=>exact .cons a ih
def jx.set(h:st a=af (.set us)):jx prog w st (.ref a) us:=λ{A P s env loc x Q E}hh F rx hQ=>by rw[rx];refine aq (F.obj a _ h) λro e bg=>xT bg λes n t qp z pg g hm=>?_;clear bg;subst qp;refine YR hh e g pg hm λh' tk dr ord hp hk=>?_;refine aq ((z.keep λb o u u q u u=>hk b o q).perm hp.symm) λvs z2 pm=>?_;exact hQ h' tk dr _ vs hk pm.symm z2.vals
end
end
section
set_option backward.match.sparseCases false
noncomputable abbrev pw:cx:=ahX
noncomputable def bodyOf:cG->ag cG|.FunctionDef _ _ b _ _ _ _ _ _ _=>b|.ClassDef _ _ _ b ..=>b|_=>[]
noncomputable def Mr(l:ag cG)(n:aa):cG:=l.getD n (.Pass ⟨0,0,0,0⟩)
def sA(i:aa):cG:=Mr pw.main.body i
def sB(i j:aa):cG:=Mr (bodyOf (sA i)) j
noncomputable def oT(l:ag aF):cY:=⟨.type "tuple",ah,.seq ⟨l⟩ 0,#[]⟩
noncomputable def oN(l:ag aF):cY:=⟨.none,ah,.fields ⟨l⟩,#[]⟩
noncomputable def oX(c:nN)(l:ag aF):cY:=⟨.type c,ah,.fields ⟨l⟩,#[]⟩
def oC(a b:aI)(t:aa)(l n n4:bp)(x:aa)(bb:bw)(z:aa)(v1 v2 v3 v4:aF)(tt:bp)(t3:aa):cY:=oX "code" [.str a t,.str b (t+1),.str "/claim/cut.py" (t+2),.int l 0,.int n 0,.int 0 0,.int 0 0,.int n4 0,.ref x,.bool bb,.int 181 0,.ref z,v1,v2,v3,v4,.int tt 0,.int l 0,.str "/claim/cut.py" t3]
noncomputable def oD(P:bh)(l:ag (aI×aa×aF))(n:aa):cY:=⟨.type "dict",ah,.dict ⟨l.map λx=>⟨DG P x.1,.str x.1 x.2.1,x.2.2⟩⟩ n,#[]⟩
def oQ(st:cG)(q:aI):cY:=match st with|.FunctionDef nm a b _ _ _ s _ _ _=>⟨.none,ah,.func {name:=nm,qualname:=q,params:=a,body:=.stmts b,scope:=s,globals:=0,closure:=[],defaults:=.none,kwdefaults:=.none},#[]⟩|_=>oT []
def oG(st:cG)(q:aI)(g:aa)(cl:ag (aI×aa))(m cd ct:aF)(bu:aa):cY:=match st with|.FunctionDef nm a b _ _ _ s _ _ _=>⟨.type "function",ah,.func {name:=nm,qualname:=q,params:=a,body:=.stmts b,scope:=s,globals:=g,closure:=cl,defaults:=.none,kwdefaults:=.none,pyModule:=m,code:=cd,closureTuple:=ct,builtins:=bu},#[]⟩|_=>oT []
noncomputable def Ms{α:Type}:ag α->ag α|[]=>[]|[x]=>[x]|x::_::r=>x::Ms r
noncomputable def Mu{α:Type}:ag α->ag α|[]=>[]|[_]=>[]|_::y::r=>y::Mu r
noncomputable def pD:aa->ag cY->BT|0,_=>.nil|_+1,[]=>.nil|f+1,x::t=>.node x (pD f (Ms t)) (pD f (Mu t))
noncomputable def Mv(s:cG):aI:=match s with|.FunctionDef nm _ _ _ _ _ _ _ _ _=>nm|_=>""
noncomputable def mw(l:ag aI):aa->ag aF:=l.rec (λu=>[]) λs u ih t=>.str s t::ih (t+1)
def n9:cY:=oX "builtin_function_or_method" [.builtin "type.__prepare__",.type "type"]
def oa(a:aa):cY:=oX "builtin_function_or_method" [.builtin "object.__init_subclass__",.ref a]
def og(a:aa):cY:=oX "super" [.ref a,.ref a,.ref a]
def sj(t a:aa):cY:=oX "getset_descriptor" [.str "__dict__" t,.ref a,.builtin "function.__dict__",.builtin "function.__dict__#set"]
def qA(t a:aa):cY:=oX "getset_descriptor" [.str "__weakref__" t,.ref a,.builtin "ExceptionGroup.__weakref__",.none]
noncomputable def ni(a b:aa)(m:aF):cY:=⟨.type "frame",ah,.plain,⟨[af (.ref a),af (.ref 3),af (.ref b),ah,af m,ah,af (.ref 0)]⟩⟩
def nq(s:aI)(t:aa)(l:bp)(b:aa):cY:=oC s s t l 0 0 b aD (b+1) .none .none .none .none (.ofNat (t+3)) (t+4)
noncomputable def sx(s:aI)(a t u:aa):cY:=⟨.type "type",ah,.cls {name:=s,bases:=[.type "object"],mro:=[.ref a,.type "object"],ns:=a-1,qualname:=s,hasDict:=ai,slotNames:=[],subclasses:=[],abstract:=aD,collection:=ah,hasDel:=aD},⟨[ah,ah,af (.str s t),af (.str s u),af (.builtin "object.__new__"),af (.bool ai)]⟩⟩
noncomputable def Mw(d:bp)(l:ag (bp×aa)):ag aF:=l.flatMap λx=>[.int x.1 0,.int d 0,.ref x.2]
def qB(d:bp)(l:ag (bp×aa)):cY:=oN (Mw d l)
def oH(st:cG)(q:aI)(m:aF)(b t:aa)(l n:bp)(as:ag aI):ag cY:=iS as.isEmpty [oT [],oN [],oQ st q,oC (Mv st) q t l n 3 b ai (b+1) .none .none .none (.ref (b+2)) (.ofNat (t+3)) (t+4),oG st q 3 [] m (.ref (b+3)) .none 0] [oT [],oN [],oT (mw as (t+3)),oT [],oQ st q,oC (Mv st) q t l n 3 b ai (b+1) .none (.ref (b+2)) (.ref (b+3)) (.ref (b+4)) (.ofNat (t+3+as.length)) (t+4+as.length),oG st q 3 [] m (.ref (b+5)) .none 0]
noncomputable def FZ:aF:=.str "__main__" 164
noncomputable def qC:aF:=.str "alikeheap.errors" 194
noncomputable def gT:aF:=.str "alikeheap.terms" 266
noncomputable def kY:aF:=.str "alikeheap.matching" 430
noncomputable def mx:aF:=.str "alikeheap.unions" 548
noncomputable def iI:aF:=.str "alikeheap.heap" 652
noncomputable def iv:aF:=.str "alikeheap.rules" 818
noncomputable def qD:aF:=.str "law_pq0129_01" 997
noncomputable def YX:ag (aI×aa×aF):=[("__init__",216,.ref 37),("told",223,.ref 44),("__static_attributes__",225,.ref 45),("__classcell__",226,.ref 25)]
noncomputable def Mx:ag (aI×aa×aF):=[("__init__",317,.ref 115),("size",324,.ref 122),("take",330,.ref 127),("require",338,.ref 134),("put",348,.ref 141),("put_all",354,.ref 146),("cut",362,.ref 153),("op",370,.ref 160),("kids",378,.ref 167),("node",386,.ref 174),("term",392,.ref 179),("weight",400,.ref 186),("depth",408,.ref 193),("seek",417,.ref 200),("__static_attributes__",422,.ref 201)]
noncomputable def My:ag (aI×aa×aF):=[("__init__",451,.ref 221),("extended",457,.ref 226),("found_in",468,.ref 233),("found",474,.ref 238),("__static_attributes__",476,.ref 239)]
noncomputable def Mz:ag (aI×aa×aF):=[("__init__",503,.ref 259),("changed",509,.ref 264),("reached",515,.ref 269),("image",521,.ref 274),("found",527,.ref 279),("all_found",535,.ref 286),("__static_attributes__",540,.ref 287)]
noncomputable def MA:ag (aI×aa×aF):=[("__init__",568,.ref 307),("make",575,.ref 314),("size",582,.ref 321),("find",590,.ref 328),("merge",601,.ref 335),("members",609,.ref 342),("classes",615,.ref 347),("log",622,.ref 354),("back",632,.ref 361),("cut",640,.ref 368),("__static_attributes__",644,.ref 369)]
noncomputable def MB:ag (aI×aa×aF):=[("__init__",672,.ref 389),("size",679,.ref 396),("node",685,.ref 401),("add",691,.ref 406),("put",697,.ref 411),("look_at",706,.ref 418),("find",714,.ref 425),("are_like",723,.ref 432),("merge",733,.ref 439),("join",746,.ref 446),("settle",753,.ref 453),("is_settled",760,.ref 460),("classes",767,.ref 467),("members",775,.ref 474),("nodes_of",781,.ref 479),("many_nodes",788,.ref 486),("seek",794,.ref 491),("users",802,.ref 498),("__static_attributes__",810,.ref 499)]
noncomputable def MC:ag (aI×aa×aF):=[("__init__",841,.ref 518),("turned",848,.ref 525),("__static_attributes__",853,.ref 526)]
noncomputable def MD:ag (aI×aa×aF):=[("__init__",880,.ref 546),("put",886,.ref 551),("class_of",892,.ref 556),("holds",905,.ref 563),("__static_attributes__",907,.ref 564)]
noncomputable def ME:ag (aI×aa×aF):=[("__init__",932,.ref 582),("is_full",939,.ref 589),("matches",948,.ref 596),("apply",954,.ref 601),("apply_all",966,.ref 608),("one_round",972,.ref 613),("run",979,.ref 620),("__static_attributes__",989,.ref 621)]
noncomputable def YY:ag (aI×aa×aF):=([("__doc__",166,.none),("__package__",167,.none),("__loader__",168,.builtin "__main__.__loader__#opaque"),("__spec__",169,.none),("__annotations__",170,.ref 6),("__builtins__",171,.ref 4),("__file__",173,.str "/claim/cut.py" 172),("__cached__",174,.none),("_wall",193,.ref 21),("HeapError",233,.ref 47),("TermFault",249,.ref 60),("RuleFault",265,.ref 72),("is_op",273,.ref 79),("is_variable",280,.ref 86),("depth",286,.ref 91),("variables",292,.ref 96),("parts",298,.ref 101),("Bank",429,.ref 203),("Walker",483,.ref 241),("Changes",547,.ref 289),("Unions",651,.ref 371),("Heap",817,.ref 501),("ORDERS",823,.ref 506),("Rule",860,.ref 528),("Placer",914,.ref 566),("Runner",996,.ref 623),("_law_dip",1007,.ref 634),("_law_term",1016,.ref 641),("_law_rules",1034,.ref 648),("_law_home",1040,.ref 653)]:ag (aI×aa×aF))++([("_law_are_within",1053,.ref 660),("_law_new_round",1059,.ref 665),("law",1079,.ref 672)]:ag (aI×aa×aF))
def YZ:ag aF:=Mw 0 [(1,20),(5,28),(13,56),(15,68),(18,78),(20,85),(22,90),(24,95),(26,100),(31,107),(101,213),(129,251),(174,299),(221,381),(304,512),(324,538),(344,576),(410,633),(416,640),(423,647),(433,652),(436,659),(443,664),(451,671)]
def B0(P:bh):ag cY:=[boot_o_0 P,boot_o_1 P]
def B1(P:bh):ag cY:=[boot_o_4 P,boot_o_5 P,boot_o_6 P,boot_o_7 P,boot_o_8 P,boot_o_9 P,boot_o_10 P]++[oT []]
def N0(P:bh):ag cY:=([nq "<module>" 182 1 11,ni 13 3 FZ])
def N1(P:bh):ag cY:=N0 P++(oH (sA 0) "_wall" FZ 15 187 1 1 ["k"]++[oT [.type "Exception"],n9,oD P (("__module__",203,.str "alikeheap.errors" 194)::("__qualname__",205,.str "HeapError" 204)::("__firstlineno__",207,.int 5 206)::YX) 7,⟨.type "cell",ah,.cell (af (.ref 47)),#[]⟩,oT [],qB 4 [(7,36),(11,43)],nq "HeapError" 198 5 26,ni 28 24 qC,oT [.ref 25],oT (mw ["__class__"] 211),oN [],oT (mw ["self","what"] 212),oT [],oQ (sB 2 0) "HeapError.__init__",oC "__init__" "HeapError.__init__" 208 7 2 3 31 ai 32 .none (.ref 33) (.ref 34) (.ref 35) 214 215,oG (sB 2 0) "HeapError.__init__" 3 [("__class__",25)] (.str "alikeheap.errors" 194) (.ref 36) (.ref 30) 0]++oH (sB 2 1) "HeapError.told" qC 38 217 11 1 ["self"]++[oT (mw ["what"] 224),oD P [("__module__",203,qC),("__firstlineno__",207,.int 5 206),("__init__",216,.ref 37),("told",223,.ref 44),("__static_attributes__",225,.ref 45),("__weakref__",228,.ref 48),("__doc__",229,.none)] 4,⟨.type "type",ah,.cls {name:="HeapError",bases:=[.type "Exception"],mro:=[.ref 47,.type "Exception",.type "BaseException",.type "object"],ns:=46,qualname:="HeapError",hasDict:=ai,slotNames:=[],subclasses:=[.ref 60,.ref 72],abstract:=aD,collection:=ah,hasDel:=aD},⟨[af (.ref 22),ah,af (.str "HeapError" 196),af (.str "HeapError" 204),af (.builtin "Exception.__new__"),af (.bool ai)]⟩⟩,qA 227 47,og 47,oa 47,oT [.ref 47],n9,oD P [("__module__",241,qC),("__qualname__",243,.str "TermFault" 242),("__firstlineno__",245,.int 13 244),("__static_attributes__",246,.ref 58)] 4,oT [],oN [],nq "TermFault" 236 13 54,ni 56 53 qC,oT [],oD P [("__module__",241,qC),("__firstlineno__",245,.int 13 244),("__static_attributes__",246,.ref 58),("__doc__",247,.none)] 2,⟨.type "type",ah,.cls {name:="TermFault",bases:=[.ref 47],mro:=[.ref 60,.ref 47,.type "Exception",.type "BaseException",.type "object"],ns:=59,qualname:="TermFault",hasDict:=ai,slotNames:=[],subclasses:=[],abstract:=aD,collection:=ah,hasDel:=aD},⟨[af (.ref 51),ah,af (.str "TermFault" 234),af (.str "TermFault" 242),af (.builtin "Exception.__new__"),af (.bool ai)]⟩⟩,og 60,oa 60,oT [.ref 47],n9,oD P [("__module__",257,qC),("__qualname__",259,.str "RuleFault" 258),("__firstlineno__",261,.int 15 260),("__static_attributes__",262,.ref 70)] 4,oT [],oN [],nq "RuleFault" 252 15 66,ni 68 65 qC,oT [],oD P [("__module__",257,qC),("__firstlineno__",261,.int 15 260),("__static_attributes__",262,.ref 70),("__doc__",263,.none)] 2,⟨.type "type",ah,.cls {name:="RuleFault",bases:=[.ref 47],mro:=[.ref 72,.ref 47,.type "Exception",.type "BaseException",.type "object"],ns:=71,qualname:="RuleFault",hasDict:=ai,slotNames:=[],subclasses:=[],abstract:=aD,collection:=ah,hasDel:=aD},⟨[af (.ref 63),ah,af (.str "RuleFault" 250),af (.str "RuleFault" 258),af (.builtin "Exception.__new__"),af (.bool ai)]⟩⟩,og 72,oa 72])
def N2(P:bh):ag cY:=N1 P++(oH (sA 6) "is_op" gT 75 268 18 1 []++oH (sA 7) "is_variable" gT 80 274 20 1 ["t"]++oH (sA 8) "depth" gT 87 281 22 1 []++oH (sA 9) "variables" gT 92 287 24 1 []++oH (sA 10) "parts" gT 97 293 26 1 []++[oT [],n9,oD P (("__module__",306,gT)::("__qualname__",308,.str "Bank" 307)::("__firstlineno__",310,.int 31 309)::Mx) 18,oT [],qB 4 [(33,114),(39,121),(42,126),(56,133),(60,140),(65,145),(68,152),(71,159),(74,166),(77,173),(80,178),(92,185),(95,192),(98,199)],nq "Bank" 301 31 105,ni 107 104 gT]++oH (sB 11 0) "Bank.__init__" gT 109 311 33 1 ["self"]++oH (sB 11 1) "Bank.size" gT 116 318 39 1 ["self"]++oH (sB 11 2) "Bank.take" gT 123 325 42 3 []++oH (sB 11 3) "Bank.require" gT 128 331 56 2 ["self","op"]++oH (sB 11 4) "Bank.put" gT 135 339 60 2 ["self","t","path","part"]++oH (sB 11 5) "Bank.put_all" gT 142 349 65 2 []++oH (sB 11 6) "Bank.cut" gT 147 355 68 2 ["self","many"]++oH (sB 11 7) "Bank.op" gT 154 363 71 2 ["self","n"]++oH (sB 11 8) "Bank.kids" gT 161 371 74 2 ["self","n"]++oH (sB 11 9) "Bank.node" gT 168 379 77 2 ["self","n"]++oH (sB 11 10) "Bank.term" gT 175 387 80 2 []++oH (sB 11 11) "Bank.weight" gT 180 393 92 2 ["self","n"]++oH (sB 11 12) "Bank.depth" gT 187 401 95 2 ["self","n"]++oH (sB 11 13) "Bank.seek" gT 194 409 98 3 ["self","op","kids"]++[oT (mw ["depths","nodes","numbers","weights"] 418),oD P (("__module__",306,gT)::("__firstlineno__",310,.int 31 309)::(Mx.append [("__dict__",424,.ref 204),("__weakref__",426,.ref 205),("__doc__",427,.none)])) 4,sx "Bank" 203 299 307,sj 423 203,qA 425 203,og 203,oa 203])
def N3(P:bh):ag cY:=N2 P++([oT [],n9,oD P (("__module__",439,.str "alikeheap.matching" 430)::("__qualname__",441,.str "Walker" 440)::("__firstlineno__",443,.int 101 442)::My) 8,oT [],qB 4 [(103,220),(106,225),(121,232),(127,237)],nq "Walker" 434 101 211,ni 213 210 kY]++oH (sB 13 0) "Walker.__init__" kY 215 444 103 2 ["self","heap"]++oH (sB 13 1) "Walker.extended" kY 222 452 106 4 []++oH (sB 13 2) "Walker.found_in" kY 227 458 121 3 ["self","c","pattern","substs","table"]++oH (sB 13 3) "Walker.found" kY 234 469 127 2 []++[oT (mw ["heap"] 475),oD P (("__module__",439,kY)::("__firstlineno__",443,.int 101 442)::(My.append [("__dict__",478,.ref 242),("__weakref__",480,.ref 243),("__doc__",481,.none)])) 4,sx "Walker" 241 432 440,sj 477 241,qA 479 241,og 241,oa 241,oT [],n9,oD P (("__module__",491,kY)::("__qualname__",493,.str "Changes" 492)::("__firstlineno__",495,.int 129 494)::Mz) 10,oT [],qB 4 [(131,258),(137,263),(145,268),(155,273),(159,278),(171,285)],nq "Changes" 486 129 249,ni 251 248 kY]++oH (sB 14 0) "Changes.__init__" kY 253 496 131 2 ["self","heap"]++oH (sB 14 1) "Changes.changed" kY 260 504 137 2 []++oH (sB 14 2) "Changes.reached" kY 265 510 145 3 []++oH (sB 14 3) "Changes.image" kY 270 516 155 2 []++oH (sB 14 4) "Changes.found" kY 275 522 159 2 []++oH (sB 14 5) "Changes.all_found" kY 280 528 171 2 ["self","pattern"]++[oT (mw ["heap","marks","seen","walker"] 536),oD P (("__module__",491,kY)::("__firstlineno__",495,.int 129 494)::(Mz.append [("__dict__",542,.ref 290),("__weakref__",544,.ref 291),("__doc__",545,.none)])) 4,sx "Changes" 289 484 492,sj 541 289,qA 543 289,og 289,oa 289])
def N4(P:bh):ag cY:=N3 P++([oT [],n9,oD P (("__module__",557,.str "alikeheap.unions" 548)::("__qualname__",559,.str "Unions" 558)::("__firstlineno__",561,.int 174 560)::MA) 14,oT [],qB 4 [(176,306),(181,313),(186,320),(189,327),(194,334),(203,341),(206,346),(209,353),(212,360),(218,367)],nq "Unions" 552 174 297,ni 299 296 mx]++oH (sB 16 0) "Unions.__init__" mx 301 562 176 1 ["self"]++oH (sB 16 1) "Unions.make" mx 308 569 181 1 ["self"]++oH (sB 16 2) "Unions.size" mx 315 576 186 1 ["self"]++oH (sB 16 3) "Unions.find" mx 322 583 189 2 ["self","a"]++oH (sB 16 4) "Unions.merge" mx 329 591 194 3 ["self","a","b","kept","gone"]++oH (sB 16 5) "Unions.members" mx 336 602 203 2 ["self","a"]++oH (sB 16 6) "Unions.classes" mx 343 610 206 1 []++oH (sB 16 7) "Unions.log" mx 348 616 209 1 ["self"]++oH (sB 16 8) "Unions.back" mx 355 623 212 2 ["self","many","kept","gone"]++oH (sB 16 9) "Unions.cut" mx 362 633 218 2 ["self","many"]++[oT (mw ["above","lots","merged"] 641),oD P (("__module__",557,mx)::("__firstlineno__",561,.int 174 560)::(MA.append [("__dict__",646,.ref 372),("__weakref__",648,.ref 373),("__doc__",649,.none)])) 4,sx "Unions" 371 550 558,sj 645 371,qA 647 371,og 371,oa 371])
def N5(P:bh):ag cY:=N4 P++([oT [],n9,oD P (("__module__",661,.str "alikeheap.heap" 652)::("__qualname__",663,.str "Heap" 662)::("__firstlineno__",665,.int 221 664)::MB) 22,oT [],qB 4 [(223,388),(232,395),(235,400),(238,405),(249,410),(252,417),(257,424),(260,431),(263,438),(266,445),(277,452),(281,459),(284,466),(287,473),(290,478),(293,485),(296,490),(300,497)],nq "Heap" 656 221 379,ni 381 378 iI]++oH (sB 18 0) "Heap.__init__" iI 383 666 223 1 ["self"]++oH (sB 18 1) "Heap.size" iI 390 673 232 1 ["self"]++oH (sB 18 2) "Heap.node" iI 397 680 235 2 []++oH (sB 18 3) "Heap.add" iI 402 686 238 3 []++oH (sB 18 4) "Heap.put" iI 407 692 249 2 []++oH (sB 18 5) "Heap.look_at" iI 412 698 252 2 ["self","n","other"]++oH (sB 18 6) "Heap.find" iI 419 707 257 2 ["self","n"]++oH (sB 18 7) "Heap.are_like" iI 426 715 260 3 ["self","a","b"]++oH (sB 18 8) "Heap.merge" iI 433 724 263 4 ["self","a","b","reason"]++oH (sB 18 9) "Heap.join" iI 440 734 266 4 ["self","a","b","reason","merged","kept","gone"]++oH (sB 18 10) "Heap.settle" iI 447 747 277 1 ["self"]++oH (sB 18 11) "Heap.is_settled" iI 454 754 281 1 ["self"]++oH (sB 18 12) "Heap.classes" iI 461 761 284 1 ["self"]++oH (sB 18 13) "Heap.members" iI 468 768 287 2 ["self","c"]++oH (sB 18 14) "Heap.nodes_of" iI 475 776 290 2 []++oH (sB 18 15) "Heap.many_nodes" iI 480 782 293 1 ["self"]++oH (sB 18 16) "Heap.seek" iI 487 789 296 3 []++oH (sB 18 17) "Heap.users" iI 492 795 300 2 ["self","c"]++[oT (mw ["above","bank","edges","forest","known","unions","waiting"] 803),oD P (("__module__",661,iI)::("__firstlineno__",665,.int 221 664)::(MB.append [("__dict__",812,.ref 502),("__weakref__",814,.ref 503),("__doc__",815,.none)])) 4,sx "Heap" 501 654 662,sj 811 501,qA 813 501,og 501,oa 501,oT (mw ["together","turns","rests"] 820)])
def N6(P:bh):ag cY:=N5 P++([oT [],n9,oD P (("__module__",831,.str "alikeheap.rules" 818)::("__qualname__",833,.str "Rule" 832)::("__firstlineno__",835,.int 304 834)::MC) 6,oT [],qB 4 [(306,517),(322,524)],nq "Rule" 826 304 510,ni 512 509 iv]++oH (sB 21 0) "Rule.__init__" iv 514 836 306 5 []++oH (sB 21 1) "Rule.turned" iv 519 842 322 1 ["self"]++[oT (mw ["left","name","needs","right"] 849),oD P (("__module__",831,iv)::("__firstlineno__",835,.int 304 834)::(MC.append [("__dict__",855,.ref 529),("__weakref__",857,.ref 530),("__doc__",858,.none)])) 4,sx "Rule" 528 824 832,sj 854 528,qA 856 528,og 528,oa 528,oT [],n9,oD P (("__module__",868,iv)::("__qualname__",870,.str "Placer" 869)::("__firstlineno__",872,.int 324 871)::MD) 8,oT [],qB 4 [(326,545),(329,550),(334,555),(340,562)],nq "Placer" 863 324 536,ni 538 535 iv]++oH (sB 22 0) "Placer.__init__" iv 540 873 326 2 ["self","heap"]++oH (sB 22 1) "Placer.put" iv 547 881 329 3 []++oH (sB 22 2) "Placer.class_of" iv 552 887 334 3 []++oH (sB 22 3) "Placer.holds" iv 557 893 340 3 ["self","need","table","kind","one","other","here"]++[oT (mw ["heap"] 906),oD P (("__module__",868,iv)::("__firstlineno__",872,.int 324 871)::(MD.append [("__dict__",909,.ref 567),("__weakref__",911,.ref 568),("__doc__",912,.none)])) 4,sx "Placer" 566 861 869,sj 908 566,qA 910 566,og 566,oa 566,oT [],n9,oD P (("__module__",922,iv)::("__qualname__",924,.str "Runner" 923)::("__firstlineno__",926,.int 344 925)::ME) 11,oT [],qB 4 [(346,581),(362,588),(365,595),(376,600),(385,607),(393,612),(407,619)],nq "Runner" 917 344 574,ni 576 573 iv]++oH (sB 23 0) "Runner.__init__" iv 578 927 346 4 []++oH (sB 23 1) "Runner.is_full" iv 583 933 362 1 ["self"]++oH (sB 23 2) "Runner.matches" iv 590 940 365 2 ["self","k","found"]++oH (sB 23 3) "Runner.apply" iv 597 949 376 3 []++oH (sB 23 4) "Runner.apply_all" iv 602 955 385 3 ["self","k","found","joined","c","subst"]++oH (sB 23 5) "Runner.one_round" iv 609 967 393 1 []++oH (sB 23 6) "Runner.run" iv 614 973 407 1 ["self"]++[oT (mw ["heap","history","options","placer","rests","rounds","rules","wakes","walker"] 980),oD P (("__module__",922,iv)::("__firstlineno__",926,.int 344 925)::(ME.append [("__dict__",991,.ref 624),("__weakref__",993,.ref 625),("__doc__",994,.none)])) 4,sx "Runner" 623 915 923,sj 990 623,qA 992 623,og 623,oa 623])
def N7(P:bh):ag cY:=N6 P++(oH (sA 25) "_law_dip" qD 628 999 410 2 ["feed","many","spot"]++oH (sA 26) "_law_term" qD 635 1008 416 2 ["feed","deep","way"]++oH (sA 27) "_law_rules" qD 642 1017 423 1 ["feed","x","y","z","a","b","some","found","lap","name","left","right"]++oH (sA 28) "_law_home" qD 649 1035 433 2 []++oH (sA 29) "_law_are_within" qD 654 1041 436 2 ["here","there","homes","back","n","c","d"]++oH (sA 30) "_law_new_round" qD 661 1054 443 3 []++oH (sA 31) "law" qD 666 1060 451 1 ["script","feed","whole","part","terms","t","many","rules_now","runner","changes_now","turn","a","b","heap_now"])
def sy(P:bh)(d:cY)(m:aF)(k c:aa)(N:ag cY):ag cY:=B0 P++(d::oD P (("__name__",165,m)::YY.take k) (k+1)::B1 P)++(oN (YZ.take c)::N)
noncomputable def uw(P:bh):cY:=(⟨.none,ah,.dict ⟨[⟨DG P "type.__subclasses__.Exception.0",.str "type.__subclasses__.Exception.0" 230,.int 47 0⟩,⟨DG P "type.__subclasses__.Exception.n",.str "type.__subclasses__.Exception.n" 231,.int 1 0⟩]⟩ 2,#[]⟩:cY)
def L0(P:bh):ag cY:=sy P ((⟨.none,ah,.dict ⟨[]⟩ 0,#[]⟩:cY)) FZ 8 0 (N0 P)
def L1(P:bh):ag cY:=sy P (uw P) gT 12 12 (N1 P)
def L2(P:bh):ag cY:=sy P (uw P) gT 18 30 (N2 P)
def L3(P:bh):ag cY:=sy P (uw P) mx 20 36 (N3 P)
def L4(P:bh):ag cY:=sy P (uw P) iI 21 39 (N4 P)
def L5(P:bh):ag cY:=sy P (uw P) iv 23 42 (N5 P)
def L6(P:bh):ag cY:=sy P (uw P) qD 26 51 (N6 P)
def L7(P:bh):ag cY:=sy P (uw P) qD 33 72 (N7 P)
abbrev my:bI:={scope:=pw.main.scope,locals:=mainNs,globals:=mainNs,cells:=[],code:=.ref 13,frame:=af 14}
abbrev bd:ag cG:=behindTheImports pw
abbrev cE:Code:=.body bd my
noncomputable abbrev p0:qg:=⟨0,0,0,0⟩
noncomputable def hp(j:ag cY):cL:=⟨⟨j⟩,{}⟩
def S0(w:aZ)(os:fT):td:=⟨pD 20 (L0 w.params),15,{},#[],{},187,os⟩
def S1(w:aZ)(os:fT):td:=⟨pD 20 (L1 w.params),75,{},#[],{},268,os⟩
def S2(w:aZ)(os:fT):td:=⟨pD 20 (L2 w.params),208,{},#[],{},430,os⟩
def S3(w:aZ)(os:fT):td:=⟨pD 20 (L3 w.params),294,{},#[],{},550,os⟩
def S4(w:aZ)(os:fT):td:=⟨pD 20 (L4 w.params),376,{},#[],{},654,os⟩
def S5(w:aZ)(os:fT):td:=⟨pD 20 (L5 w.params),507,{},#[],{},824,os⟩
def S6(w:aZ)(os:fT):td:=⟨pD 20 (L6 w.params),628,{},#[],{},999,os⟩
def S7(w:aZ)(os:fT):td:=⟨pD 20 (L7 w.params),673,{},#[],{},1080,os⟩
abbrev qE:=aia Dj
def Y0:segRunT j0=qE:=by show segRunT j0=_;rw[aif,Dk]
def Y1(w:aZ)(os:fT):qE pw w 11 (af (.ref 6)) 1 749 (S0 w os) (vN ((bd.drop 0).take 6) my cE p0 [mT p0])=af (.next,S1 w os,cE,⟨17,0,17,8⟩):=by kernel_rfl
def Y2(w:aZ)(os:fT):qE pw w 11 (af (.ref 6)) 1 764 (S1 w os) (vN ((bd.drop 6).take 6) my cE ⟨17,0,17,8⟩ [mT p0])=af (.next,S2 w os,cE,⟨31,0,99,56⟩):=by kernel_rfl
def Y3(w:aZ)(os:fT):qE pw w 11 (af (.ref 6)) 1 701 (S2 w os) (vN ((bd.drop 12).take 4) my cE ⟨31,0,99,56⟩ [mT p0])=af (.next,S3 w os,cE,⟨173,0,173,8⟩):=by kernel_rfl
def Y4(w:aZ)(os:fT):qE pw w 11 (af (.ref 6)) 1 519 (S3 w os) (vN ((bd.drop 16).take 2) my cE ⟨173,0,173,8⟩ [mT p0])=af (.next,S4 w os,cE,⟨220,0,220,8⟩):=by kernel_rfl
def Y5(w:aZ)(os:fT):qE pw w 11 (af (.ref 6)) 1 778 (S4 w os) (vN ((bd.drop 18).take 3) my cE ⟨220,0,220,8⟩ [mT p0])=af (.next,S5 w os,cE,⟨303,0,303,6⟩):=by kernel_rfl
def Y6(w:aZ)(os:fT):qE pw w 11 (af (.ref 6)) 1 990 (S5 w os) (vN ((bd.drop 21).take 4) my cE ⟨303,0,303,6⟩ [mT p0])=af (.next,S6 w os,cE,⟨409,0,409,8⟩):=by kernel_rfl
def Y7(w:aZ)(os:fT):qE pw w 11 (af (.ref 6)) 1 232 (S6 w os) (vN ((bd.drop 25).take 7) my cE ⟨409,0,409,8⟩ [mT p0])=af (.next,S7 w os,cE,⟨451,0,470,15⟩):=by kernel_rfl
noncomputable def F7:ag aa:=([3,20,21,36,37,43,44,46,47,59,60,71,72,78,79,85,86,90,91,95,96,100,101,114,115,121,122,126,127,133]:ag aa)++([134,140,141,145,146,152,153,159,160,166,167,173,174,178,179,185,186,192,193,199,200,202,203,220,221,225,226,232,233,237]:ag aa)++([238,240,241,258,259,263,264,268,269,273,274,278,279,285,286,288,289,306,307,313,314,320,321,327,328,334,335,341,342,346]:ag aa)++([347,353,354,360,361,367,368,370,371,388,389,395,396,400,401,405,406,410,411,417,418,424,425,431,432,438,439,445,446,452]:ag aa)++([453,459,460,466,467,473,474,478,479,485,486,490,491,497,498,500,501,506,517,518,524,525,527,528,545,546,550,551,555,556,562]:ag aa)++([563,565,566,581,582,588,589,595,596,600,601,607,608,612,613,619,620,622,623,633,634,640,641,647,648,652,653,659,660,664]:ag aa)++([665,671,672]:ag aa)
def KK(P:bh):cJ:=F7.map λa=>(a,(L7 P).getD a (oT []))
noncomputable def ux:ag aI:=["_wall","HeapError","TermFault","RuleFault","is_op","is_variable","depth","variables","parts","Bank","Walker","Changes","Unions","Heap","ORDERS","Rule","Placer","Runner","_law_dip","_law_term","_law_rules","_law_home","_law_are_within","_law_new_round"]
end
section
noncomputable abbrev ann:d6 aF:=af (.ref 6)
noncomputable abbrev H1(P:bh):cL:=hp (L7 P)
def uy{w:aZ}{n N k m k':aa}{s s':td}{pos pos':qg}{r:aK}(h:qE pw w 11 ann 1 n s (vN ((bd.drop k).take m) my cE pos [mT p0])=af (.next,s',cE,pos'))(hk:k+m=k')(t:xO j0 pw w 11 ann N s'.abs (restOf (bd.drop k') my cE pos' [mT p0])=af r):xO j0 pw w 11 ann (n+N) s.abs (restOf (bd.drop k) my cE pos [mT p0])=af r:=by
 subst hk;have e:bd.drop k=(bd.drop k).take m++bd.drop (k+m):=by rw[←List.drop_drop];exact(Rd ..).symm
 rw[←Y0]at h;rw[e];exact piece_app (segRun_of h) t
def Y8:topGo j0=ah6 Dj:=by show topGo j0=_;rw[aib,Dk]
def Y9:xO j0=ah8 Dj:=by show xO j0=_;rw[aid,Dk]
def Y':denote j0=ah9 Dj:=by show denote j0=_;rw[aie,Dk]
def Za(w:aZ)(os:fT):topGo j0 pw w 11 ann 12 ⟨ta w.params,⟨[]⟩,boot_drawn,boot_toks,os⟩ (topStub pw)=af ((S0 w os).abs,⟨denote j0 cE,cE,p0,[mT p0]⟩):=by rw[Y8,Y'];kernel_rfl
def Zb(w:aZ)(os:fT):xO j0 pw w 11 ann 2 (S7 w os).abs ⟨doneF .next,cE,⟨451,0,470,15⟩,[mT p0]⟩=af ⟨H1 w.params,⟨[]⟩,{},1080,os⟩:=by rw[Y9];kernel_rfl
def Zc:segRun j0=ah7 Dj:=by show segRun j0=_;rw[aic,Dk]
def Zd(w:aZ)(os:fT):segRun j0 pw w 11 ann 1 1 (S0 w os).abs (blockOf bd my cE p0 [mT p0])=af (.next,(S0 w os).abs,cE,p0):=by rw[Zc];kernel_rfl
def Ze:bd.drop 32=[]:=by kernel_rfl
def Zf(w:aZ)(os:fT):xO j0 pw w 11 ann 2 (S7 w os).abs (restOf (bd.drop 32) my cE ⟨451,0,470,15⟩ [mT p0])=af ⟨H1 w.params,⟨[]⟩,{},1080,os⟩:=by rw[Ze];exact piece_nil (Zb w os)
def Zg(w:aZ)(os:fT):xO j0 pw w 11 ann (12+(1+(749+(764+(701+(519+(778+(990+(232+2))))))))) ⟨ta w.params,⟨[]⟩,boot_drawn,boot_toks,os⟩ (topStub pw)=af ⟨H1 w.params,⟨[]⟩,{},1080,os⟩:=go_top (Za w os) (piece_block (Zd w os) (uy (k:=0) (m:=6) (k':=6) (Y1 w os) rfl (uy (k:=6) (m:=6) (k':=12) (Y2 w os) rfl (uy (k:=12) (m:=4) (k':=16) (Y3 w os) rfl (uy (k:=16) (m:=2) (k':=18) (Y4 w os) rfl (uy (k:=18) (m:=3) (k':=21) (Y5 w os) rfl (uy (k:=21) (m:=4) (k':=25) (Y6 w os) rfl (uy (k:=25) (m:=7) (k':=32) (Y7 w os) rfl (Zf w os)))))))))
end
section
noncomputable abbrev qq:cx:={pw with main:={pw.main with body:=[sA 31]}}
def Zh(P:bh):F7=(KK P).map (·.1):=by kernel_rfl
noncomputable abbrev HH:Hook:=kHook KK F7 Zh
noncomputable abbrev rr:OpenRow:=QT.row
noncomputable abbrev F9:aK->bw:=λs=>xlAt qq [] s&&recOk (RowW.records rr.toRowW) s
def Zi(w:aZ):((ta w.params).isNs fw&&(⟨[]⟩:b9 GenState).size==0,(ta w.params).objs.size,(ta w.params).nsMap fw "__annotations__")=(ai,11,ann):=by kernel_rfl
def Zj(w:aZ)(os:fT):staticsOk (II pw.main.body) (ta w.params) (H1 w.params)=ai:=by kernel_rfl
def Ga(w:aZ)(os:fT):namesBound pw (H1 w.params)=ai:=by kernel_rfl
def Zl(w:aZ)(os:fT):gensDone ⟨H1 w.params,⟨[]⟩,{},1080,os⟩=ai:=by kernel_rfl
def Zm(w:aZ)(os:fT):laidKept (ta w.params) (H1 w.params)=ai:=by kernel_rfl
noncomputable abbrev sF(w:aZ)(os:fT):aK:=⟨H1 w.params,⟨[]⟩,{},1080,os⟩
def Zn(w:aZ)(os:fT):openSeen qq ux (II pw.main.body) F9 ai (sF w os)=openGood qq ux:=by kernel_rfl
def Zo(w:aZ)(os:fT):HH.obs (sF w os)=HH.val w:=by kernel_rfl
def Zp(w:aZ):(λos:fT=>((staticsOk (II pw.main.body) (ta w.params) (H1 w.params)&&namesBound pw (H1 w.params)&&gensDone ⟨H1 w.params,⟨[]⟩,{},1080,os⟩&&laidKept (ta w.params) (H1 w.params)),openSeen qq ux (II pw.main.body) F9 ai ⟨H1 w.params,⟨[]⟩,{},1080,os⟩,HH.obs ⟨H1 w.params,⟨[]⟩,{},1080,os⟩))=λu=>(ai,openGood qq ux,HH.val w):=by funext os;rw[Zj w os,Ga w os,Zl w os,Zm w os,Zn w os,Zo w os];rfl
def opens:opening pw=plainProg pw.main.scope.names:=by kernel_rfl
def Zq(s:aK):fenceModules? pw s=af s:=by kernel_rfl
def Zr:LeftO rr.prog qq ux F9 HH.obs HH.val 9578:=LeftO.of_pieces (H₁:=H1) (gs₁:=⟨[]⟩) (d₁:={}) (k₁:=1080) (M:=4748) (boot_open opens (by kernel_rfl) Zq) Zi Zg (by kernel_rfl) Zp
def Zs:QT.wellSaid=ai:=by kernel_rfl
end
section
set_option backward.match.sparseCases false
def Zt(s:cG):DefRec:=match s with|.FunctionDef n a b _ _ _ sc _ _ p=>⟨n,a,b,sc,p⟩|_=>⟨"law",⟨[],[],ah,[],[],ah,[]⟩,[],⟨.function,[],aD,aD,[]⟩,p0⟩
abbrev dd:DefRec:=Zt (sA 31)
def wJ(dR:WalkO qq ux (XL qq []) HH.says rr.toRowW dd [] λf vs=>ag9 f vs):QT.Holds:=by refine holds_law Zs λk1=>?_;refine holds_open (q:=qq) (loose:=ux) (Xt:=F9) (XP:=XL qq []) (Yf:=HH.obs) (Ya:=HH.val) (YP:=HH.says) (N:=9578) Zr HH.of HH.keeps (λs e=>xl_of s (bM.mp e).1) XL.keeps (by kernel_rfl) (by kernel_rfl) (by kernel_rfl) (λs e=>recFacts_of (bM.mp e).2) (by rfl) k1 (by kernel_rfl) ⟨rfl,rfl,rfl,rfl,rfl,by decide+kernel⟩ ?_ dR;w_witness2
end
section
abbrev Cells:=ag (aa×aV)
structure Rep(st:aE)(L:Cells):Prop where
 nd:(L.map (·.1)).Nodup
 has:∀p∈L,st p.1=af p.2
section
variable{st:aE}{L M:Cells}
def Rep.at(R:Rep st L)(i:aa)(e:aB (L[i]?=af p) tR):st p.1=af p.2:=R.has p (e8 e)
def Rep.perm(R:Rep st L)(p:L.Perm M):Rep st M:=⟨(p.map _).nodup_iff.mp R.nd,λq h=>R.has q (p.mem_iff.mpr h)⟩
def Rep.left(R:Rep st (L++M)):Rep st L:=⟨(gA.mp (cy▸R.nd)).1,λp h=>R.has p (de _ h)⟩
def Rep.right(R:Rep st (L++M)):Rep st M:=⟨(gA.mp (cy▸R.nd)).2.1,λp h=>R.has p (bC _ h)⟩
def Zu:∀{L:Cells}{i:aa},L[i]?=af (a,o)->(L.map (·.1)).Nodup->(L.set i (a,o')).map (·.1)=L.map (·.1)/\∀q∈L.set i (a,o'),q=(a,o')\/(q∈L/\q.1≠a):=by
 intro L;induction L with
  |nil=>intro i e;contradiction|cons p L ih=>
   intro i e nd;obtain⟨n1,n2⟩:=iZ.mp nd;clear nd;induction i using jo with
    |zero=>
     obtain rfl:=bR e;refine⟨rfl,λq hq=>?_⟩;rcases cg.mp hq with rfl|hq;·exact .inl rfl
     ·exact .inr ⟨bK _ hq,λz=>n1 (bt.mpr (aA q hq z))⟩|succ i=>
     refine bx (ih e n2) λh1 h2=>?_;refine⟨aO (p.1::·) h1,λq hq=>?_⟩;rcases cg.mp hq with rfl|hq;·exact .inr ⟨aR,λz=>n1 (bt.mpr (aA _ (e8 e) z.symm))⟩
     ·exact(h2 q hq).imp id λzf=>bx zf λx y=>⟨bK _ x,y⟩
def Rep.put(R:Rep st L)(i:aa)(e:aB (L[i]?=af (a,o)) tR):Rep (st.put a o') (L.set i (a,o')):=by
 refine bx (Zu (o':=o') e R.nd) λh1 h2=>?_;refine⟨h1▸R.nd,λp hp=>?_⟩;rcases h2 p hp with rfl|⟨x,y⟩;·exact aE.lY ..
 ·exact(aE.gj y)▸(R.has p x)
def Rep.new(R:Rep st L)(o:aV)(h:st b=ah):Rep (st.put b o) ((b,o)::L):=by
 have hb:∀p∈L,p.1≠b:=λp hp e=>by have:=R.has p hp;rw[e,h]at this;nomatch this
 refine⟨iZ.mpr ⟨λq=>?_,R.nd⟩,λp hp=>?_⟩;·refine aq (bt.mp q) λp hp e=>?_;exact hb p hp e
 ·rcases cg.mp hp with rfl|hp;·exact aE.lY ..
  ·rw[aE.gj (hb p hp)];exact R.has p hp
noncomputable def aE.only(st:aE)(L:Cells):aE:=λb=>if b∈L.map (·.1)then st b else ah
def Rep.only(R:Rep st (L++M)):Rep (st.only L) L:=⟨R.left.nd,λp hp=>by delta aE.only;exact(a0 (gK hp))▸(R.left.has p hp)⟩
end
section
variable [dq:Hid]
variable{prog:cx}{w:aZ}{K:cJ}{r f:aa}{env:bI}{loc:Loc}{st:aE}{A:cQ}{P:bE}{s:aK}{vs:ag V}{L M N:Cells}
def SRel.less(S:SRel w P s st)(h:∀b o,Zv b=af o->st b=af o):SRel w P s Zv:=⟨S.keep,λa o e=>S.apart a o (h a o e),λa o e=>S.obj a o (h a o e),S.os,S.gens,λa o e=>S.big a o (h a o e),S.wide,S.j7⟩
inductive gU(Q:V->Cells->Prop)(v:V)(st:aE):Prop|mk(L:Cells):Rep st L->Q v L->gU Q v st
def BY(prog:cx)(w:aZ)(K:cJ)(r f:aa)(vs:ag V)(L:Cells)(Q:V->Cells->Prop):Prop:=∀st,Rep st L->Spec prog w K r f vs st (gU Q)
def BY.frame(h:BY prog w K r f vs L Q)(R:Rep st (L++M)):Spec prog w K r f vs st λv ak=>∃L',Rep ak (L'++M)/\Q v L':=λA P s xs a g S rx=>by
 have sub:∀b o,st.only L b=af o->st b=af o:=λb o e=>by
  delta aE.only at e;split at e;·exact e
  ·nomatch e
 have S0:=S.less sub;refine xH (h _ R.only A (bE.rest (st.only L) s) s xs a (g.keeps S0.sub) S0.rest rx) λres s' z=>?_;obtain⟨x,v,aQ,e,rv,S1,L',R',hq⟩:=z;have kp:∀b o,st.only L b=ah->s.heap.get? b=af o->s'.heap.get? b=af o/\aQ b=ah:=λb o q e=>by have e':(bE.rest (st.only L) s).h.get? b=af o:=eD.mpr ⟨by rw[q];rfl,e⟩;refine⟨S1.keep b o e',?_⟩;cases q1:aQ b with|none=>rfl|some m=>rw[S1.apart b m q1]at e';nomatch e'
 have hM:∀p∈M,st.only L p.1=ah:=λp hp=>by refine aX λz=>?_;have:=gA.mp (cy▸R.nd);exact this.2.2 _ z _ (gK hp) rfl
 have MF:=λp hp=>by refine aq (S.obj _ _ (R.right.has p hp)) λro e _=>?_;exact(kp _ _ (hM p hp) e).2
 let bP:aE:=λb=>match aQ b with|af o=>af o|ah=>if st.only L b=ah then st b else ah;have h2:∀b o,bP b=af o->aQ b=af o\/(st.only L b=ah/\st b=af o):=λb o e=>by
  have e:(match aQ b with|af o=>af o|ah=>if st.only L b=ah then st b else ah)=af o:=e;cases q:aQ b with
   |some m=>rw[q]at e;exact .inl e|none=>
    rw[q]at e;dsimp only at e;split at e;·next z=>exact .inr ⟨z,e⟩
    ·nomatch e
 refine(mX x v bP e rv ⟨λb o e=>S1.keep b o (S0.sub b o e),λb o e=>?_,λb o e=>?_,S1.os.trans S.os,S1.gens.trans S.gens,λb o e=>?_,S.wide,S.j7⟩ (aA L' ⟨?_,λp hp=>?_⟩ hq));·
  rcases h2 b o e with e|⟨_,e⟩;·exact tw S0.sub (S1.apart b o e)
  ·exact S.apart b o e
 ·rcases h2 b o e with e|⟨q,e⟩;·exact S1.obj b o e
  ·refine aq (S.obj b o e) λro x y=>?_;exact(aA ro ((kp _ _ q x).1) (y.keep (S0.ly S1)))
 ·rcases h2 b o e with e|⟨_,e⟩;·exact S1.big b o e
  ·exact S.big b o e
 ·rw[cy];refine gA.mpr (cM R'.nd R.right.nd (λa ha b hb q=>?_));refine aq (bt.mp ha) λp hp aC=>?_;subst aC;refine aq (bt.mp hb) λp' kX aC=>?_;subst aC;have:=R'.has p hp;rw[q,MF p' kX]at this;nomatch this
 ·rcases cw.mp hp with hp|hp;·exact(λb o e=>by show(match aQ b with|af o=>_|ah=>_)=_;rw[e]:∀b o,aQ b=af o->bP b=af o) _ _ (R'.has p hp)
  ·show(match aQ p.1 with|af o=>_|ah=>_)=_;rw[MF p hp];rw[a0 (hM p hp)];exact R.right.has p hp
def MG(h:BY prog w K r f vs L Q)(R:Rep st N)(p:N.Perm (L++M))(k:∀v L' ak,Q v L'->Rep ak (L'++M)->Q' v ak):OV prog w K r env (λxs=>dR (.ref f) xs) vs loc st Q':=UM ((h.frame (R.perm p)).mono λv ak z=>by refine aq z λL' a b=>?_;exact k v L' ak b a)
end
end
section
set_option backward.match.sparseCases false
abbrev KW(w:aZ):cJ:=KK w.params
noncomputable abbrev nv(n:aa):V:=.int n
def Rep.head{st:aE}{L:Cells}(R:Rep st (p::L)):st p.1=af p.2:=R.has p aR
set_option genSizeOf false in set_option genInjectivity false in structure EP where
 ch:ag aT
 l:ag aT
 nm:aI
 k:aa
 g:ag DJ
 sc:jH
noncomputable def z0:aT:=.Constant .none 0 ⟨0,0,0,0⟩
noncomputable def zS:jH:=⟨.function,[],aD,aD,[]⟩
def ep:aT->EP|.Attribute v n _=>⟨[v],[],n,0,[],zS⟩|.Call f l _ _=>⟨[f],l,"",0,[],zS⟩|.BinOp l _ r _=>⟨[l,r],[],"",0,[],zS⟩|.Compare l _ c _=>⟨l::c,[],"",0,[],zS⟩|.Subscript v i _=>⟨[v,i],[],"",0,[],zS⟩|.UnaryOp _ x _=>⟨[x],[],"",0,[],zS⟩|.IfExp t x y _=>⟨[t,x,y],[],"",0,[],zS⟩|.ListComp x g s _=>⟨[x],[],"",0,g,s⟩|.DictComp k v g s _=>⟨[k,v],[],"",0,g,s⟩|.Tuple l k _=>⟨[],l,"",k,[],zS⟩|.List l _=>⟨[],l,"",0,[],zS⟩|.BoolOp _ l _=>⟨[],l,"",0,[],zS⟩|.Name n _=>⟨[],[],n,0,[],zS⟩|.Constant c k _=>⟨[],[],match c with|.str s=>s|_=>"",k,[],zS⟩|_=>⟨[],[],"",0,[],zS⟩
def fE(l:ag aT):aT:=l.headD z0
def e1(e:aT):aT:=fE (ep e).ch
def e2(e:aT):aT:=fE (ep e).ch.tail
def e3(e:aT):aT:=fE (ep e).ch.tail.tail
def es(e:aT):ag aT:=(ep e).l
def a1(e:aT):aT:=fE (es e)
def a2(e:aT):aT:=fE (es e).tail
def a3(e:aT):aT:=fE (es e).tail.tail
def nm(e:aT):aI:=(ep e).nm
def kk(e:aT):aa:=(ep e).k
def gens(e:aT):ag DJ:=(ep e).g
def jO(e:aT):jH:=(ep e).sc
set_option genSizeOf false in set_option genInjectivity false in structure SP where
 v:aT
 t:aT
 b1:ag cG
 b2:ag cG
 p:qg
 sc:jH
def sq:cG->SP|.Return e p=>⟨e.getD z0,z0,[],[],p,zS⟩|.Expr e p=>⟨e,z0,[],[],p,zS⟩|.Assign t e p=>⟨e,fE t,[],[],p,zS⟩|.If e a b p=>⟨e,z0,a,b,p,zS⟩|.While e a _ p=>⟨e,z0,a,[],p,zS⟩|.For t e a _ p=>⟨e,t,a,[],p,zS⟩|.FunctionDef _ _ b _ _ _ s _ _ p=>⟨z0,z0,b,[],p,s⟩|_=>⟨z0,z0,[],[],⟨0,0,0,0⟩,zS⟩
def sv(s:cG):aT:=(sq s).v
def tg(s:cG):aT:=(sq s).t
def b1(s:cG):ag cG:=(sq s).b1
def b2(s:cG):ag cG:=(sq s).b2
def sp(s:cG):qg:=(sq s).p
def nu(s:cG):jH:=(sq s).sc
noncomputable def dG(l:ag cG):cG:=l.headD (.Pass ⟨0,0,0,0⟩)
set_option genSizeOf false in set_option genInjectivity false in structure Ar where
 A:aa
 cells:ag (aI×hJ)
 q:aI
 c:aF
 cc:aa
set_option genSizeOf false in set_option genInjectivity false in inductive EF|fn(s:cG)(f:aa)|jP(e:aT)(s:cG)(f:aa)
def EF.env:EF->Ar->bI|.fn s f,a=>tS (nu s) a.A a.cells a.q f a.c|.jP e s f,a=>dX (jO e) a.cc (tS (nu s) a.A a.cells a.q f a.c)
def EF.names:EF->ag (aI×xN)|.fn s _=>(nu s).names|.jP e s f=>(dX (jO e) 0 (tS (nu s) 0 [] "" f .none)).scope.names
def EF.kind(E:EF)(a:Ar)(x:aI):(E.env a).kindOf x=E.names.lookup x:=by induction E<;>rfl
def EF.own(E:EF)(x:aI):bw:=(E.names.lookup x==af .local||E.names.lookup x==af .cell)&&!(x=="__debug__")
def EF.glob(E:EF)(x:aI):bw:=E.names.lookup x==af .globalImplicit&&!(x=="__debug__")
def EF.qF{E:EF}(h:E.own x=ai)(a:Ar):((E.env a).kindOf x==af .local||(E.env a).kindOf x==af .cell)=ai/\(x==("__debug__":aI))=aD:=by rw[E.kind];exact⟨(bM.mp h).1,(p7 _).mp (bM.mp h).2⟩
def EF.oh{E:EF}(h:E.glob x=ai)(a:Ar):(E.env a).kindOf x=af .globalImplicit/\(x==("__debug__":aI))=aD:=by rw[E.kind];exact⟨beq_iff_eq.mp (bM.mp h).1,(p7 _).mp (bM.mp h).2⟩
set_option genSizeOf false in inductive Lc|nil|cons(x:aI)(v:V)(l:Lc)
noncomputable def Lc.get:Lc->aI->d6 V|.nil,_=>ah|.cons y v l,x=>if x=y then af v else l.get x
noncomputable def Lc.put:Lc->aI->V->Lc|.nil,x,v=>.cons x v .nil|.cons y u l,x,v=>if x=y then .cons y v l else .cons y u (l.put x v)
noncomputable def Lc.cut(sc:jH):Lc->Lc|.nil=>.nil|.cons y v l=>if sc.names.lookup y==af .free then .cons y v (l.cut sc)else l.cut sc
noncomputable def Lc.of:ag aI->ag V->Lc|n::ns,v::vs=>.cons n v (Lc.of ns vs)|_,_=>.nil
noncomputable def Lc.mA:Lc->ag aI->ag V->Lc|l,n::ns,v::vs=>(l.put n v).mA ns vs|l,_,_=>l
def Lc.yC(l:Lc):(l.put x v).get=Loc.up l.get x v:=by
 induction l with
  |nil=>rfl|cons y u l ih=>
   funext z;refine(?_:(if x=y then Lc.cons y v l else .cons y u (l.put x v)).get z=if z=x then af v else if z=y then af u else l.get z);by_cases q:x=y;·
    subst q;rw[a0 rfl];refine(?_:(if z=x then af v else l.get z)=_);by_cases k:z=x;·rw[a0 k,a0 k]
    ·rw[aX k,aX k,aX k]
   ·rw[aX q];refine(?_:(if z=y then af u else(l.put x v).get z)=_);rw[ih];by_cases k:z=y;·rw[k];rw[a0 rfl,a0 rfl,aX λh=>q h.symm]
    ·rw[aX k,aX k];rfl
def Lc.of_get:∀(ns:ag aI)(vs:ag V),(Lc.of ns vs).get=tZ ns vs:=by intro ns;induction ns with|nil=>intro vs;rfl|cons n ns ih=>intro vs;induction vs with|nil=>rfl|cons v vs=>funext z;refine(?_:(if z=n then af v else(Lc.of ns vs).get z)=if z=n then af v else tZ ns vs z);rw[ih]
def Lc.uA{l:Lc}:∀(ns:ag aI)(vs:ag V)(l:Lc),(l.mA ns vs).get=Loc.ups l.get ns vs:=by intro ns;induction ns with|nil=>intro vs l;rfl|cons n ns ih=>intro vs l;induction vs using b7 with|nil=>rfl|cons v vs=>refine(?_:((l.put n v).mA ns vs).get=Loc.ups (Loc.up l.get n v) ns vs);rw[ih,Lc.yC]
def Lc.Zw(l:Lc):(l.cut sc).get=gS sc l.get:=by
 induction l with
  |nil=>funext z;show ah=if _ then ah else ah;split<;>rfl|cons y u l ih=>
   funext z;refine(?_:(if sc.names.lookup y==af .free then Lc.cons y u (l.cut sc)else l.cut sc).get z=if sc.names.lookup z==af .free then(if z=y then af u else l.get z)else ah);have ih:(l.cut sc).get z=if sc.names.lookup z==af .free then l.get z else ah:=congrFun ih z;by_cases q:z=y;·
    subst q;split;·next h=>show(if z=z then af u else _)=_;rw[a0 rfl,a0 rfl]
    ·next h=>rw[ih,aX h]
   ·rw[aX q,←ih];split;·show(if z=y then af u else _)=_;rw[aX q]
    ·rfl
noncomputable def Lc.sel:Lc->Lc->Lc|.nil,_=>.nil|.cons x _ m,l=>match l.get x with|af u=>.cons x u (m.sel l)|ah=>.nil
def Lc.In(m l:Lc):Prop:=m.sel l=m
def Lc.In.le{l m:Lc}(h:m.In l):Loc.le m.get l.get:=by
 induction m with
  |nil=>intro x v e;contradiction|cons y u m ih=>
   intro x v e;have h:(match l.get y with|af u=>Lc.cons y u (m.sel l)|ah=>.nil)=.cons y u m:=h;have e2:(if x=y then af u else m.get x)=af v:=e;clear e;cases q:l.get y with
    |none=>rw[q]at h;contradiction|some u'=>
     rw[q]at h;refine gf (Lc.cons.inj h) λ_ h1 h2=>?_;split at e2;·next k=>cases k;exact q.trans ((aO af h1).trans e2)
     ·exact ih h2 x v e2
def Loc.le.refl:Loc.le l l:=λu u e=>e
inductive mB(N:Lc->Cells->Prop)(l:Loc)(st:aE):Prop|mk(m:Lc)(L:Cells):Loc.le m.get l->Rep st L->N m L->mB N l st
inductive Gb(Q:bw->Cells->Prop)(b:bw)(st:aE):Prop|mk(L:Cells):Rep st L->Q b L->Gb Q b st
inductive Ge(Q:ag V->Cells->Prop)(vs:ag V)(st:aE):Prop|mk(L:Cells):Rep st L->Q vs L->Ge Q vs st
def EV(E:EF)(e:aT)(r:aa)(Q:V->Cells->Prop)(l:Lc)(L:Cells):Prop:=∀(X:Hid)(w:aZ)(a:Ar)(st:aE),Rep st L->WE pw w (KW w) r (E.env a) (bc e (E.env a)) l.get st (gU Q)
def TV(E:EF)(e:aT)(r:aa)(Q:bw->Cells->Prop)(l:Lc)(L:Cells):Prop:=∀(X:Hid)(w:aZ)(a:Ar)(st:aE),Rep st L->WT pw w (KW w) r (E.env a) (fe e (E.env a) (bc e (E.env a))) l.get st (Gb Q)
noncomputable def jQ(es:ag aT)(env:bI):ag (bw×fU aF):=es.map λe=>(aD,bc e env)
def AV(E:EF)(es:ag aT)(r:aa)(Q:ag V->Cells->Prop)(l:Lc)(L:Cells):Prop:=∀(X:Hid)(w:aZ)(a:Ar)(st:aE),Rep st L->WL pw w (KW w) r (E.env a) (o7 (jQ es (E.env a))) l.get st (Ge Q)
def CV(r:aa)(f:aF)(vs:ag V)(Q:V->Cells->Prop)(L:Cells):Prop:=∀(X:Hid)(w:aZ)(env:bI)(l:Loc)(st:aE),Rep st L->OV pw w (KW w) r env (λxs=>dR f xs) vs l st (gU Q)
def BV(r:aa)(t:aF->aF->fU aF)(u v:V)(Q:V->Cells->Prop)(L:Cells):Prop:=∀(X:Hid)(w:aZ)(env:bI)(l:Loc)(st:aE),Rep st L->dI pw w (KW w) r env t u v l st (gU Q)
def W1(E:EF)(x:cG)(r:aa)(R:V->Cells->Prop)(N:Lc->Cells->Prop)(l:Lc)(L:Cells):Prop:=∀(X:Hid)(w:aZ)(a:Ar)(st:aE),Rep st L->WF pw w (KW w) r (E.env a) (j3 x (E.env a)) l.get st (mB N) (gU R)
def WS(E:EF)(xs:ag cG)(r:aa)(R:V->Cells->Prop)(N:Lc->Cells->Prop)(l:Lc)(L:Cells):Prop:=∀(X:Hid)(w:aZ)(a:Ar)(st:aE),Rep st L->WF pw w (KW w) r (E.env a) (mV xs (E.env a)) l.get st (mB N) (gU R)
def Sp(r f:aa)(vs:ag V)(Q:V->Cells->Prop)(L:Cells):Prop:=∀(X:Hid)(w:aZ)(st:aE),Rep st L->Spec pw w (KW w) r f vs st (gU Q)
inductive Is(v:V)(L:Cells)(u:V)(L':Cells):Prop|mk:u=v->L'=L->Is v L u L'
inductive Gf(b:bw)(L:Cells)(c:bw)(L':Cells):Prop|mk:c=b->L'=L->Gf b L c L'
abbrev PE(E:EF)(e:aT)(r:aa)(l:Lc)(L:Cells)(v:V):Prop:=EV E e r (Is v L) l L
abbrev PT(E:EF)(e:aT)(r:aa)(l:Lc)(L:Cells)(b:bw):Prop:=TV E e r (Gf b L) l L
abbrev CP(r:aa)(f:aF)(vs:ag V)(v:V)(L:Cells):Prop:=CV r f vs (Is v L) L
abbrev i9(r f:aa)(vs:ag V)(v:V)(L:Cells):Prop:=Sp r f vs (Is v L) L
end
section
def le_size(h:n<=16777216):n<=AD:=by rw[DO];exact h
def BZ{es:ag aT}:(jQ es env).any (·.1)=aD:=by unfold jQ;rw[List.any_map];exact agj.mpr λu u=>fH
def B2{es:ag aT}:jQ es env=[]\/∃x l,jQ es env=(aD,x)::l:=by induction es using b7 with|nil=>exact .inl rfl|cons e es=>exact .inr (d8 _ _ rfl)
def Zx(o:aT)(name:aI)(ap pos:qg)(args:ag aT)(env:bI):fU aF:=do let ov←bc o env;mU ap.atName;let(f,first)←o9 [ov] (getMethod ov name (do return(←importBound o env).getD ai));tc pos f first (jQ args env) []
def wK(x:aT)(pos:qg)(args:ag aT)(env:bI):fU aF:=do tc pos (←bc x env) [] (jQ args env) []
noncomputable def Gg(o:aT)(s:aI)(pos:qg)(env:bI):fU aF:=do let o'←bc o env;mU pos.atName;let r←o9 [o'] (Jk o' s ai);IK o o' r;pure r
def Mt(name:aI)(u:V)(f:aF)(L:Cells):Prop:=∀(X:Hid)(w:aZ)(r:aa)(env:bI)(l:Loc)(st:aE),Rep st L->Meth pw w (KW w) r env name u l st f
noncomputable def Gh(m:d6 (aa×aV)):d6 (aa×ag (aI×V)):=m.bind λp=>match p.2 with|.attrs es=>af (p.1,es)|_=>ah
def MH(h:Gh m=af p):m=af (p.1,.attrs p.2):=by refine aq (zZ.mp h) λqx bQ h=>?_;obtain⟨d,o⟩:=qx;subst bQ;induction o<;>cases h;rfl
def Gi(m:d6 (aa×aV))(name:aI):d6 (aa×V):=(Gh m).bind λp=>(p.2.lookup name).map λv=>(p.1,v)
def noAttr(m:d6 (aa×aV))(name:aI):d6 aa:=(Gh m).bind λp=>if(p.2.lookup name).isNone then af p.1 else ah
def Zy(h:Gi m name=af (d,v)):∃es,m=af (d,.attrs es)/\es.lookup name=af v:=by refine aq (zZ.mp h) λp h1 h=>?_;refine aq (lR.mp h) λx e h=>?_;obtain⟨rfl,rfl⟩:=RV h;exact(aA p.2 (MH h1) e)
def Zz(h:noAttr m name=af d):∃es,m=af (d,.attrs es)/\es.lookup name=ah:=by
 refine aq (zZ.mp h) λp h1 h=>?_;split at h;·next q=>injection h with zc;rw[←zc];exact(aA p.2 (MH h1) (afC.mp q))
 ·contradiction
section
variable{E:EF}{e:aT}{ls:ag aT}{r q:aa}{l:Lc}{u v t v1 v2 v3:V}{us vs:ag V}{Q Q' R:V->Cells->Prop}{N N':Lc->Cells->Prop}{L M G:Cells}{b c:bw}{B B':bw->Cells->Prop}{A A':ag V->Cells->Prop}{s n:aI}{f:aF}{a C d fa:aa}
def EV.mono(h:EV E e r Q l L)(k:∀v L,Q v L->Q' v L):EV E e r Q' l L:=λX w a st R=>(h X w a st R).mono λv ak z=>by obtain⟨L,p,q⟩:=z;exact⟨L,p,k v L q⟩
def EV.use(h:PE E e r l L v)(k:Q v L):EV E e r Q l L:=h.mono λu u z=>by induction z with|mk a b=>exact a▸b▸k
def CV.perm(p:L.Perm (M++G))(h:CV r f vs Q M):CV r f vs Q L:=λX w env l st R=>h X w env l st (R.perm p).left
inductive Drop(Q:V->Cells->Prop)(v:V)(L:Cells):Prop|mk(M G:Cells):L.Perm (M++G)->Q v M->Drop Q v L
def EV.drop(h:EV E e r (Drop Q) l L):EV E e r Q l L:=λX w a st R=>(h X w a st R).mono λv ak z=>by obtain⟨L,p,M,G,q,z⟩:=z;exact⟨M,(p.perm q).left,z⟩
def Drop.mid(h:Q v (p::M)):Drop Q v (p::(G++M)):=⟨p::M,G,.cons _ b6,h⟩
def PE.name(hl:aB (l.get (nm e)=af v) tR)(he:aB (e=.Name (nm e) e.pos) tR)(hk:aB (E.own (nm e)=ai) tT):PE E e r l L v:=λX w a st R=>by exact he▸(T4 hl ⟨L,R,rfl,rfl⟩ (EF.qF hk a).1 (EF.qF hk a).2)
def PE.attr(h:PE E (e1 e) r l L (.ref a))(i j:aa)(ok:∀P,ey (KK P) C (nm e))(x1:aB (L[i]?=af (a,.inst C d)) tR)(x2:aB (Gi L[j]? (nm e)=af (d,v)) tR)(he:aB (e=.Attribute (e1 e) (nm e) e.pos) tR)(hf:aB (∀env,bc e env=Gg (e1 e) (nm e) e.pos env) tE):PE E e r l L v:=by intro X w ar st R;refine aq (Zy x2) λes x2 x3=>?_;have z:=UE (prog:=pw) (w:=w) (K:=KW w) (r:=r) (env:=E.env ar) (loc:=l.get) (st:=st) (o:=e1 e) (name:=nm e) (pos:=e.pos) (Q:=gU (Is v L)) ((h X w ar st R).mono λu ak z=>by clear h R;obtain⟨M,R1,rfl,rfl⟩:=z;exact UD (R1.at i x1) (R1.at j x2) x3 (ok _) ⟨_,R1,rfl,rfl⟩) (he▸hf _);exact he▸z
def PE.self(i j:aa)(ok:∀P,ey (KK P) C (nm e))(hl:aB (l.get (nm (e1 e))=af (.ref a)) tR)(x1:aB (L[i]?=af (a,.inst C d)) tR)(x2:aB (Gi L[j]? (nm e)=af (d,v)) tR)(he:aB (e=.Attribute (.Name (nm (e1 e)) (e1 e).pos) (nm e) e.pos) tR)(hf:aB (∀env,bc e env=Gg (e1 e) (nm e) e.pos env) tE)(hk:aB (E.own (nm (e1 e))=ai) tT):PE E e r l L v:=PE.attr (PE.name hl (aO e1 he) hk) i j ok x1 x2 (he.trans (aO (λx=>aT.Attribute x (nm e) e.pos) (aO e1 he).symm)) hf
def AV.nil(h:A [] L)(hl:aB (ls=[]) tR):AV E ls r A l L:=λX w a st R=>by exact hl▸(JZ ⟨_,R,h⟩)
abbrev ZA(A:ag V->Cells->Prop)(v:V):ag V->Cells->Prop:=λvs=>A (v::vs)
abbrev ZC(E:EF)(ls:ag aT)(r:aa)(A:ag V->Cells->Prop)(l:Lc):V->Cells->Prop:=λv M=>AV E ls r (ZA A v) l M
abbrev Gj(r:aa)(f:aF)(Q:V->Cells->Prop):ag V->Cells->Prop:=λvs L=>CV r f vs Q L
abbrev ZD(r:aa)(f:aF)(u:V)(Q:V->Cells->Prop):ag V->Cells->Prop:=λvs L=>CV r f (u::vs) Q L
def AV.cons(h:EV E (fE ls) r (ZC E ls.tail r A l) l L)(hl:aB (ls=fE ls::ls.tail) tR):AV E ls r A l L:=by rw[hl];intro X w a st R;refine A1 ((h X w a st R).mono λv ak z=>?_);obtain⟨L,R,z⟩:=z;exactλA' P s a' g F=>cC (z X w a ak R A' P s a' g F) (λxs s' z=>by obtain⟨vs,bP,x,y,L2,R2,z⟩:=z;exact⟨vs,bP,x,y,L2,R2,z⟩) λu u x=>x
def AV.p0(h:A [] L)(hl:aB (ls=[]) tR):AV E ls r A l L:=AV.nil h hl
def AV.p1(h1:PE E (fE ls) r l L v1)(h:A [v1] L)(hl:aB (ls=[fE ls]) tR):AV E ls r A l L:=AV.cons (EV.use h1 (AV.nil h (aO xM hl))) (hl.trans (aO (fE ls::·) (aO xM hl).symm))
def AV.p2(h1:PE E (fE ls) r l L v1)(h2:PE E (fE ls.tail) r l L v2)(h:A [v1,v2] L)(hl:aB (ls=[fE ls,fE ls.tail]) tR):AV E ls r A l L:=AV.cons (EV.use h1 (AV.p1 h2 h (aO xM hl))) (hl.trans (aO (fE ls::·) (aO xM hl).symm))
def AV.p3(h1:PE E (fE ls) r l L v1)(h2:PE E (fE ls.tail) r l L v2)(h3:PE E (fE ls.tail.tail) r l L v3)(h:A [v1,v2,v3] L)(hl:aB (ls=[fE ls,fE ls.tail,fE ls.tail.tail]) tR):AV E ls r A l L:=AV.cons (EV.use h1 (AV.p2 h2 h3 h (aO xM hl))) (hl.trans (aO (fE ls::·) (aO xM hl).symm))
def EV.m(h:PE E (e1 (e1 e)) r l L u)(hm:Mt (nm (e1 e)) u f L)(k:AV E (es e) r (ZD r f u Q) l L)(hf:aB (∀env,bc e env=Zx (e1 (e1 e)) (nm (e1 e)) (e1 e).pos e.pos (es e) env) tE):EV E e r Q l L:=by intro X w a st R A P t ao g F;rw[hf];refine wb ((h X w a st R).use ao g F λx s1 u aQ ru F1 z o=>wb (lV (wb (dU (cC (Q:=λfx s2=>aY (aU pw w) A (tc e.pos fx.1 fx.2 (jQ (es e) (E.env a)) []) _ (λo o=>dv) s2) ?_ (λfx s2 h2=>h2) λo o x=>x)))));clear h hf R F;obtain⟨L,R1,rfl,rfl⟩:=z;obtain⟨hk,hm⟩:=hm X w r (E.env a) l.get aQ R1;refine hm A P s1 x _ _ ao g F1 ru ?_;exact x6 ao g F1 (fv:=[u]) (.cons ru .nil) hk (k X w a aQ R1) (λxs s' vs ak rx rf F' z=>by refine ba rf λo o e Gk o=>?_;injection e with zc;subst zc;obtain⟨L2,R2,z⟩:=z;exact z X w (E.env a) l.get ak R2 A P s' (x::xs) ao g F' (.cons Gk rx)) BZ B2
def EV.call{X:Hid}{st:aE}{Rp:Rep st L}{A:cQ}{t:aK}(ao:dY A r)(g:Gd (KW w) P.h)(F:aH w P t (E.env ar) l.get st)(hk:kS (aU pw w) (KW w) f)(h:AV E ls r (Gj r f Q) l L):aY (aU pw w) A (tc pos f [] (jQ ls (E.env ar)) []) (tC w P (E.env ar) l.get (gU Q)) (λu u=>dv) t:=x6 ao g F (fv:=[]) (first:=[]) .nil hk (h X w ar st Rp) (λxs s' vs ak rx u F' z=>by obtain⟨L,R,z⟩:=z;exact z X w (E.env ar) l.get ak R A P s' xs ao g F' rx) BZ B2
def EV.fn(h:AV E (es e) r (Gj r (.ref fa) Q) l L)(hn:aB (∀P,hH (KK P) fw (nm (e1 e))=af (af (.ref fa))) tE)(hk:aB (∀P,lX (KK P) (.ref fa)=ai) tK)(hx:aB (E.glob (nm (e1 e))=ai) tT)(he:aB (e1 e=.Name (nm (e1 e)) (e1 e).pos) tR)(hf:aB (∀env,bc e env=wK (e1 e) e.pos (es e) env) tE):EV E e r Q l L:=by intro X w a st R A P t ao g F;rw[hf];rw[he];exact wb (J4 (hn _) (EF.oh hx a).1 (EF.oh hx a).2 A P t _ g F (EV.call (Rp:=R) ao g F (.ref (hk _)) h))
def EV.bi(f:aF)(hk:∀w,kS (aU pw w) (KW w) f)(h:AV E (es e) r (Gj r f Q) l L)(hb:aB (vM (nm (e1 e))=af f) tR)(hn:aB (∀P,hH (KK P) fw (nm (e1 e))=af ah) tE)(hx:aB ((E.glob (nm (e1 e))&&nm (e1 e)!="__name__")=ai) tT)(he:aB (e1 e=.Name (nm (e1 e)) (e1 e).pos) tR)(hf:aB (∀env,bc e env=wK (e1 e) e.pos (es e) env) tE):EV E e r Q l L:=by intro X w a st R A P t ao g F;obtain⟨hx,hy⟩:=bM.mp hx;rw[hf];rw[he];exact wb (A4 (hn _) hb (bne_iff_ne.mp hy) (EF.oh hx a).1 (EF.oh hx a).2 A P t _ g F (EV.call (Rp:=R) ao g F (hk _) h))
def Mt.inst(i j:aa)(mo:∀P,dN (KK P) C s fa)(x1:aB (L[i]?=af (a,.inst C d)) tR)(x2:aB (noAttr L[j]? s=af d) tR):Mt s (.ref a) (.ref fa) L:=by intro X w r env l st R;refine aq (Zz x2) λes x2 x3=>?_;exact .inst (R.at i x1) (R.at j x2) x3 (mo _)
def Mt.list{id:nN}(i:aa)(slot:vP "list" s id)(nU:kH (.builtin id)=pure (.type "method_descriptor"))(x:aB (L[i]?=af (a,.list vs)) tR):Mt s (.ref a) (.builtin id) L:=λX w r env l st R=>.list (R.at i x) slot nU
def Mt.dict{id:nN}(i:aa)(slot:vP "dict" s id)(nU:kH (.builtin id)=pure (.type "method_descriptor"))(x:aB (L[i]?=af (a,.dict ds)) tR):Mt s (.ref a) (.builtin id) L:=λX w r env l st R=>.dict (R.at i x) slot nU
def CP.to(h:CP r f vs v L)(k:Q v L):CV r f vs Q L:=λX w env l st R=>(h X w env l st R).mono λu ak z=>by obtain⟨L',R',h1,h2⟩:=z;exact⟨_,h2▸R',h1▸k⟩
end
end
section
noncomputable def lH(op:AG)(a c:aa):d6 bw:=match op with|.Eq=>af (decide (a=c))|.NotEq=>af (decide (a≠c))|.Lt=>af (decide (a<c))|.LtE=>af (decide (a<=c))|.Gt=>af (decide (a>c))|_=>ah
def MI(B:bw->Cells->Prop)(v:V)(L:Cells):Prop:=∃b,v=.bool b/\B b L
def yD(i:aT):Prop:=∀o j,∃ops,So i aD o j=SJ ops (DX o j)
section
variable{E:EF}{e:aT}{ls:ag aT}{r q:aa}{l:Lc}{u v t v1 v2 v3:V}{us vs:ag V}{Q Q' R:V->Cells->Prop}{N N':Lc->Cells->Prop}{L M G:Cells}{b c:bw}{B B':bw->Cells->Prop}{A A':ag V->Cells->Prop}{n:aI}{f:aF}{a C d fa m k:aa}{op:AG}{bo:SH}{s:cG}{xs:ag cG}
def PE.nat(m:aa)(he:aB (e=.Constant (.int (m:aa)) (kk e) e.pos) tR):PE E e r l L (nv m):=λX w a st R=>by exact he▸(Ua ⟨_,R,rfl,rfl⟩)
def PE.str(he:aB (e=.Constant (.str (nm e)) (kk e) e.pos) tR):PE E e r l L (.str (nm e)):=λX w a st R=>by exact he▸(Ub (prog:=pw) (w:=w) (K:=KW w) (r:=r) (env:=E.env a) (loc:=l.get) (st:=st) (x:=nm e) (k:=kk e) (pos:=e.pos) (Q:=gU (Is (.str (nm e)) L)) ⟨_,R,rfl,rfl⟩)
def PE.bool(b:bw)(he:aB (e=.Constant (.bool b) (kk e) e.pos) tR):PE E e r l L (.bool b):=λX w a st R=>by exact he▸(Uc ⟨_,R,rfl,rfl⟩)
def PE.nul(he:aB (e=.Constant .none (kk e) e.pos) tR):PE E e r l L .none:=λX w a st R=>by exact he▸(Ud ⟨_,R,rfl,rfl⟩)
def AV.MJ(h:AV E ls r A l L)(hb:∀env,kI pos (kF ls env)=jQ ls env):∀(X:Hid)(w:aZ)(a:Ar)(st:aE),Rep st L->WL pw w (KW w) r (E.env a) (o7 (kI pos (kF ls (E.env a)))) l.get st (Ge A):=λX w a st R=>by rw[hb];exact h X w a st R
abbrev ZE(Q:V->Cells->Prop):ag V->Cells->Prop:=λvs M=>vs.length<=16777216/\Q (.tup vs) M
abbrev ZF(Q:V->Cells->Prop):ag V->Cells->Prop:=λvs M=>vs.length<=16777216/\∀a,Q (.ref a) ((a,.list vs)::M)
abbrev ZG(r:aa)(t:aF->aF->fU aF)(Q:V->Cells->Prop)(u:V):V->Cells->Prop:=λv M=>BV r t u v Q M
abbrev yE(E:EF)(y:aT)(r:aa)(t:aF->aF->fU aF)(Q:V->Cells->Prop)(l:Lc):V->Cells->Prop:=λu M=>EV E y r (ZG r t Q u) l M
abbrev ZH(N:Lc->Cells->Prop)(l:Lc):V->Cells->Prop:=λu M=>N l M
abbrev ZI(N:Lc->Cells->Prop)(l:Lc)(x:aI):V->Cells->Prop:=λv M=>N (l.put x v) M
abbrev Gl(E:EF)(s:cG)(r:aa)(R:V->Cells->Prop)(N:Lc->Cells->Prop)(l:Lc):bw->Cells->Prop:=λb M=>WS E (if b then b1 s else b2 s) r R N l M
def EV.tuple(h:AV E (es e) r (ZE Q) l L)(he:aB (e=.Tuple (es e) (kk e) e.pos) tR)(hb:aB (∀env,kI e.pos (kF (es e) env)=jQ (es e) env) tE):EV E e r Q l L:=λX w a st R=>by exact he▸(J0 λA P s ao g F=>cC (h.MJ hb X w a st R A P s ao g F) (λxs s' z=>by obtain⟨vs,bP,x,y,L2,R2,q,z⟩:=z;exact⟨vs,bP,x,y,le_size q,L2,R2,z⟩) λu u x=>x)
def EV.list(h:AV E (es e) r (ZF Q) l L)(he:aB (e=.List (es e) e.pos) tR)(hb:aB (∀env,kI e.pos (kF (es e) env)=jQ (es e) env) tE):EV E e r Q l L:=λX w a st R=>by exact he▸(J1 λA P s ao g F=>cC (h.MJ hb X w a st R A P s ao g F) (λxs s' z=>by obtain⟨vs,bP,x,y,L2,R2,q,z⟩:=z;exact⟨vs,bP,x,y,le_size q,λa ha=>⟨_,R2.new _ ha,z a⟩⟩) λu u x=>x)
def dI.mono{w:aZ}{env:bI}{l:Loc}{st:aE} [dq:Hid]{t:aF->aF->fU aF}{Q Q':V->aE->Prop}(h:dI pw w (KW w) r env t u v l st Q)(k:∀v ak,Q v ak->Q' v ak):dI pw w (KW w) r env t u v l st Q':=λA P s x y a g F z1 z2=>cC (h A P s x y a g F z1 z2) (λo o zf=>by obtain⟨v,ak,x,y,z⟩:=zf;exact⟨v,ak,x,y,k v ak z⟩) λo o x=>x
def WT.mono [dq:Hid]{w:aZ}{env:bI}{l:Loc}{st:aE}{t:fU bw}{Q Q':bw->aE->Prop}(h:WT pw w (KW w) r env t l st Q)(k:∀v ak,Q v ak->Q' v ak):WT pw w (KW w) r env t l st Q':=λA P s a g F=>cC (h A P s a g F) (λu u zf=>by obtain⟨ak,x,z⟩:=zf;exact⟨ak,x,k _ _ z⟩) λu u x=>x
def EV.two [X:Hid]{st:aE}{t:aF->aF->fU aF}(h:EV E x r (yE E y r t Q l) l L)(R:Rep st L):WE pw w (KW w) r (E.env ar) (bc x (E.env ar)) l.get st λu aQ=>WE pw w (KW w) r (E.env ar) (bc y (E.env ar)) l.get aQ λv bP=>dI pw w (KW w) r (E.env ar) t u v l.get bP (gU Q):=(h X w ar st R).mono λu aQ z=>by obtain⟨L,R,z⟩:=z;exact(z X w ar aQ R).mono λv bP z=>by obtain⟨L,R,z⟩:=z;exact z X w (E.env ar) l.get bP R
def EV.bin(bo:SH)(h:EV E (e1 e) r (yE E (e2 e) r (mS bo) Q l) l L)(he:aB (e=.BinOp (e1 e) bo (e2 e) e.pos) tR):EV E e r Q l L:=λX w a st R=>by exact he▸(Ug (EV.two h R))
def EV.cmp(op:AG)(h:EV E (e1 e) r (yE E (e2 e) r (fJ op) Q l) l L)(he:aB (e=.Compare (e1 e) [op] [e2 e] e.pos) tR)(hm:aB (i7 op (e2 e)=aD) tF):EV E e r Q l L:=λX w a st R=>by exact he▸(Uh (EV.two h R) hm)
def TV.cmp(op:AG)(h:EV E (e1 e) r (yE E (e2 e) r (fJ op) (MI B) l) l L)(he:aB (e=.Compare (e1 e) [op] [e2 e] e.pos) tR)(hm:aB (i7 op (e2 e)=aD) tF):TV E e r B l L:=λX w a st R=>by exact he▸(Ul ((EV.two h R).mono λu aQ z=>z.mono λv bP z=>dI.mono z λv ma z=>by obtain⟨L,R,b,e,z⟩:=z;exact⟨b,e,L,R,z⟩) hm)
def TV.plain(h:EV E e r (MI B) l L)(he:aB (∀env,fe e env (bc e env)=(do let v←bc e env;mU e.pos;o9 [v] (truthy v))) tE):TV E e r B l L:=λX w a st R=>Uk ((h X w a st R).mono λu ak z=>by obtain⟨L,R,b,e,z⟩:=z;exact⟨b,e,L,R,z⟩) (he _)
def TV.mono(h:TV E e r B l L)(k:∀b L,B b L->B' b L):TV E e r B' l L:=λX w a st R=>(h X w a st R).mono λv ak z=>by obtain⟨L,R,z⟩:=z;exact⟨L,R,k _ _ z⟩
def TV.use(h:PT E e r l L b)(k:B b L):TV E e r B l L:=h.mono λu u z=>by induction z with|mk a b=>exact a▸b▸k
def PT.not(h:PT E (e1 e) r l L b)(he:aB (e=.UnaryOp .Not (e1 e) e.pos) tR):PT E e r l L (!b):=λX w a st R=>by exact he▸(Uj ((h X w a st R).mono λv ak z=>by obtain⟨L,R,h1,h2⟩:=z;exact⟨L,R,aO Bool.not h1,h2⟩))
def BV.to(h:BV r t' u v (Is t L) L)(k:Q t L):BV r t' u v Q L:=λX w env l st R=>dI.mono (h X w env l st R) λu ak z=>by obtain⟨L',R',h1,h2⟩:=z;exact⟨_,h2▸R',h1▸k⟩
def BV.lH(h:lH op a d=af b):BV r (fJ op) (nv a) (nv d) (Is (.bool b) L) L:=λX w env l st R=>by
 induction op<;>cases h;·exact JX ⟨_,R,aO V.bool (decide_eq_decide.mpr (ag5 (m:=a) (n:=d))),rfl⟩
 ·exact Uu ⟨_,R,aO V.bool (decide_eq_decide.mpr (not_congr (ag5 (m:=a) (n:=d)))),rfl⟩
 ·exact JV ⟨_,R,aO V.bool (decide_eq_decide.mpr (IU (n:=a) (m:=d))),rfl⟩
 ·exact JW ⟨_,R,aO V.bool (decide_eq_decide.mpr (R8 (m:=a) (n:=d))),rfl⟩
 ·exact Us ⟨_,R,aO V.bool (decide_eq_decide.mpr (IU (n:=d) (m:=a))),rfl⟩
def PE.yF(bo:SH)(h1:PE E (e1 e) r l L u)(h2:PE E (e2 e) r l L v)(k:BV r (mS bo) u v (Is t L) L)(he:aB (e=.BinOp (e1 e) bo (e2 e) e.pos) tR):PE E e r l L t:=EV.bin bo (EV.use h1 (EV.use h2 k)) he
def PE.add(h1:PE E (e1 e) r l L (nv a))(h2:PE E (e2 e) r l L (nv d))(he:aB (e=.BinOp (e1 e) .Add (e2 e) e.pos) tR):PE E e r l L (nv (a+d)):=PE.yF .Add h1 h2 (λX w env l st R=>JU ⟨_,R,rfl,rfl⟩) he
def PE.sub(h1:PE E (e1 e) r l L (nv a))(h2:PE E (e2 e) r l L (nv d))(q:a=d+k)(he:aB (e=.BinOp (e1 e) .Sub (e2 e) e.pos) tR):PE E e r l L (nv k):=PE.yF .Sub h1 h2 (λX w env l st R=>Uo ⟨_,R,aO V.int (by lia),rfl⟩) he
def PE.yG(h1:PE E (e1 e) r l L (.tup us))(h2:PE E (e2 e) r l L (.tup vs))(hz:us.length+vs.length<=16777216)(he:aB (e=.BinOp (e1 e) .Add (e2 e) e.pos) tR):PE E e r l L (.tup (us++vs)):=PE.yF .Add h1 h2 (λX w env l st R=>Ey hz ⟨_,R,rfl,rfl⟩) he
def PT.cmp(op:AG)(h1:PE E (e1 e) r l L (nv a))(h2:PE E (e2 e) r l L (nv d))(h:aB (lH op a d=af b) tR)(he:aB (e=.Compare (e1 e) [op] [e2 e] e.pos) tR)(hm:aB (i7 op (e2 e)=aD) tF):PT E e r l L b:=TV.cmp op (EV.use h1 (EV.use h2 (BV.to (BV.lH h) ⟨_,rfl,rfl,rfl⟩))) he hm
def EV.sub(h:EV E (e1 e) r (yE E (e2 e) r (IZ (e1 e) (e2 e)) Q l) l L)(he:aB (e=.Subscript (e1 e) (e2 e) e.pos) tR):EV E e r Q l L:=λX w a st R=>by exact he▸(U4 (EV.two h R))
def PE.item(i:aa)(h1:PE E (e1 e) r l L (.ref a))(h2:PE E (e2 e) r l L (nv k))(hk:us[k]?=af v)(hz:us.length<=16777216)(x:aB (L[i]?=af (a,.list us)) tR)(he:aB (e=.Subscript (e1 e) (e2 e) e.pos) tR)(hs:yD (e2 e):=by exactλu u=>⟨_,rfl⟩):PE E e r l L v:=EV.sub (EV.use h1 (EV.use h2 λX w env l st R=>U5 (R.at i x) (Io k) hk hz ⟨_,R,rfl,rfl⟩ hs)) he
def PE.oj(h1:PE E (e1 e) r l L (.tup us))(h2:PE E (e2 e) r l L (nv k))(hk:us[k]?=af v)(hz:us.length<=16777216)(he:aB (e=.Subscript (e1 e) (e2 e) e.pos) tR)(hs:yD (e2 e):=by exactλu u=>⟨_,rfl⟩):PE E e r l L v:=EV.sub (EV.use h1 (EV.use h2 λX w env l st R=>U6 (Io k) hk hz ⟨_,R,rfl,rfl⟩ hs)) he
def PE.tail(h1:PE E (e1 e) r l L (.tup (u::us)))(hz:us.length<16777216)(he:∃k p1 p,e=.Subscript (e1 e) (.Slice (af (.Constant (.int 1) k p1)) .none .none p) e.pos:=by exact⟨_,_,_,rfl⟩):PE E e r l L (.tup us):=λX w a st R=>by refine xS he λk p1 p he=>?_;exact he▸(U7 ((h1 X w a st R).mono λu ak z=>by obtain⟨L,R,h1,h2⟩:=z;exact⟨_,h1,ie 1 _,hz,L,R,rfl,h2⟩))
def WS.nil(h:N l L)(hx:aB (xs=[]) tR):WS E xs r R N l L:=λX w a st p=>by exact hx▸(JP ⟨l,L,.refl,p,h⟩)
def WS.fin{m:Lc}(h:N m L)(hm:m.In l)(hx:aB (xs=[]) tR):WS E xs r R N l L:=λX w a st p=>by exact hx▸(JP ⟨m,L,hm.le,p,h⟩)
def WS.cons(h:W1 E (dG xs) r R (WS E xs.tail r R N) l L)(hx:aB (xs=dG xs::xs.tail) tR):WS E xs r R N l L:=by exact hx▸(λX w a st p=>JQ ((h X w a st p).mono (λl ak z=>by obtain⟨m,L,q,p,z⟩:=z;exactλA P s ao g F=>z X w a ak p A P s ao g (F.less q)) λu u z=>z))
def WS.keep(p:L.Perm (M++G))(h:WS E xs r R N l M):WS E xs r R N l L:=λX w a st q=>h X w a st (q.perm p).left
def WS.perm(p:L.Perm M)(h:WS E xs r R N l M):WS E xs r R N l L:=λX w a st q=>h X w a st (q.perm p)
def W1.ret(h:EV E (sv s) r R l L)(hs:aB (s=.Return (af (sv s)) (sp s)) tR):W1 E s r R N l L:=λX w a st p=>by exact hs▸(T5 (h X w a st p))
def WS.ret(h:EV E (sv (dG xs)) r R l L)(hs:aB (dG xs=.Return (af (sv (dG xs))) (sp (dG xs))) tR)(hx:aB (xs=dG xs::xs.tail) tR):WS E xs r R N l L:=WS.cons (W1.ret h hs) hx
def B3(E:EF)(s:cG)(t:d6 aT):Prop:=∀a,qd (sv s) t (sp s).line (E.env a)=pure aD
def W1.expr(h:EV E (sv s) r (ZH N l) l L)(hs:aB (s=.Expr (sv s) (sp s)) tR)(hw:aB (B3 E s ah) tE)(hi:aB (∀a,interactive (E.env a)=aD) tE):W1 E s r R N l L:=λX w a st p=>by exact hs▸(T6 ((h X w a st p).mono λv ak z=>by obtain⟨L,p,q⟩:=z;exact⟨l,_,.refl,p,q⟩) (hi a) (hw a))
def W1.set(h:EV E (sv s) r (ZI N l (nm (tg s))) l L)(hs:aB (s=.Assign [.Name (nm (tg s)) (tg s).pos] (sv s) (sp s)) tR)(hk:aB (E.own (nm (tg s))=ai) tT)(hw:aB (B3 E s (af (.Name (nm (tg s)) (tg s).pos))) tE):W1 E s r R N l L:=λX w a st p=>by exact hs▸(T7 ((h X w a st p).mono λv ak z=>by obtain⟨L,p,q⟩:=z;exact⟨_,L,Lc.yC _▸.refl,p,q⟩) (EF.qF hk a).1 (hw a))
def W1.qG(h:TV E (sv s) r (Gl E s r R N l) l L)(hs:aB (s=.If (sv s) (b1 s) (b2 s) (sp s)) tR):W1 E s r R N l L:=λX w a st p=>by exact hs▸(T8 ((h X w a st p).mono λb ak z=>by obtain⟨L,p,z⟩:=z;induction b<;>exact(z X w a ak p)))
def W1.jy(h:PT E (sv s) r l L b)(hb:b=ai)(k:WS E (b1 s) r R N l L)(hs:aB (s=.If (sv s) (b1 s) (b2 s) (sp s)) tR):W1 E s r R N l L:=by subst hb;exact W1.qG (TV.use (B:=Gl E s r R N l) h k) hs
def W1.fF(h:PT E (sv s) r l L b)(hb:b=aD)(k:WS E (b2 s) r R N l L)(hs:aB (s=.If (sv s) (b1 s) (b2 s) (sp s)) tR):W1 E s r R N l L:=by subst hb;exact W1.qG (TV.use (B:=Gl E s r R N l) h k) hs
def WF.Gm [dq:Hid]{w:aZ}{env:bI}{l:Loc}{st:aE}{t:fU Flow}{N N':Loc->aE->Prop}{R:V->aE->Prop}(h:WF pw w (KW w) r env t l st N R)(k:∀l ak,N l ak->∃l',Loc.le l' l/\N' l' ak):WF pw w (KW w) r env t l st N' R:=λA P s a g F=>cC (h A P s a g F) (λf s' z=>by induction f with|next=>obtain⟨l,ak,x,y⟩:=z;refine aq (k _ _ y) λl' le y=>?_;exact⟨l',ak,x.less le,y⟩|_=>exact z) λu u x=>x
def W1.loop{β:Type}(S:β->Lc)(T:β->Cells)(μ:β->aa)(ok:β->Prop)(b0:β)(h0:ok b0)(jI:∀b,ok b->TV E (sv s) r (λc M=>if c then WS E (b1 s) r R (λl' L'=>∃b',l'=S b'/\L'=T b'/\ok b'/\μ b'<μ b) (S b) M else N (S b) M) (S b) (T b))(h1:(S b0).In l)(h2:aB (L=T b0) tR)(hs:aB (s=.While (sv s) (b1 s) [] (sp s)) tR):W1 E s r R N l L:=λX w a st p=>by rw[hs];intro A P s' ao g F;refine WY (λn l st=>∃b,n=μ b/\l=(S b).get/\Rep st (T b)/\ok b) (μ b0) (rH b0 rfl rfl (h2▸p) h0) (λn l st z=>?_) A P s' ao g (F.less h1.le);refine rG z λb bQ aC p hb=>?_;rw[bQ];rw[aC];refine WT.mono (jI b hb X w a st p) λc aQ z=>?_;obtain⟨L1,p1,z⟩:=z;induction c with|false=>exact⟨_,L1,.refl,p1,z⟩|true=>exact WF.Gm (z X w a aQ p1) λl2 bP z=>by obtain⟨m,L2,q,p2,b',rfl,rfl,lI,hm⟩:=z;exact(aA _ q (aA _ hm (rH b' rfl rfl p2 lI)))
end
end
section
def fdOf(o:cY):FuncData:=match o.data with|.func fd=>fd|_=>{name:="",qualname:="",params:=⟨[],[],ah,[],[],ah,[]⟩,body:=.stmts [],scope:=zS,globals:=0,closure:=[],defaults:=.none,kwdefaults:=.none}
def wL(s:cG)(ns:ag aI):bw:=(ns.all λn=>(nu s).names.lookup n==af .local||(nu s).names.lookup n==af .cell)&&(decide ns.Nodup&&(decide ((nu s).names.map (·.1)).Nodup&&(!(nu s).isCoroutine&&(!(nu s).isGenerator&&(nu s).kind==.function))))
def PF(f:aa)(P:bh):FuncData:=fdOf (((KK P).lookup f).getD (oT []))
structure FnAt(f:aa)(s:cG)(ns:ag aI):Prop where
 ob:∀P,(KK P).lookup f=af ⟨.type "function",ah,.func (PF f P),#[]⟩
 fd:∀P,(PF f P).body=.stmts (b1 s)/\(PF f P).scope=nu s/\(PF f P).closure=[]/\(PF f P).globals=fw/\(PF f P).builtins=AB
 cd:∀P,codeIn (KK P) (PF f P).code (PF f P).qualname=ai
 bd:∀P(xs:ag aF),xs.length=ns.length->kG (PF f P) ⟨xs,[]⟩=pure (ns.zip xs)
 ok:wL s ns=ai
section
variable{E:EF}{e:aT}{r q f:aa}{l:Lc}{u v:V}{us vs:ag V}{Q Q' R:V->Cells->Prop}{L M N:Cells}{s:cG}{ns:ag aI}
def Sp.intro(F:FnAt f s ns)(h:WS (.fn s f) (b1 s) r Q (λu M=>Q .none M) (Lc.of ns vs) L)(hl:aB (vs.length=ns.length) tR):Sp (r+1) f vs Q L:=by refine bx (bM.mp F.ok) λk1 hk=>?_;obtain⟨k2,hk⟩:=bM.mp hk;obtain⟨k3,hk⟩:=bM.mp hk;obtain⟨k4,hk⟩:=bM.mp hk;obtain⟨k5,k6⟩:=bM.mp hk;intro X w st Rp;refine kM (F.fd w.params) λh1 h2 h3 h4 h5=>?_;rw[←h2]at k1 k3 k4 k5 k6;refine J6 (F.ob w.params) h1 h3 h4 h5 (F.cd _) (F.bd _) hl (gD k2) k1 (gD k3) ((p7 _).mp k4) ((p7 _).mp k5) (eq_of_beq k6) λA cells q c=>?_;rw[h2,←Lc.of_get];exact(h X w ⟨A,cells,q,c,0⟩ st Rp).mono (λl ak z=>by obtain⟨m,L',_,R',z⟩:=z;exact⟨L',R',z⟩) λu u z=>z
def Sp.eE(F:FnAt f s ns)(h:∀R:V->Cells->Prop,(∀v M,Q v M->R v M)->WS (.fn s f) (b1 s) r R (λu M=>R .none M) (Lc.of ns vs) L)(hl:aB (vs.length=ns.length) tR):Sp (r+1) f vs Q L:=Sp.intro F (h Q λu u z=>z) hl
def Sp.mono(h:Sp r f vs Q L)(k:∀v L,Q v L->Q' v L):Sp r f vs Q' L:=λX w st R=>(h X w st R).mono λv ak z=>by obtain⟨L,p,q⟩:=z;exact⟨L,p,k v L q⟩
def CV.call(h:Sp q f vs Q' L)(p:N.Perm (L++M))(k:∀v L',Q' v L'->Q v (L'++M))(hq:aB (g9 q r=ai) tT):CV r (.ref f) vs Q N:=λX w env l st R=>MG (r:=r) (L:=L) (M:=M) (Q:=Q') (λst R=>(h X w st R).le (aL hq)) R p λv L' ak z R'=>⟨_,R',k v L' z⟩
def CP.call(h:i9 q f vs v L)(p:N.Perm (L++M))(hq:aB (g9 q r=ai) tT):CP r (.ref f) vs v N:=λX w env l st R=>by refine MG (r:=r) (L:=L) (M:=M) (Q:=Is v L) (λst R=>(h X w st R).le (aL hq)) R p λv' L' ak z R'=>?_;induction z with|mk a b=>exact⟨_,(b▸R').perm p.symm,a,rfl⟩
def CV.at(h:Sp q f vs Q L)(hq:aB (g9 q r=ai) tT):CV r (.ref f) vs Q L:=CV.call (M:=[]) h (by rw[bN]) (λv L' z=>by rw[bN];exact z) hq
def bind1(h:∀x1,kG fd ⟨[x1],[]⟩=pure [(n1,x1)])(xs:ag aF)(e:xs.length=1):kG fd ⟨xs,[]⟩=pure ([n1].zip xs):=by refine dh (z8.mp e) λx bQ=>?_;rw[bQ];exact h x
def ZJ(h:∀x1 x2,kG fd ⟨[x1,x2],[]⟩=pure [(n1,x1),(n2,x2)])(xs:ag aF)(e:xs.length=2):kG fd ⟨xs,[]⟩=pure ([n1,n2].zip xs):=by induction xs using b7 with|nil=>contradiction|cons x xs=>obtain⟨y,rfl⟩:=z8.mp (iC e);exact h x y
def ZK(h:∀x1 x2 x3,kG fd ⟨[x1,x2,x3],[]⟩=pure [(n1,x1),(n2,x2),(n3,x3)])(xs:ag aF)(e:xs.length=3):kG fd ⟨xs,[]⟩=pure ([n1,n2,n3].zip xs):=by induction xs using b7 with|nil=>contradiction|cons x xs=>induction xs using b7 with|nil=>cases e|cons y xs=>obtain⟨z,rfl⟩:=z8.mp (iC (iC e));exact h x y z
def ZL(h:∀x1 x2 x3 x4,kG fd ⟨[x1,x2,x3,x4],[]⟩=pure [(n1,x1),(n2,x2),(n3,x3),(n4,x4)])(xs:ag aF)(e:xs.length=4):kG fd ⟨xs,[]⟩=pure ([n1,n2,n3,n4].zip xs):=by induction xs using b7 with|nil=>contradiction|cons x xs=>induction xs using b7 with|nil=>cases e|cons y xs=>induction xs using b7 with|nil=>cases e|cons u xs=>obtain⟨z,rfl⟩:=z8.mp (iC (iC (iC e)));exact h x y u z
end
section
variable{r a m:aa}{us vs:ag V}{v:V}{L:Cells}{Q:V->Cells->Prop}
def CP.len(i:aa)(hn:us.length=m)(hz:m<=16777216)(x:aB (L[i]?=af (a,.list us)) tR):CP r (.builtin "len") [.ref a] (nv m) L:=λX w env l st R=>UX (R.at i x) (hn▸hz) ⟨_,R,aO nv hn,rfl⟩
def CV.append(i:aa)(k:Q .none (L.set i (a,.list (us++[v]))))(hz:us.length<16777216)(x:aB (L[i]?=af (a,.list us)) tR):CV r (.builtin "list.append") [.ref a,v] Q L:=λX w env l st R=>J9 (R.at i x) hz ⟨_,R.put i x,k⟩
def lJ:kH (.builtin "list.append")=pure (.type "method_descriptor"):=by rfl
def B4:kH (.builtin "list.extend")=pure (.type "method_descriptor"):=by rfl
def kb{id:nN}(w:aZ):kS (aU pw w) (KW w) (.builtin id):=λh u=>⟨.machine,.inr (.inl rfl),As rfl⟩
def kt{id:nN}(w:aZ):kS (aU pw w) (KW w) (.type id):=λh u=>⟨.machine,.inr (.inl rfl),As rfl⟩
end
end
section
inductive jR(L:Cells):V->ag V->(Cells->Prop)->Prop|list{a:aa}{vs:ag V}:(a,aV.list vs)∈L->vs.length<=16777216->jR L (.ref a) vs (λL'=>(a,aV.list vs)∈L')|tup{vs:ag V}:jR L (.tup vs) vs (λu=>iD)|range{a lo hi:aa}:(a,aV.range lo hi)∈L->lo<1000000000->hi<1000000000->jR L (.ref a) (t9 lo hi) (λu=>iD)|str{x:aI}:x.cps.all (·<128)=ai->jR L (.str x) (EL x) (λu=>iD)
def jR.iter{st:aE}(h:jR L u vs G)(R:Rep st L):∃D,ua st u vs D/\∀L' ak,Rep ak L'->G L'->D ak:=by induction h with|list h z=>exact(aA _ (.list (R.has _ h) z) (λL' ak R' q=>R'.has _ q))|tup=>exact(aA _ .tup (λo o o o=>cZ))|range h z1 z2=>exact(aA _ (.range (R.has _ h) (Io _) (by lia) (by lia) (Io _)) (λo o o o=>cZ))|str h=>exact(aA _ (.str h) (λo o o o=>cZ))
inductive FT(E:EF)(t:aT):V->Lc->Lc->Prop|name(v:V)(l:Lc):t=.Name (nm t) t.pos->E.own (nm t)=ai->FT E t v l (l.put (nm t) v)|tup(vs:ag V)(l:Lc)(ns:ag aI):t=.Tuple (es t) (kk t) t.pos->(∀a,namesOf (E.env a) (es t)=af ns)->(es t).length=vs.length->FT E t (.tup vs) l (l.mA ns vs)
inductive MK(v:V)(L:Cells)(us:ag V)(L':Cells):Prop|mk:us=[v]->L'=L->MK v L us L'
inductive yH(E:EF)(s:cG)(r:aa)(R:V->Cells->Prop)(N:Lc->Cells->Prop)(l:Lc)(L1:Cells)(vs:ag V)(G:Cells->Prop):Prop|mk{β:Type}(S:β->Lc)(T:β->Cells)(ok:ag V->β->Prop)(b0:β):ok vs b0->(S b0).In l->T b0=L1->(∀v rest b,ok (v::rest) b->G (T b)/\∃l',FT E (tg s) v (S b) l'/\WS E (b1 s) r R (λl2 L2=>∃b',l2=S b'/\L2=T b'/\ok rest b') l' (T b))->(∀b,ok [] b->G (T b)/\N (S b) (T b))->yH E s r R N l L1 vs G
inductive B5(E:EF)(s:cG)(r:aa)(R:V->Cells->Prop)(N:Lc->Cells->Prop)(l:Lc)(u:V)(L1:Cells):Prop|mk{vs:ag V}{G:Cells->Prop}:jR L1 u vs G->yH E s r R N l L1 vs G->B5 E s r R N l u L1
section
variable{E:EF}{e:aT}{r q:aa}{l:Lc}{u v:V}{us vs:ag V}{Q Q' R:V->Cells->Prop}{N N':Lc->Cells->Prop}{L M:Cells}{s:cG}{x:aT}{sd:cG}{fa:aa}
def FT.go [dq:Hid]{w:aZ}{a:Ar}{t:aT}{l l':Lc}{st:aE}{N:Loc->aE->Prop}(h:FT E t v l l')(k:N l'.get st):WA pw w (KW w) r (E.env a) t v l.get st N:=by induction h with|name v l h hk=>exact h▸(Ku (Lc.yC l▸k) (EF.qF hk a).1)|tup vs l ns h hn hl=>exact h▸(Be hl (Lc.uA (l:=l) ns vs l▸k) (hn a))
def yH.go [dq:Hid]{w:aZ}{a:Ar}{aQ:aE}{G:Cells->Prop}{D:aE->Prop}(h:yH E s r R N l L vs G)(R1:Rep aQ L)(keep:∀L' ak,Rep ak L'->G L'->D ak):∃bJ:ag V->Loc->aE->Prop,bJ vs l.get aQ/\(∀v rest cu ak,bJ (v::rest) cu ak->D ak/\WA pw w (KW w) r (E.env a) (tg s) v cu ak λt8 bP=>WF pw w (KW w) r (E.env a) (mV (b1 s) (E.env a)) t8 bP (bJ rest) (gU R))/\∀cu ak,bJ [] cu ak->D ak/\mB N cu ak:=by
 obtain⟨S,T,ok,b0,h0,me,hL,jI,fin⟩:=h;refine(bH (λrest l ak=>∃b,Loc.le (S b).get l/\Rep ak (T b)/\ok rest b) (bH b0 me.le (hL▸R1) h0) (λv rest l ak z=>?_) (λl ak z=>?_));·refine bL z λb le Rb hb=>?_;refine bx (jI v rest b hb) λg bg=>aq bg λl' ft body=>?_;refine⟨keep _ _ Rb g,λA P t y ao gd F rv=>FT.go ft (N:=λl2 bP=>WF pw w (KW w) r (E.env a) (mV (b1 s) (E.env a)) l2 bP _ _) ?_ A P t y ao gd (F.less le) rv⟩;exact WF.Gm (body _ w a ak Rb) λl2 bP z=>by obtain⟨m,L2,q,p2,b',rfl,rfl,lI⟩:=z;exact(aA _ q (bH b' .refl p2 lI))
 ·refine bL z λb le Rb hb=>?_;refine bx (fin b hb) λg n=>?_;exact⟨keep _ _ Rb g,S b,_,le,Rb,n⟩
def W1.for(h:EV E (sv s) r (B5 E s r R N l) l L)(ot:lA (tg s))(hs:aB (s=.For (tg s) (sv s) (b1 s) [] (sp s)) tR)(hf:aB (∀env x,ji (sv s) env x=pure x) tG):W1 E s r R N l L:=by intro X w a st Rp;rw[hs];refine Kx (ER ((h X w a st Rp).mono λu aQ z=>?_)) (hf _);obtain⟨L1,R1,it,lq⟩:=z;refine aq (it.iter R1) λD it keep=>?_;exact⟨_,D,it,ot,lq.go R1 keep⟩
def W1.enum(h:PE E (fE (es (sv s))) r l L (.tup us))(q:yH E s r R N l L (qu us) (λu=>iD))(hl:aB (es (sv s)=[fE (es (sv s))]) tR)(ot:aB (tg s=.Tuple (es (tg s)) (kk (tg s)) (tg s).pos) tR)(hn:aB (∀P,hH (KK P) fw (nm (e1 (sv s)))=af ah) tE)(hb:aB (vM (nm (e1 (sv s)))=af (.type "enumerate")) tR)(hx:aB ((E.glob (nm (e1 (sv s)))&&nm (e1 (sv s))!="__name__")=ai) tT)(he:aB (e1 (sv s)=.Name (nm (e1 (sv s))) (e1 (sv s)).pos) tR)(hc:aB (∀env,bc (sv s) env=wK (e1 (sv s)) (sv s).pos (es (sv s)) env) tE)(hs:aB (s=.For (tg s) (sv s) (b1 s) [] (sp s)) tR)(hf:aB (∀env x,ji (sv s) env x=pure x) tG):W1 E s r R N l L:=by intro X w a st Rp;obtain⟨hx,hy⟩:=bM.mp hx;rw[hs];refine Kx (Xp (t:=jQ (es (sv s)) (E.env a)) (hn _) hb (bne_iff_ne.mp hy) ?_ (EF.oh hx a).1 (EF.oh hx a).2 ((hc (E.env a)).trans (aO (λx=>wK x (sv s).pos (es (sv s)) (E.env a)) he)) BZ B2) (hf _);have z:=AV.p1 (A:=MK (.tup us) L) h ⟨rfl,rfl⟩ hl X w a st Rp;exactλA P s' ao g F=>cC (z A P s' ao g F) (λxs s1 z=>by clear h;obtain⟨vs,bP,x,y,L2,R2,rfl,rfl⟩:=z;exact⟨_,bP,x,y,us,rfl,(pd _ _ _ ot),q.go R2 λu u u u=>cZ⟩) λu u x=>x
end
end
section
def g1(e:aT):DJ:=(gens e).headD ⟨z0,z0,[],0⟩
def g2(e:aT):DJ:=(gens e).tail.headD ⟨z0,z0,[],0⟩
def ia(E:EF)(ifs:ag aT)(r:aa)(B:bw->Cells->Prop)(l:Lc)(L:Cells):Prop:=∀(X:Hid)(w:aZ)(a:Ar)(st:aE),Rep st L->Bg pw w (KW w) r (E.env a) ifs l.get st (Gb B)
inductive FC(E:EF)(t:aT):V->Lc->Lc->Prop|name(v:V)(l:Lc):t=.Name (nm t) t.pos->(E.names.lookup (nm t)==af .local)=ai->FC E t v l (l.put (nm t) v)|tup(vs:ag V)(l:Lc)(ns:ag aI):t=.Tuple (es t) (kk t) t.pos->(∀a,namesOf (E.env a) (es t)=af ns)->(ns.all λx=>E.names.lookup x==af .local)=ai->(es t).length=vs.length->FC E t (.tup vs) l (l.mA ns vs)
def FC.gR(h:FC E t v l l')(a:Ar):Loc.gR l.get (E.env a) t v=af l'.get:=by induction h with|name v l h hk=>refine(aO (λx=>Loc.gR l.get (E.env a) x v) h).trans ?_;show(if(E.env a).kindOf (nm t)==af .local then af (Loc.up l.get (nm t) v)else ah)=_;rw[E.kind,a0 hk,Lc.yC]|tup vs l ns h hn hk hl=>refine(aO (λx=>Loc.gR l.get (E.env a) x (.tup vs)) h).trans ?_;show(if(es t).length=vs.length/\((namesOf (E.env a) (es t)).getD []).all (λx=>(E.env a).kindOf x==af .local)=ai then(namesOf (E.env a) (es t)).map λns=>Loc.ups l.get ns vs else ah)=_;rw[hn a,a0 ⟨hl,f7.mpr λx hx=>E.kind a x▸f7.mp hk x hx⟩,Lc.uA (l:=l)];rfl
abbrev uB(γ:Type):=γ->(γ->Cells->Prop)->Lc->Cells->Prop
inductive cT{γ:Type}(E:EF)(t:aT)(ifs:ag aT)(r:aa)(y0:γ)(gq:uB γ)(Fin:γ->Cells->Prop)(l:Lc)(u:V)(L1:Cells):Prop|mk{β:Type}{vs:ag V}{G:Cells->Prop}(S:β->Cells)(ok:ag V->γ->β->Prop)(b0:β):jR L1 u vs G->ok vs y0 b0->S b0=L1->(∀v rest y b,ok (v::rest) y b->G (S b)/\∃l',FC E t v l l'/\ia E ifs r (λc L2=>if c then gq y (λy' L3=>∃b',ok rest y' b'/\L3=S b') l' L2 else∃b',ok rest y b'/\L2=S b') l' (S b))->(∀y b,ok [] y b->G (S b)/\Fin y (S b))->lA t->cT E t ifs r y0 gq Fin l u L1
def PL(E:EF)(elt:aT)(r:aa):uB (ag V):=λys N l L=>EV E elt r (λy M=>ys.length<16777216/\N (ys++[y]) M) l L
def PD(E:EF)(kx vx:aT)(r:aa):uB (ag (V×V)):=λes N l L=>EV E kx r (λk M=>EV E vx r (λv M=>es.length<=16777216/\eM es k/\N (dt es k v) M) l M) l L
def PN(E:EF)(elt t it:aT)(ifs:ag aT)(r:aa):uB (ag V):=λys N l L=>(∀x∈Bh t,l.get x=ah)/\EV E it r (cT E t ifs r ys (PL E elt r) N l) l L
section
variable{e:aT}{r:aa}{l:Lc}{u v:V}{us vs:ag V}{Q:V->Cells->Prop}{R:V->Cells->Prop}{N:Lc->Cells->Prop}{L M:Cells}{s:cG}{sd:cG}{fa:aa}{E:EF}{c:aT}{B:bw->Cells->Prop}
def ia.nil(h:B ai L):ia E [] r B l L:=λX w a st R=>Vy ⟨_,R,h⟩
def ia.one(h:TV E c r B l L):ia E [c] r B l L:=λX w a st R=>Vz (h X w a st R)
def yI{γ:Type} [dq:Hid](w:aZ)(env:bI)(gq:uB γ)(Put':Loc->γ->aE->(γ->aE->Prop)->Prop):Prop:=∀(l:Lc)(y:γ)(st:aE)(L:Cells)(N:γ->Cells->Prop)(N':γ->aE->Prop),Rep st L->gq y N l L->(∀y' ak L',Rep ak L'->N y' L'->N' y' ak)->Put' l.get y st N'
def cT.go{γ:Type} [dq:Hid]{w:aZ}{t:aT}{ifs:ag aT}{y0:γ}{gq:uB γ}{Put':bI->Loc->γ->aE->(γ->aE->Prop)->Prop}{Fin:γ->Cells->Prop}{ML:γ->aE->Prop}{aQ:aE}(h:cT E t ifs r y0 gq Fin l u L)(R1:Rep aQ L)(hp:∀a,yI w (E.env a) gq (Put' (E.env a)))(hf:∀y st L,Rep st L->Fin y L->ML y st):∃vs D,ua aQ u vs D/\lA t/\∃bJ:ag V->γ->aE->Prop,bJ vs y0 aQ/\∀a,mh pw w (KW w) r (E.env a) l.get t ifs D bJ (Put' (E.env a)) ML:=by
 obtain⟨S,ok,b0,it,h0,hL,jI,fin,ot⟩:=h;refine aq (it.iter R1) λD it keep=>?_;refine(bZ _ D it ot (aA (λrest y st=>∃b,Rep st (S b)/\ok rest y b) (aA b0 (hL▸R1) h0) (λa=>⟨λv rest y st z=>?_,λy st z=>?_⟩)));·refine aq z λb Rb hb=>?_;refine bx (jI v rest y b hb) λg bg=>aq bg λl' ft ts=>?_;refine(dD (keep _ _ Rb g) (aA l'.get (ft.gR a) (WT.mono (ts _ w a st Rb) λc bP z=>?_)));obtain⟨L2,R2,z⟩:=z;induction c with|true=>exact hp a l' y bP L2 _ _ R2 z λy' ak L' R' zf=>aq zf λb' h1 h2=>(aA b' (h2▸R') h1)|false=>refine aq z λb' h1 h2=>?_;exact(aA b' (h2▸R2) h1)
 ·refine aq z λb Rb hb=>?_;refine bx (fin y b hb) λg n=>?_;exact⟨keep _ _ Rb g,hf _ _ _ Rb n⟩
def PL.go [dq:Hid]{w:aZ}{a:Ar}{elt:aT}:yI w (E.env a) (PL E elt r) (rZ pw w (KW w) r (E.env a) elt):=λl y st L N N' R h k=>(h _ w a st R).mono λv ak z=>by obtain⟨L',R',h1,h2⟩:=z;exact⟨h1,k _ _ _ R' h2⟩
def PD.go [dq:Hid]{w:aZ}{a:Ar}{kx vx:aT}:yI w (E.env a) (PD E kx vx r) (wd pw w (KW w) r (E.env a) kx vx):=λl y st L N N' R h k=>(h _ w a st R).mono λv ak z=>by obtain⟨L',R',z⟩:=z;exact(z _ w a ak R').mono λv bP z=>by obtain⟨L2,R2,h1,h2,h3⟩:=z;exact(cM h1 h2 (k _ _ _ R2 h3))
def PN.go [dq:Hid]{w:aZ}{a:Ar}{elt t it:aT}{ifs:ag aT}:yI w (E.env a) (PN E elt t it ifs r) (we pw w (KW w) r (E.env a) elt t it ifs):=λl y st L N N' R h k=>⟨h.1,ER ((h.2 _ w a st R).mono λu aQ z=>by obtain⟨L1,R1,z⟩:=z;refine ba (z.go (Put':=λenv=>rZ pw w (KW w) r env elt) R1 (λa=>PL.go) λy st L R h=>k _ _ _ R h) λvs D i1 i2 bg=>aq bg λbJ i3 i4=>?_;exact(bZ vs D i1 i2 (aA bJ i3 (i4 a))))⟩
def cT.top{st:aE}{emb:γ->aV}{y0:γ}{gq:uB γ}{Put':bI->Loc->γ->aE->(γ->aE->Prop)->Prop}{N':V->aE->Prop}{Fin:γ->Cells->Prop} [X:Hid](h:EV (.fn sd fa) it r (cT (.jP e sd fa) t ifs r y0 gq Fin (l.cut (jO e))) l L)(R:Rep st L)(hp:∀a,yI w ((EF.jP e sd fa).env a) gq (Put' ((EF.jP e sd fa).env a)))(k:∀y st L,Rep st L->Fin y L->∀b,st b=ah->N' (.ref b) (st.put b (emb y))):WI pw w (KW w) r ((EF.fn sd fa).env a) it l.get st λvs D T aQ=>T t/\∃bJ:ag V->γ->aE->Prop,bJ vs y0 aQ/\∀C,mh pw w (KW w) r (dX (jO e) C ((EF.fn sd fa).env a)) (gS (jO e) l.get) t ifs D bJ (Put' (dX (jO e) C ((EF.fn sd fa).env a))) λy ak=>∀b,ak b=ah->N' (.ref b) (ak.put b (emb y)):=ER ((h X w a st R).mono λu aQ z=>by obtain⟨L1,R1,z⟩:=z;refine ba (z.go R1 hp k) λvs D i1 i2 bg=>aq bg λbJ i3 i4=>?_;exact(bZ vs D i1 i2 (aA bJ i3 (λC=>Lc.Zw (sc:=jO e) l▸i4 {a with cc:=C}))))
abbrev lc(e:aT):Prop:=e=.ListComp (e1 e) [⟨(g1 e).target,(g1 e).iter,(g1 e).ifs,0⟩] (jO e) e.pos
abbrev MM(e:aT):Prop:=e=.ListComp (e1 e) [⟨(g1 e).target,(g1 e).iter,(g1 e).ifs,0⟩,⟨(g2 e).target,(g2 e).iter,(g2 e).ifs,0⟩] (jO e) e.pos
abbrev dc(e:aT):Prop:=e=.DictComp (e1 e) (e2 e) [⟨(g1 e).target,(g1 e).iter,(g1 e).ifs,0⟩] (jO e) e.pos
abbrev wM(sd:cG)(fa:aa)(e:aT):Prop:=∀a,d9 (jO e) ((EF.fn sd fa).env a)=ai
abbrev nf(i:aT):Prop:=∀env x,ji i env x=pure x
abbrev sC(Q:V->Cells->Prop)(ys:ag V)(L:Cells):Prop:=∀a,Q (.ref a) ((a,.list ys)::L)
abbrev newD(Q:V->Cells->Prop)(ys:ag (V×V))(L:Cells):Prop:=∀a,Q (.ref a) ((a,.dict ys)::L)
abbrev B6(l:Lc)(N:Lc->Cells->Prop)(x:aI):V->Cells->Prop:=λv M=>N (l.put x v) M
def Gn [dq:Hid]{x:aI}{o:aV}{st:aE}{b:aa}(R:Rep st L)(h:B6 l N x v ((b,o)::L))(hb:st b=ah):mB N (Loc.up l.get x v) (st.put b o):=⟨_,_,Lc.yC l▸.refl,R.new _ hb,h⟩
def EV.comp(h:EV (.fn sd fa) (g1 e).iter r (cT (.jP e sd fa) (g1 e).target (g1 e).ifs r [] (PL (.jP e sd fa) (e1 e) r) (sC Q) (l.cut (jO e))) l L)(he:aB (lc e) tR)(ok:aB (wM sd fa e) tE)(hf:aB (nf (g1 e).iter) tG):EV (.fn sd fa) e r Q l L:=by intro X w a st R;exact he▸(VW (pos:=e.pos) (cT.top (a:=a) (N':=gU Q) (emb:=aV.list) (Put':=λenv=>rZ pw w (KW w) r env (e1 e)) h R (λa=>PL.go) λy st L R h b hb=>⟨_,R.new _ hb,h b⟩) (ok a) (hf _))
def W1.comp(h:EV (.fn sd fa) (g1 (sv s)).iter r (cT (.jP (sv s) sd fa) (g1 (sv s)).target (g1 (sv s)).ifs r [] (PL (.jP (sv s) sd fa) (e1 (sv s)) r) (sC (B6 l N (nm (tg s)))) (l.cut (jO (sv s)))) l L)(hs:aB (s=.Assign [.Name (nm (tg s)) (tg s).pos] (sv s) (sp s)) tR)(he:aB (lc (sv s)) tR)(ok:aB (wM sd fa (sv s)) tE)(hf:aB (nf (g1 (sv s)).iter) tG)(hk:aB ((EF.fn sd fa).own (nm (tg s))=ai) tT)(hw:aB (∀a,qd (sv s) (af (.Name (nm (tg s)) (tg s).pos)) (sp s).line ((EF.fn sd fa).env a)=pure ai) tE):W1 (.fn sd fa) s r R N l L:=by intro X w a st Rp;exact hs▸(he▸(VX (R:=gU R) (pos:=(sv s).pos) (pos':=(tg s).pos) (pos2:=sp s) (x:=nm (tg s)) (N:=mB N) (cT.top (a:=a) (N':=λv st=>mB N (Loc.up l.get (nm (tg s)) v) st) (emb:=aV.list) (Put':=λenv=>rZ pw w (KW w) r env (e1 (sv s))) h Rp (λa=>PL.go) λy st L R h b hb=>Gn R (h b) hb) (ok a) (EF.qF hk a).1 (he▸hw a) (hf _)))
end
end
section
def ZM [dq:Hid]{vs:ag V}{xs:ag aa}(h:vs.Perm (xs.map nv)):∃ms:ag aa,vs=ms.map nv/\ms.Perm xs:=by have:∀v∈vs,v∈xs.map nv:=λv hv=>h.mem_iff.mp hv;obtain⟨ms,rfl⟩:=BO this;refine(aA ms rfl ?_);have h2:=h.map λv=>match v with|.int i=>i.toNat|_=>0;rw[dQ,dQ]at h2;have e:(λv:V=>match v with|.int i=>i.toNat|_=>0)∘nv=id:=rfl;rw[e,qb,qb]at h2;exact h2
def ZN [dq:Hid]{xs:ag aa}{vs:ag V}(h:r8 (xs.map nv) vs):∃ms:ag aa,vs=ms.map nv/\ms.Perm xs/\ms.Pairwise (·<=·):=by obtain⟨h1,h2⟩:=h;refine aq (ZM h1) λms bQ hp=>?_;clear h1;subst bQ;refine(bH ms rfl hp ((jX.mp h2).imp λ{a b}q=>?_));exact sZ λz=>D4 q (IU.mpr z)
def Gp [dq:Hid]{w:aZ}{r:aa}{env:bI}{loc:Loc}{st:aE}{u:V}{xs:ag aa}{Q:V->aE->Prop}{K:cJ}(hc:jx pw w st u (xs.map nv))(pg:xs.length<64)(h:∀(b:aa)(ms:ag aa),st b=ah->ms.Perm xs->ms.Pairwise (·<=·)->Q (.ref b) (st.put b (.list (ms.map nv)))):OV pw w K (r+1) env (λxs=>dR (.builtin "sorted") xs) [u] loc st Q:=yk (sh:=.int) hc (λu hu=>by refine aq (bt.mp hu) λn o aC=>?_;subst aC;exact(dD cZ rfl)) (λo u hu e=>by refine aq (bt.mp hu) λn o aC=>?_;subst aC;contradiction) (by rw[aN];exact pg) λb vs hb hs=>by refine bL (ZN hs) λms bQ h1 h2=>?_;rw[bQ];exact h b ms hb h1 h2
def B7(xs ms:ag aa):Prop:=ms.Pairwise (·<·)/\∀k,k∈ms↔k∈xs
def iw(h:nv a=nv b):a=b:=Ap (V.int.inj h)
def jS{α:Type}{g:aa->α}:((bS n).map g).length=n:=by rw[aN,iR]
def sD{α:Type}{f:aa->α}(h:i<n):((bS n).map f)[i]?=af (f i):=by rw[jh,Ad h];rfl
inductive km(r:aa):V->V->V->(Cells->Prop)->Cells->Prop|list{a:aa}{us:ag V}{v:V}{N:Cells->Prop}{L:Cells}(i j:aa):L[i]?=af (a,.list us)->j<us.length->us.length<=16777216->N (L.set i (a,.list (us.set j v)))->km r (.ref a) (nv j) v N L|dict{a:aa}{es:ag (V×V)}{k v:V}{N:Cells->Prop}{L:Cells}(i:aa):L[i]?=af (a,.dict es)->eM es k->es.length<=16777216->g9 1 r=ai->N (L.set i (a,.dict (dt es k v)))->km r (.ref a) k v N L
def ZO{n:aa}:t9 0 n=(bS n).map nv:=by show(bS ((n:bp)-0).toNat).map (λ(i:aa)=>V.int (0+i))=_;exact gL λi u=>aO V.int (Int.zero_add _)
def jR.uC(h:(b,aV.range 0 (n:aa))∈L)(hz:n<1000000000):jR L (.ref b) ((bS n).map nv) (λu=>iD):=ZO▸.range (lo:=0) h (by decide) hz
section
variable{E:EF}{e:aT}{s:cG}{r a d i j k m n lo hi:aa}{l:Lc}{u v k':V}{us vs:ag V}{xs ms ks:ag aa}{Q R:V->Cells->Prop}{N:Lc->Cells->Prop}{L M:Cells}{b:bw}
def CV.extend(i j:aa)(k:Q .none (L.set i (a,.list (vs++us))))(hz:vs.length+us.length<=16777216)(x:aB (L[i]?=af (a,.list vs)) tR)(y:aB (L[j]?=af (d,.list us)) tR):CV r (.builtin "list.extend") [.ref a,.ref d] Q L:=λX w env l st R=>U0 (R.at i x) (R.at j y) hz ⟨_,R.put i x,k⟩
def CV.pop(i:aa)(k:Q v (L.set i (a,.list vs)))(hz:vs.length<16777216)(x:aB (L[i]?=af (a,.list (vs++[v]))) tR):CV r (.builtin "list.pop") [.ref a] Q L:=λX w env l st R=>U1 (R.at i x) hz ⟨_,R.put i x,k⟩
def CV.MN(i:aa)(hz:xs.length<64)(k:∀(b:aa)(ms:ag aa),ms.Perm xs->ms.Pairwise (·<=·)->Q (.ref b) ((b,.list (ms.map nv))::L))(x:aB (L[i]?=af (a,.list (xs.map nv))) tR):CV (r+1) (.builtin "sorted") [.ref a] Q L:=λX w env l st R=>Gp (jx.list (R.at i x) (by rw[aN];exact bG (bF hz) (by decide))) hz λb ms hb h1 h2=>⟨_,R.new _ hb,k b ms h1 h2⟩
inductive Gq(xs:ag aa)(us:ag V):Prop|mk(ys:ag aa):us=ys.map nv->ys.Nodup->(∀k,k∈ys↔k∈xs)->Gq xs us
def CV.Gr(i:aa)(hz:xs.length<63)(k:∀b us,Gq xs us->Q (.ref b) ((b,.set us)::L))(x:aB (L[i]?=af (a,.list (xs.map nv))) tR):CV (r+1) (.type "set") [.ref a] Q L:=λX w env l st R=>Mi (R.at i x) (.inl ⟨xs.map λn:aa=>(n:bp),by rw[dQ];rfl⟩) (by rw[aN];exact hz) λd us hd sv=>by
 obtain⟨ys,rfl⟩:∃ys:ag aa,us=ys.map nv:=BO (ks:=xs) λv hv=>(sv.mem v).mp hv;have nd:ys.Nodup:=by have:=sv.yw (λu hu l e=>by obtain⟨n,_,rfl⟩:=bt.mp hu;contradiction);exact(jX.mp this).imp λq z=>q (aO nv z)
 refine⟨_,R.new _ hd,k d _ ⟨ys,rfl,nd,λk=>?_⟩⟩;have:=sv.mem (nv k);constructor;·intro q;refine aq (bt.mp (this.mp (gK q))) λj hj e=>?_;exact iw e▸hj
 ·intro q;refine aq (bt.mp (this.mpr (gK q))) λj hj e=>?_;exact iw e▸hj
def CV.Gs(i:aa)(sn:Gq xs us)(hz:xs.length<64)(k:∀(b:aa)(ms:ag aa),B7 xs ms->Q (.ref b) ((b,.list (ms.map nv))::L))(x:aB (L[i]?=af (a,.set us)) tR):CV (r+1) (.builtin "sorted") [.ref a] Q L:=λX w env l st R=>by obtain⟨ys,rfl,nd,hm⟩:=sn;refine Gp (jx.set (R.at i x)) (br (sV nd λk hk=>(hm k).mp hk) hz) λb ms hb hp hs=>⟨_,R.new _ hb,k b ms ⟨(ah5 hs (hp.nodup_iff.mpr nd)).imp λzf=>bx zf λx y=>Im x y,λk=>hp.mem_iff.trans (hm k)⟩⟩
def CV.range(k:∀b,Q (.ref b) ((b,.range 0 (n:aa))::L))(hz:n<1000000000):CV r (.type "range") [nv n] Q L:=λX w env l st R=>WG λb hb=>⟨_,R.new _ hb,k b⟩
def W1.put(h:EV E (sv s) r (λv M=>EV E (e1 (tg s)) r (λu M=>EV E (e2 (tg s)) r (λk M=>km r u k v (N l) M) l M) l M) l L)(hs:aB (s=.Assign [.Subscript (e1 (tg s)) (e2 (tg s)) (tg s).pos] (sv s) (sp s)) tR)(hw:aB (B3 E s (af (.Subscript (e1 (tg s)) (e2 (tg s)) (tg s).pos))) tE):W1 E s r R N l L:=λX w a st Rp=>by exact hs▸(WN ((h X w a st Rp).mono λv' aQ z=>by obtain⟨L1,R1,z⟩:=z;exact(z X w a aQ R1).mono λu' bP z=>by obtain⟨L2,R2,z⟩:=z;exact(z X w a bP R2).mono λk' ma z=>by obtain⟨L3,R3,z⟩:=z;clear h;cases z with|list i j x hj hz n=>exact ui.list (R3.at i x) hj hz ⟨_,_,.refl,R3.put i x,n⟩|dict i x kk hz hr n=>clear z;obtain⟨r,rfl⟩:=sU (jY (bj xC (aL hr)));exact ui.dict (R3.at i x) kk hz ⟨_,_,.refl,R3.put i x,n⟩) (hw a))
inductive MO(n:aa)(ns:ag aI)(N:Lc->Cells->Prop)(l:Lc):V->Cells->Prop|mk{vs:ag V}{L:Cells}:n=vs.length->N (l.mA ns vs) L->MO n ns N l (.tup vs) L
inductive MP(n:aa)(ns:ag aI)(N:Lc->Cells->Prop)(l:Lc):V->Cells->Prop|mk{a:aa}{vs:ag V}{L:Cells}(i:aa):L[i]?=af (a,.list vs)->n=vs.length->N (l.mA ns vs) L->MP n ns N l (.ref a) L
abbrev Gu(s:cG):Prop:=s=.Assign [.Tuple (es (tg s)) (kk (tg s)) (tg s).pos] (sv s) (sp s)
def W1.tup(ns:ag aI)(h:EV E (sv s) r (MO (es (tg s)).length ns N l) l L)(hs:aB (Gu s) tR)(hn:aB (∀a,namesOf (E.env a) (es (tg s))=af ns) tE)(hw:aB (∀a,Au [.Tuple (es (tg s)) (kk (tg s)) (tg s).pos] (sv s) (sp s).line (E.env a)=pure aD) tE)(hx:aB (∀a,xF [.Tuple (es (tg s)) (kk (tg s)) (tg s).pos] (sv s) (E.env a)=pure ah) tE):W1 E s r R N l L:=λX w a st Rp=>by exact hs▸(WO ((h X w a st Rp).mono λu aQ z=>by obtain⟨L,R1,⟨hl,n⟩⟩:=z;exact⟨_,rfl,hl,_,L,Lc.uA (l:=l) ns _ l▸.refl,R1,n⟩) (hn a) (hw a) (hx a))
def W1.ZP(ns:ag aI)(h:EV E (sv s) r (MP (es (tg s)).length ns N l) l L)(hs:aB (Gu s) tR)(hn:aB (∀a,namesOf (E.env a) (es (tg s))=af ns) tE)(hw:aB (∀a,Au [.Tuple (es (tg s)) (kk (tg s)) (tg s).pos] (sv s) (sp s).line (E.env a)=pure aD) tE)(hx:aB (∀a,xF [.Tuple (es (tg s)) (kk (tg s)) (tg s).pos] (sv s) (E.env a)=pure ah) tE):W1 E s r R N l L:=λX w a st Rp=>by exact hs▸(WX ((h X w a st Rp).mono λu aQ z=>by obtain⟨L,R1,⟨i,x,hl,n⟩⟩:=z;exact⟨_,_,rfl,R1.at i x,hl,_,L,Lc.uA (l:=l) ns _ l▸.refl,R1,n⟩) (hn a) (hw a) (hx a))
inductive MQ(ns:ag aI)(N:Lc->Cells->Prop)(l:Lc):V->Cells->Prop|mk{vs:ag V}{L:Cells}:ns.length=vs.length->N (l.mA ns.reverse vs.reverse) L->MQ ns N l (.tup vs) L
def W1.sE(ns:ag aI)(h:EV E (sv s) r (MQ ns N l) l L)(hs:aB (Gu s) tR)(hk:aB ((ns.all λx=>E.own x)=ai) tT)(hw:aB (∀a,Au [.Tuple (es (tg s)) (kk (tg s)) (tg s).pos] (sv s) (sp s).line (E.env a)=pure aD) tE)(hx:aB (∀a,xF [.Tuple (es (tg s)) (kk (tg s)) (tg s).pos] (sv s) (E.env a)=pure (af ns)) tE):W1 E s r R N l L:=λX w a st Rp=>by exact hs▸(LC ((h X w a st Rp).mono λu aQ z=>by obtain⟨L,R1,⟨hl,n⟩⟩:=z;exact⟨_,rfl,hl,_,L,Lc.uA (l:=l) ns.reverse _ l▸.refl,R1,n⟩) (hx a) (hw a) (f7.mpr λx hx=>(EF.qF (f7.mp hk x hx) a).1))
def cT.pure{α:Type}{xs:ag α}(f:α->V)(p:α->bw)(g:α->V)(it:jR L u (xs.map f) G)(hg:G L)(hl:xs.length<16777216)(ot:lA t)(h:∀x∈xs,∃l',FC E t (f x) l l'/\ia E ifs r (Gf (p x) L) l' L/\(p x=ai->PE E elt r l' L (g x)))(k:∀b,Q (.ref b) ((b,.list ((xs.filter p).map g))::L)):cT E t ifs r [] (PL E elt r) (sC Q) l u L:=by
 refine⟨λo:kK=>L,λrest ys o=>∃done todo,done++todo=xs/\rest=todo.map f/\ys=(done.filter p).map g,(),it,(bZ ([]) xs rfl rfl rfl),rfl,λv rest ys b z=>⟨hg,?_⟩,λys b z=>⟨hg,?_⟩,ot⟩;·
  refine ba z λdone todo e er iF=>?_;clear it hg ot;rw[iF];induction todo using b7 with
   |nil=>nomatch er|cons x todo=>
    obtain⟨rfl,rfl⟩:=cq er;refine bL (h x (e▸bC _ aR)) λl' ft ts el=>?_;refine(aA l' ft (λX w a st R=>WT.mono (ts X w a st R) λc ak z=>?_));clear h;obtain⟨L',R',rfl,rfl⟩:=z;refine⟨_,R',?_⟩;have e2:(done++[x])++todo=xs:=by rw[bW];exact e
    cases q:p x with
     |true=>
      refine(a0 rfl).mpr (EV.use (el q) (dD ?_ (aA (()) (bZ _ todo e2 rfl ?_) rfl)));·refine br ?_ hl;rw[aN,←e,bD];exact bG (Du ..) (dE ..)
      ·rw[Rr,cy,rq,a0 q];rfl|false=>refine(aX fH).mpr (aA (()) (bZ _ todo e2 rfl ?_) rfl);rw[Rr,rq,aX (by exact q▸fH),List.filter_nil,bN]
 ·refine ba z λdone todo e er iF=>?_;rw[iF];obtain rfl:=f6.mp er.symm;rw[bN]at e;exact e▸k
def cT.B8{α:Type}{xs:ag α}(f g:α->V)(it:jR L u (xs.map f) G)(hg:G L)(hl:xs.length<16777216)(ot:lA t)(h:∀x∈xs,∃l',FC E t (f x) l l'/\PE E elt r l' L (g x))(k:∀b,Q (.ref b) ((b,.list (xs.map g))::L)):cT E t [] r [] (PL E elt r) (sC Q) l u L:=cT.pure f (λo=>ai) g it hg hl ot (λx hx=>(h x hx).imp λo z=>(cM z.1 (ia.nil ⟨rfl,rfl⟩) (λo=>z.2))) λb=>by exact(List.filter_eq_self.mpr λo o=>rfl)▸(k b)
def cT.yJ{α:Type}{xs:ag α}(f g:α->V)(it:jR L u (xs.map f) G)(hg:G L)(hl:xs.length<16777216)(h:∀x∈xs,PE E elt r (l.put (nm t) (f x)) L (g x))(k:∀b,Q (.ref b) ((b,.list (xs.map g))::L))(ht:aB (t=.Name (nm t) t.pos) tR)(hk:aB ((E.names.lookup (nm t)==af .local)=ai) tT):cT E t [] r [] (PL E elt r) (sC Q) l u L:=cT.B8 f g it hg hl (.inl (d8 _ _ ht)) (λx hx=>(aA _ (.name _ _ ht hk) (h x hx))) k
def cT.nums(g:aa->V)(it:jR L u (ks.map nv) G)(hg:G L)(hl:ks.length<16777216)(h:∀k∈ks,PE E elt r (l.put (nm t) (nv k)) L (g k))(k:∀b,Q (.ref b) ((b,.list (ks.map g))::L))(ht:aB (t=.Name (nm t) t.pos) tR)(hk:aB ((E.names.lookup (nm t)==af .local)=ai) tT):cT E t [] r [] (PL E elt r) (sC Q) l u L:=cT.yJ nv g it hg hl h k ht hk
end
end
section
inductive KV(L:Cells)(ks:ag aa):V->Prop|tup:KV L ks (.tup (ks.map nv))|list(a:aa):(a,aV.list (ks.map nv))∈L->KV L ks (.ref a)
def KV.iter(h:KV L ks v)(hz:ks.length<=16777216):∃G:Cells->Prop,jR L v (ks.map nv) G/\G L:=by induction h with|tup=>exact(aA _ .tup cZ)|list a h=>exact(aA _ (.list h (by rw[aN];exact hz)) h)
section
variable{E:EF}{e:aT}{s:cG}{r a d i j k m n lo hi:aa}{l:Lc}{u v k' t:V}{us vs:ag V}{xs ms ks:ag aa}{ns:ag bp}{ds:ag (V×V)}{Q R:V->Cells->Prop}{N:Lc->Cells->Prop}{L M:Cells}{b c:bw}{B:bw->Cells->Prop}{x y:aI}
def CP.ZQ(h:KV L ks v)(hz:ks.length<=16777216):CP r (.type "tuple") [v] (.tup (ks.map nv)) L:=λX w env l st R=>by induction h with|tup=>exact LB ⟨_,R,rfl,rfl⟩|list a h=>exact LA (R.has _ h) (by rw[aN];exact hz) ⟨_,R,rfl,rfl⟩
def CP.wN(i:aa)(hz:us.length<=16777216)(x:aB (L[i]?=af (a,.list us)) tR):CP r (.type "tuple") [.ref a] (.tup us) L:=λX w env l st R=>LA (R.at i x) hz ⟨_,R,rfl,rfl⟩
def CP.Gv(hz:us.length<=16777216):CP r (.builtin "len") [.tup us] (nv us.length) L:=λX w env l st R=>UY hz ⟨_,R,rfl,rfl⟩
def CP.sum(i:aa)(x:aB (L[i]?=af (a,.list (ns.map V.int))) tR):CP r (.builtin "sum") [.ref a] (.int ns.sum) L:=λX w env l st R=>WM (R.at i x) ⟨_,R,rfl,rfl⟩
def CV.max(i:aa)(hn:0<ns.length)(k:∀m,m∈ns->(∀a∈ns,a<=m)->Q (.int m) L)(x:aB (L[i]?=af (a,.list (ns.map V.int))) tR):CV r (.builtin "max") [.ref a] Q L:=λX w env l st R=>WK (R.at i x) hn λm h1 h2=>⟨_,R,k m h1 h2⟩
def CV.Gw(i:aa)(hz:us.length<=16777216)(k:∀b,Q (.ref b) ((b,.list us)::L))(x:aB (L[i]?=af (a,.list us)) tR):CV r (.type "list") [.ref a] Q L:=λX w env l st R=>WC (R.at i x) hz λb hb=>⟨_,R.new _ hb,k b⟩
def CV.ZR(i:aa)(hz:ds.length<=16777216)(k:∀b,Q (.ref b) ((b,.list (ds.map (·.1)))::L))(x:aB (L[i]?=af (a,.dict ds)) tR):CV r (.type "list") [.ref a] Q L:=λX w env l st R=>WD (R.at i x) hz λb hb=>⟨_,R.new _ hb,k b⟩
def CP.isspace:CP r (.builtin "str.isspace") [.str x] (.bool (I3 x)) L:=λX w env l st R=>Xd ⟨_,R,rfl,rfl⟩
def Mt.str{id:nN}{s:aI}(slot:vP "str" s id)(nU:kH (.builtin id)=pure (.type "method_descriptor")):Mt s (.str x) (.builtin id) L:=λX w r env l st R=>.str slot nU
def BV.pE(i j:aa)(hz:vs.length+us.length<=16777216)(k:∀b,Q (.ref b) ((b,.list (vs++us))::L))(x:aB (L[i]?=af (a,.list vs)) tR)(y:aB (L[j]?=af (d,.list us)) tR):BV r (mS .Add) (.ref a) (.ref d) Q L:=λX w env l st R=>U3 (R.at i x) (R.at j y) hz λb hb=>⟨_,R.new _ hb,k b⟩
def CV.ZS(i:aa)(q:eM ds (nv m))(hz:ds.length<=16777216)(hv:cj ds (nv m)=af v)(k:Q v (L.set i (d,.dict (rT ds (nv m)))))(x:aB (L[i]?=af (d,.dict ds)) tR):CV (r+1) (.builtin "dict.pop") [.ref d,nv m] Q L:=λX w env l st R=>Vs (R.at i x) q hz hv ⟨_,R.put i x,k⟩
def CV.Gx(i:aa)(q:eM ds k')(hz:ds.length<=16777216)(k:cj ds k'=ah->Q u (L.set i (d,.dict (ds++[(k',u)]))))(h:∀v,cj ds k'=af v->Q v L)(x:aB (L[i]?=af (d,.dict ds)) tR):CV (r+1) (.builtin "dict.setdefault") [.ref d,k',u] Q L:=λX w env l st R=>Vr (R.at i x) q hz (by cases e:cj ds k' with|none=>exact⟨_,R.put i x,k e⟩|some v=>exact⟨_,R,h v e⟩)
def BV.yG(hz:us.length+vs.length<=16777216)(k:Q (.tup (us++vs)) L):BV r (mS .Add) (.tup us) (.tup vs) Q L:=λX w env l st R=>Ey hz ⟨_,R,k⟩
def BV.add{i j:bp}(k:Q (.int (i+j)) L):BV r (mS .Add) (.int i) (.int j) Q L:=λX w env l st R=>JU ⟨_,R,k⟩
def BV.ZT(i j:aa)(k:Q (.bool (decide (us=[]))) L)(x:aB (L[i]?=af (a,.list us)) tR)(y:aB (L[j]?=af (d,.list [])) tR):BV r (fJ .Eq) (.ref a) (.ref d) Q L:=λX w env l st R=>W' (R.at i x) (R.at j y) ⟨_,R,k⟩
def BV.MR(i j:aa)(k:Q (.bool (!decide (us=[]))) L)(x:aB (L[i]?=af (a,.list us)) tR)(y:aB (L[j]?=af (d,.list [])) tR):BV r (fJ .NotEq) (.ref a) (.ref d) Q L:=λX w env l st R=>Xa (R.at i x) (R.at j y) ⟨_,R,k⟩
def PE.tuple1(h:PE E (fE (es e)) r l L v)(he:aB (e=.Tuple (es e) (kk e) e.pos) tR)(hb:aB (∀env,kI e.pos (kF (es e) env)=jQ (es e) env) tE)(hl:aB (es e=[fE (es e)]) tR):PE E e r l L (.tup [v]):=EV.tuple (AV.p1 h ⟨aL rfl,rfl,rfl⟩ hl) he hb
def PE.ZU(h1:PE E (e1 e) r l L (.str x))(h2:PE E (e2 e) r l L (.str y))(he:aB (e=.Compare (e1 e) [.NotEq] [e2 e] e.pos) tR)(hm:aB (i7 .NotEq (e2 e)=aD) tF):PE E e r l L (.bool (decide (x≠y))):=EV.cmp .NotEq (EV.use h1 (EV.use h2 λX w env l st R=>Uv ⟨_,R,rfl,rfl⟩)) he hm
def PT.wO(h1:PE E (e1 e) r l L (.str x))(h2:PE E (e2 e) r l L (.str y))(he:aB (e=.Compare (e1 e) [.Eq] [e2 e] e.pos) tR)(hm:aB (i7 .Eq (e2 e)=aD) tF):PT E e r l L (decide (x=y)):=TV.cmp .Eq (EV.use h1 (EV.use h2 λX w env l st R=>JY ⟨_,R,_,rfl,rfl,rfl⟩)) he hm
def PT.ZV(h1:PE E (e1 e) r l L (.str x))(h2:PE E (e2 e) r l L (.str y))(he:aB (e=.Compare (e1 e) [.In] [e2 e] e.pos) tR)(hm:aB (i7 .In (e2 e)=aD) tF):PT E e r l L (IS y x):=TV.cmp .In (EV.use h1 (EV.use h2 λX w env l st R=>Xe ⟨_,R,_,rfl,rfl,rfl⟩)) he hm
def PT.ZW(h1:PE E (e1 e) r l L .none)(he:aB (e=.Compare (e1 e) [.Is] [e2 e] e.pos) tR)(hc:aB (e2 e=.Constant .none (kk (e2 e)) (e2 e).pos) tR)(hm:aB (i7 .Is (e2 e)=aD) tF):PT E e r l L ai:=TV.cmp .Is (EV.use h1 (EV.use (PE.nul hc) λX w env l st R=>Uw ⟨_,R,_,rfl,rfl,rfl⟩)) he hm
def PT.ZX(h1:PE E (e1 e) r l L (.tup us))(he:aB (e=.Compare (e1 e) [.Is] [e2 e] e.pos) tR)(hc:aB (e2 e=.Constant .none (kk (e2 e)) (e2 e).pos) tR)(hm:aB (i7 .Is (e2 e)=aD) tF):PT E e r l L aD:=TV.cmp .Is (EV.use h1 (EV.use (PE.nul hc) λX w env l st R=>Ux ⟨_,R,_,rfl,rfl,rfl⟩)) he hm
def PT.of(h:PE E e r l L (.bool b))(he:aB (∀env,fe e env (bc e env)=(do let v←bc e env;mU e.pos;o9 [v] (truthy v))) tE):PT E e r l L b:=TV.plain (EV.use h ⟨b,rfl,rfl,rfl⟩) he
def EV.sG(h:EV E (a1 e) r (λu M=>∃b,u=.bool b/\if b then EV E (a2 e) r Q l M else Q (.bool aD) M) l L)(he:aB (e=.BoolOp .And [a1 e,a2 e] e.pos) tR):EV E e r Q l L:=λX w a st R=>by rw[he];refine Ui ((h X w a st R).mono λu ak z=>?_);obtain⟨L,R',b,hb,z⟩:=z;refine(aA b hb ?_);clear hb;induction b with|true=>exact z X w a ak R'|false=>exact⟨_,R',z⟩
def EV.ZY(h:PE E (a1 e) r l L (.bool ai))(k:EV E (a2 e) r Q l L)(he:aB (e=.BoolOp .And [a1 e,a2 e] e.pos) tR):EV E e r Q l L:=EV.sG (EV.use h (aA ai rfl ((a0 rfl).mpr k))) he
def TV.MS(h:TV E (a1 e) r (λb M=>if b then B ai M else TV E (a2 e) r B l M) l L)(he:aB (e=.BoolOp .Or [a1 e,a2 e] e.pos) tR):TV E e r B l L:=λX w a st R=>by rw[he];refine xZ (WT.mono (h X w a st R) λb ak z=>?_);obtain⟨L,R',z⟩:=z;induction b with|true=>exact⟨_,R',z⟩|false=>refine(aX fH).mpr (xZ (WT.mono (z X w a ak R') λb ak z=>?_));obtain⟨L,R',z⟩:=z;induction b with|true=>exact⟨_,R',z⟩|false=>exact(aX fH).mpr (JS ⟨_,R',z⟩)
def PT.Gy(h:PT E (a1 e) r l L aD)(k:PT E (a2 e) r l L aD)(he:aB (e=.BoolOp .Or [a1 e,a2 e] e.pos) tR):PT E e r l L aD:=TV.MS (TV.use h ((aX fH).mpr k)) he
def PT.B9(h:PT E (e1 e) r l L c)(hb:aB ((!c)=b) tR)(he:aB (e=.UnaryOp .Not (e1 e) e.pos) tR):PT E e r l L b:=hb▸PT.not h he
def PE.cast(h:PE E e r l L u)(hu:u=v):PE E e r l L v:=hu▸h
def PT.cast(h:PT E e r l L b)(hb:b=c):PT E e r l L c:=hb▸h
def PT.inD(i:aa)(h1:PE E (e1 e) (r+1) l L v)(h2:PE E (e2 e) (r+1) l L (.ref d))(q:eM ds v)(hb:(cj ds v).isSome=b)(x:aB (L[i]?=af (d,.dict ds)) tR)(he:aB (e=.Compare (e1 e) [.In] [e2 e] e.pos) tR)(hm:aB (i7 .In (e2 e)=aD) tF):PT E e (r+1) l L b:=TV.cmp .In (EV.use h1 (EV.use h2 λX w env l st R=>Vm (R.at i x) q ⟨_,R,_,rfl,hb,rfl⟩)) he hm
def PE.sH(i:aa)(h1:PE E (e1 e) (r+1) l L (.ref d))(h2:PE E (e2 e) (r+1) l L k')(q:eM ds k')(hv:cj ds k'=af v)(x:aB (L[i]?=af (d,.dict ds)) tR)(he:aB (e=.Subscript (e1 e) (e2 e) e.pos) tR)(hs:yD (e2 e):=by exactλu u=>⟨_,rfl⟩):PE E e (r+1) l L v:=EV.sub (EV.use h1 (EV.use h2 λX w env l st R A P s x y a g F ru rv=>by refine dh (hs x y) λops ho=>?_;have Gk:=ru;subst ru;refine eR (F.toSRel.dict (R.at i ‹_›)) λds n e u=>?_;exact AE (jL e) RM.lookup (Vo (R.at i ‹_›) q hv ⟨_,R,rfl,rfl⟩ A P s _ y a g F Gk rv) ho)) he
def PE.ZZ(h1:PE E (e1 e) r l L (.str x))(h2:PE E (e2 e) r l L (nv k))(hk:(Sj x k).isSome=ai)(hf:fitsSsize k=ai)(he:aB (e=.Subscript (e1 e) (e2 e) e.pos) tR)(hs:yD (e2 e):=by exactλu u=>⟨_,rfl⟩):PE E e r l L (.str (Sz x k)):=EV.sub (EV.use h1 (EV.use h2 λX w env l st R A P s x y u u F ru rv=>by obtain⟨tx,rfl⟩:=ru;obtain⟨ti,rfl⟩:=rv;obtain⟨ops,ho⟩:=hs (.str _ tx) (.int k ti);exact AE (typeIs_str _ _ _) PySem.F.slot_str_getitem.lookup (SB.getItem hf hk ⟨_,st,.str _ _,F.tok _,_,R,rfl,rfl⟩) ho)) he
def PT.chain(h1:PE E (e1 e) r l L (nv i))(h2:PE E (e2 e) r l L (nv j))(h3:PE E (e3 e) r l L (nv k))(nX:i<=j)(Z0:j<k)(he:aB (e=.Compare (e1 e) [.LtE,.Lt] [e2 e,e3 e] e.pos) tR)(hm:aB (lastMarks [.LtE,.Lt] [e2 e,e3 e]=aD) tF):PT E e r l L ai:=λX w a st R=>by rw[he];refine Un ((h1 X w a st R).mono λu aQ z=>?_) hm;clear h1;obtain⟨M,R1,rfl,h⟩:=z;subst h;refine(h2 X w a aQ R1).mono λu bP z=>?_;obtain⟨M,R2,rfl,h⟩:=z;cases h;refine JW (aA ai (aO V.bool (c7 (R8.mpr nX))) ((a0 rfl).mpr ?_));refine(h3 X w a bP R2).mono λu ma z=>?_;obtain⟨M,R3,rfl,h⟩:=z;subst h;exact JV ⟨ai,aO V.bool (c7 (IU.mpr Z0)),_,R3,rfl,rfl⟩
end
end
section
noncomputable def eN(K:cJ)(C:aa)(name:aI):bw:=(th K (.ref C) "__setattr__"==af (af (.builtin "object.__setattr__")))&&(plainOver K C&&((takerIn K C name==af ah)&&Jd K C))
def A3.of{K:cJ}(h:eN K C name=ai):A3 K C name:=by refine bx (bM.mp h) λh1 h=>?_;obtain⟨h2,h⟩:=bM.mp h;obtain⟨h3,h4⟩:=bM.mp h;exact⟨beq_iff_eq.mp h1,h2,beq_iff_eq.mp h3,h4⟩
noncomputable def Z1(K:cJ)(C f:aa):bw:=makesIn K C&&((th K (.ref C) "__init__"==af (af (.ref f)))&&(typeIn K (.ref f)==af (.type "function")))
inductive MT(s:aI)(v:V)(N:Lc->Cells->Prop)(l:Lc):V->Cells->Prop|mk{a C d:aa}{es:ag (aI×V)}{L:Cells}(i j:aa):(∀P,eN (KK P) C s=ai)->L[i]?=af (a,.inst C d)->L[j]?=af (d,.attrs es)->SF es.length 100=ai->N l (L.set j (d,.attrs (qi es s v)))->MT s v N l (.ref a) L
section
variable{e:aT}{s:cG}{r q a d i j k m n C f:aa}{l:Lc}{u v:V}{us vs:ag V}{ds:ag (V×V)}{Q Q' R:V->Cells->Prop}{N:Lc->Cells->Prop}{L M:Cells}{E:EF}{sd:cG}{fa:aa}
inductive MU(Q:V->Cells->Prop)(x:aa)(v:V)(L:Cells):Prop|mk:v=.none->Q (.ref x) L->MU Q x v L
def CV.make(h:∀x dx,Sp q f (.ref x::vs) (MU Q x) ((x,.inst C dx)::(dx,.attrs [])::L))(hq:aB (g9 q r=ai) tT)(hm:aB (∀P,Z1 (KK P) C f=ai) tK):CV (r+1) (.ref C) vs Q L:=λX w env l st R=>by obtain⟨h1,hm⟩:=bM.mp (hm w.params);obtain⟨h2,h3⟩:=bM.mp hm;exact WZ h1 (beq_iff_eq.mp h2) (beq_iff_eq.mp h3) λx dx n1 n2 ne=>((h x dx X w _ ((R.new _ n2).new _ (by exact(aE.gj ne)▸n1))).le (aL hq)).mono λv ak z=>by obtain⟨L',R',h1,h2⟩:=z;exact⟨h1,_,R',h2⟩
def Sp.frame(h:Sp q f vs Q' L)(k:∀v L',Q' v L'->Q v (L'++M)):Sp q f vs Q (L++M):=λX w st R=>(BY.frame (λst R=>h X w st R) R).mono λv ak z=>by refine aq z λL' R' z=>?_;exact⟨_,R',k v L' z⟩
def W1.attr(h:EV E (sv s) r (λv M=>EV E (e1 (tg s)) r (MT (nm (tg s)) v N l) l M) l L)(hs:aB (s=.Assign [.Attribute (e1 (tg s)) (nm (tg s)) (tg s).pos] (sv s) (sp s)) tR)(hw:aB (B3 E s (af (.Attribute (e1 (tg s)) (nm (tg s)) (tg s).pos))) tE):W1 E s r R N l L:=λX w a st Rp=>by exact hs▸(UJ ((h X w a st Rp).mono λv aQ z=>by obtain⟨L1,R1,z⟩:=z;exact(z X w a aQ R1).mono λu bP z=>by obtain⟨L2,R2,⟨i,j,ok,x1,x2,hz,n⟩⟩:=z;exact⟨_,_,_,_,rfl,R2.at i x1,R2.at j x2,aL hz,.of (ok _),l,_,.refl,R2.put j x2,n⟩) (hw a))
def EV.om(h:∀d,Q (.ref d) ((d,.dict [])::L))(he:aB (e=.Dict [] [] e.pos) tR):EV E e r Q l L:=λX w a st R=>by exact he▸(Xf λd hd=>⟨_,R.new _ hd,h d⟩)
noncomputable def dK:aT->aT|.Dict (af k::_) _ _=>k|e=>e
noncomputable def dV:aT->aT|.Dict _ (v::_) _=>v|e=>e
def EV.Z2(h1:∀d,PE E (dK e) (r+1) l ((d,.dict [])::L) u)(h2:∀d,PE E (dV e) (r+1) l ((d,.dict [])::L) v)(hu:bO 7 u=ai)(h:∀d,Q (.ref d) ((d,.dict [(u,v)])::L))(he:aB (e=.Dict [af (dK e)] [dV e] e.pos) tR):EV E e (r+1) Q l L:=λX w a st R=>by exact he▸(Xg λd hd=>(h1 d X w a _ (R.new _ hd)).mono λu' aQ z=>by clear h1;obtain⟨M1,R1,rfl,hM⟩:=z;subst hM;exact(h2 d X w a _ R1).mono λv' bP z=>by clear h2;obtain⟨M2,R2,rfl,hM⟩:=z;subst hM;exact⟨R2.head,hu,_,R2.put 0,h d⟩)
def EV.Ca(h:EV (.fn sd fa) (g1 e).iter r (cT (.jP e sd fa) (g1 e).target (g1 e).ifs r [] (PN (.jP e sd fa) (e1 e) (g2 e).target (g2 e).iter (g2 e).ifs r) (sC Q) (l.cut (jO e))) l L)(he:aB (MM e) tR)(ok:aB (wM sd fa e) tE)(hf:aB (nf (g1 e).iter) tG)(hg:aB (nf (g2 e).iter) tG):EV (.fn sd fa) e r Q l L:=by intro X w a st R;exact he▸(VY (pos:=e.pos) (cT.top (a:=a) (N':=gU Q) (emb:=aV.list) (Put':=λenv=>we pw w (KW w) r env (e1 e) (g2 e).target (g2 e).iter (g2 e).ifs) h R (λa=>PN.go) λy st L R h b hb=>⟨_,R.new _ hb,h b⟩) (ok a) (hf _) λC=>hg _)
abbrev MV(s:cG):Prop:=s=.Assign [.Name (nm (tg s)) (tg s).pos] (sv s) (sp s)
abbrev MW(sd:cG)(fa:aa)(s:cG):Prop:=∀a,qd (sv s) (af (.Name (nm (tg s)) (tg s).pos)) (sp s).line ((EF.fn sd fa).env a)=pure ai
def W1.Ca(h:EV (.fn sd fa) (g1 (sv s)).iter r (cT (.jP (sv s) sd fa) (g1 (sv s)).target (g1 (sv s)).ifs r [] (PN (.jP (sv s) sd fa) (e1 (sv s)) (g2 (sv s)).target (g2 (sv s)).iter (g2 (sv s)).ifs r) (sC (B6 l N (nm (tg s)))) (l.cut (jO (sv s)))) l L)(hs:aB (MV s) tR)(he:aB (MM (sv s)) tR)(ok:aB (wM sd fa (sv s)) tE)(hf:aB (nf (g1 (sv s)).iter) tG)(hg:aB (nf (g2 (sv s)).iter) tG)(hk:aB ((EF.fn sd fa).own (nm (tg s))=ai) tT)(hw:aB (MW sd fa s) tE):W1 (.fn sd fa) s r R N l L:=by intro X w a st Rp;exact hs▸(he▸(VZ (R:=gU R) (pos:=(sv s).pos) (pos':=(tg s).pos) (pos2:=sp s) (x:=nm (tg s)) (N:=mB N) (cT.top (a:=a) (N':=λv st=>mB N (Loc.up l.get (nm (tg s)) v) st) (emb:=aV.list) (Put':=λenv=>we pw w (KW w) r env (e1 (sv s)) (g2 (sv s)).target (g2 (sv s)).iter (g2 (sv s)).ifs) h Rp (λa=>PN.go) λy st L R h b hb=>Gn R (h b) hb) (ok a) (EF.qF hk a).1 (he▸hw a) (hf _) λC=>hg _))
def W1.Cb(h:EV (.fn sd fa) (g1 (sv s)).iter (r+1) (cT (.jP (sv s) sd fa) (g1 (sv s)).target (g1 (sv s)).ifs (r+1) [] (PD (.jP (sv s) sd fa) (e1 (sv s)) (e2 (sv s)) (r+1)) (newD (B6 l N (nm (tg s)))) (l.cut (jO (sv s)))) l L)(hs:aB (MV s) tR)(he:aB (dc (sv s)) tR)(ok:aB (wM sd fa (sv s)) tE)(hf:aB (nf (g1 (sv s)).iter) tG)(hk:aB ((EF.fn sd fa).own (nm (tg s))=ai) tT)(hw:aB (MW sd fa s) tE):W1 (.fn sd fa) s (r+1) R N l L:=by intro X w a st Rp;exact hs▸(he▸(V1 (R:=gU R) (pos:=(sv s).pos) (pos':=(tg s).pos) (pos2:=sp s) (x:=nm (tg s)) (N:=mB N) (cT.top (a:=a) (N':=λv st=>mB N (Loc.up l.get (nm (tg s)) v) st) (emb:=aV.dict) (Put':=λenv=>wd pw w (KW w) (r+1) env (e1 (sv s)) (e2 (sv s))) h Rp (λa=>PD.go) λy st L R h b hb=>Gn R (h b) hb) (ok a) (EF.qF hk a).1 (he▸hw a) (hf _)))
end
end
section
def Loc.Z3:∀(ns:ag aI)(vs:ag V){l l':Loc},Loc.le l l'->Loc.le (Loc.ups l ns vs) (Loc.ups l' ns vs):=by
 intro ns;induction ns with
  |nil=>intro vs l l' h;exact h|cons n ns ih=>
   intro vs l l' h;induction vs using b7 with
    |nil=>exact h|cons v vs=>
     refine ih vs λx u e=>?_;have e:(if x=n then af v else l x)=af u:=e;refine(?_:(if x=n then af v else l' x)=af u);split at e;·next q=>rw[a0 q];exact e
     ·next q=>rw[aX q];exact h x u e
inductive yK(L:Cells):ag V->ag V->ag V->(Cells->Prop)->Prop|uu{us ws:ag V}:yK L [.tup us,.tup ws] us ws (λu=>iD)|lists{a b:aa}{us ws:ag V}:(a,aV.list us)∈L->(b,aV.list ws)∈L->us.length<=16777216->yK L [.ref a,.ref b] us ws (λL'=>(a,aV.list us)∈L'/\(b,aV.list ws)∈L')
def yK.go{st:aE}(h:yK L vs us ws G)(R:Rep st L):∃D,BK st vs us ws D/\∀L' ak,Rep ak L'->G L'->D ak:=by induction h with|uu=>exact(aA _ .uu (λu u u u=>cZ))|lists h1 h2 h3=>exact(aA _ (.lists (R.has _ h1) (R.has _ h2) h3) (λL' ak R' q=>⟨R'.has _ q.1,R'.has _ q.2⟩))
inductive MX(E:EF)(s:cG)(r:aa)(R:V->Cells->Prop)(N:Lc->Cells->Prop)(l:Lc)(ns:ag aI)(vs:ag V)(L:Cells):Prop|mk{β:Type}{us ws:ag V}{G:Cells->Prop}(S:β->Lc)(T:β->Cells)(ok:ag (V×V)->β->Prop)(b0:β):yK L vs us ws G->us.length=ws.length->ok (us.zip ws) b0->(S b0).In l->T b0=L->(∀u v rest b,ok ((u,v)::rest) b->G (T b)/\WS E (b1 s) r R (λl2 L2=>∃b',l2=S b'/\L2=T b'/\ok rest b') ((S b).mA ns [u,v]) (T b))->(∀b,ok [] b->G (T b)/\N (S b) (T b))->MX E s r R N l ns vs L
def W1.zip(ns:ag aI)(h:AV E (es (sv s)) r (MX E s r R N l ns) l L)(ot:aB (tg s=.Tuple (es (tg s)) (kk (tg s)) (tg s).pos) tR)(hs:aB (s=.For (tg s) (sv s) (b1 s) [] (sp s)) tR)(mj:aB (∀a,namesOf (E.env a) (es (tg s))=af ns) tE)(ht:aB ((es (tg s)).length=2) tR)(hn:aB (∀P,hH (KK P) fw (nm (e1 (sv s)))=af ah) tE)(hb:aB (vM (nm (e1 (sv s)))=af (.type "zip")) tR)(hx:aB ((E.glob (nm (e1 (sv s)))&&nm (e1 (sv s))!="__name__")=ai) tT)(he:aB (e1 (sv s)=.Name (nm (e1 (sv s))) (e1 (sv s)).pos) tR)(hc:aB (∀env,bc (sv s) env=wK (e1 (sv s)) (sv s).pos (es (sv s)) env) tE)(hf:aB (∀env x,ji (sv s) env x=pure x) tG):W1 E s r R N l L:=by
 intro X w a st Rp;obtain⟨hx,hy⟩:=bM.mp hx;have z:=h X w a st Rp;have zz:=XK (prog:=pw) (w:=w) (K:=KW w) (r:=r) (env:=E.env a) (loc:=l.get) (st:=st) (N:=mB N) (R:=gU R) (pos:=sp s) (body:=b1 s) (ns:=ns) (ts:=es (tg s)) (x1:=kk (tg s)) (tpos:=(tg s).pos) (ce:=sv s) (t:=jQ (es (sv s)) (E.env a)) (hn _) hb (bne_iff_ne.mp hy) (λA P s' ao g F=>cC (z A P s' ao g F) (λxs s1 z=>by
  obtain⟨vs,bP,x,y,L2,R2,z⟩:=z;obtain⟨S,T,ok,b0,zc,hl,h0,me,hL,jI,fin⟩:=z;refine aq (zc.go R2) λD zs keep=>?_;refine⟨vs,bP,x,y,_,_,D,zs,hl,λrest l ak=>∃b,Loc.le (S b).get l/\Rep ak (T b)/\ok rest b,(bH b0 me.le (hL▸R2) h0),λX' u v rest l' ak z=>?_,λl' ak z=>?_⟩;·refine bL z λb le Rb hb=>?_;refine bx (jI u v rest b hb) λg body=>?_;refine⟨keep _ _ Rb g,λA P t ao gd F=>?_⟩;exact WF.Gm (body X' w a ak Rb) (λl2 bP z=>by obtain⟨m,L2,q,p2,b',rfl,rfl,lI⟩:=z;exact(aA _ q (bH b' .refl p2 lI))) A P t ao gd (F.less (Lc.uA (l:=S b) ns [u,v] (S b)▸Loc.Z3 ns [u,v] le))
  ·refine bL z λb le Rb hb=>?_;refine bx (fin b hb) λg n=>?_;exact⟨keep _ _ Rb g,S b,_,le,Rb,n⟩) λo o x=>x) (mj a) ht (EF.oh hx a).1 (EF.oh hx a).2 ((hc (E.env a)).trans (aO (λx=>wK x (sv s).pos (es (sv s)) (E.env a)) he)) BZ B2 (hf _);exact hs▸(ot▸zz)
end
section
noncomputable def Z4(K:cJ)(C:aa)(name:aI):bw:=Jj K C name&&Jd K C&&(match th K (.ref C) name with|af a=>noGet K a|ah=>aD)
def ey.of{K:cJ}(h:Z4 K C name=ai):ey K C name:=by refine bx (bM.mp h) λh h3=>?_;obtain⟨h1,h2⟩:=bM.mp h;refine⟨h1,h2,?_⟩;cases q:th K (.ref C) name with|none=>rw[q]at h3;contradiction|some a=>rw[q]at h3;exact(aA a rfl h3)
noncomputable def Z5(K:cJ)(C:aa)(name:aI)(f:aa):bw:=Jj K C name&&th K (.ref C) name==af (af (.ref f))&&isFn K (.ref f)&&lX K (.ref f)
def dN.of{K:cJ}(h:Z5 K C name f=ai):dN K C name f:=by refine bx (bM.mp h) λh h4=>?_;obtain⟨h,h3⟩:=bM.mp h;obtain⟨h1,h2⟩:=bM.mp h;exact⟨h1,beq_iff_eq.mp h2,h3,h4⟩
def vl(n:aa)(f:aa->aa):ag V:=(bS n).map λi=>nv (f i)
def wQ{a b c:aa}(h:a=b)(k:b<c):a<c:=h▸k
def sI{a b c:aa}(h:a=b)(k:b<=c):a<=c:=h▸k
def uD:(vl n f).length=n:=by rw[vl,aN,iR]
def Cc(h:n<=m):(vl n f).length<=m:=uD.symm▸h
def Gz(h:i<n):(vl n f)[i]?=af (nv (f i)):=by simp only[vl,jh,Ad h];rfl
set_option genSizeOf false in set_option genInjectivity false in structure UA where
 (a dx up bX mg:aa)
 ls:aa->aa
def ix(U:UA)(n:aa)(up:aa->aa)(bX:aa->ag V)(mg:ag V):Cells:=(U.a,.inst 371 U.dx)::(U.dx,.attrs [("above",.ref U.up),("lots",.ref U.bX),("merged",.ref U.mg)])::(U.up,.list (vl n up))::(U.bX,.list ((bS n).map λi=>V.ref (U.ls i)))::(U.mg,.list mg)::(bS n).map λi=>(U.ls i,.list (bX i))
def qH(P:bh):ey (KK P) 371 "above":=.of (by kernel_rfl)
def yL(P:bh):ey (KK P) 371 "lots":=.of (by kernel_rfl)
def Z6(P:bh):ey (KK P) 371 "merged":=.of (by kernel_rfl)
def Cd(P:bh):dN (KK P) 371 "find" 328:=.of (by kernel_rfl)
structure yM(n:aa)(up rt:aa->aa):Prop where
 le:∀i,i<n->up i<=i
 top:∀i,i<n->up i=i->rt i=i
 step:∀i,i<n->rt i=rt (up i)
noncomputable def yN(f:aa)(P:bh):=((KK P).lookup f,(PF f P).body,(PF f P).scope,(PF f P).closure,(PF f P).globals,(PF f P).builtins,codeIn (KK P) (PF f P).code (PF f P).qualname)
noncomputable def yO(f:aa)(s:cG)(P:bh):=(af (⟨.type "function",ah,.func (PF f P),#[]⟩:cY),FuncBody.stmts (b1 s),nu s,([]:ag (aI×aa)),fw,AB,ai)
section
variable{f:aa}{s:cG}{n1 n2 n3 n4 n5:aI}
def FnAt.of{ns:ag aI}(h:∀P,yN f P=yO f s P)(k:∀P(xs:ag aF),xs.length=ns.length->kG (PF f P) ⟨xs,[]⟩=pure (ns.zip xs))(o:wL s ns=ai):FnAt f s ns:=⟨λP=>aO (·.1) (h P),λP=>⟨aO (·.2.1) (h P),aO (·.2.2.1) (h P),aO (·.2.2.2.1) (h P),aO (·.2.2.2.2.1) (h P),aO (·.2.2.2.2.2.1) (h P)⟩,λP=>aO (·.2.2.2.2.2.2) (h P),k,o⟩
def FnAt.eI(h:aB (∀P,yN f P=yO f s P) tK)(k:aB (∀P x,kG (PF f P) ⟨[x],[]⟩=pure [(n1,x)]) tN)(o:aB (wL s [n1]=ai) tV):FnAt f s [n1]:=.of h (λP=>bind1 (k P)) o
def FnAt.of2(h:aB (∀P,yN f P=yO f s P) tK)(k:aB (∀P x y,kG (PF f P) ⟨[x,y],[]⟩=pure [(n1,x),(n2,y)]) tN)(o:aB (wL s [n1,n2]=ai) tV):FnAt f s [n1,n2]:=.of h (λP=>ZJ (k P)) o
def FnAt.pF(h:aB (∀P,yN f P=yO f s P) tK)(k:aB (∀P x y z,kG (PF f P) ⟨[x,y,z],[]⟩=pure [(n1,x),(n2,y),(n3,z)]) tN)(o:aB (wL s [n1,n2,n3]=ai) tV):FnAt f s [n1,n2,n3]:=.of h (λP=>ZK (k P)) o
def FnAt.Ce(h:aB (∀P,yN f P=yO f s P) tK)(k:aB (∀P x y z u,kG (PF f P) ⟨[x,y,z,u],[]⟩=pure [(n1,x),(n2,y),(n3,z),(n4,u)]) tN)(o:aB (wL s [n1,n2,n3,n4]=ai) tV):FnAt f s [n1,n2,n3,n4]:=.of h (λP=>ZL (k P)) o
end
def Z7:FnAt 314 (sB 16 1) ["self"]:=.eI
def Z8:FnAt 321 (sB 16 2) ["self"]:=.eI
def Z9:FnAt 328 (sB 16 3) ["self","a"]:=.of2
def Z':FnAt 335 (sB 16 4) ["self","a","b"]:=.pF
def aaa:FnAt 342 (sB 16 5) ["self","a"]:=.of2
def aab:FnAt 347 (sB 16 6) ["self"]:=.eI
noncomputable def upd{α:Type}(f:aa->α)(n:aa)(x:α):aa->α:=λi=>if i=n then x else f i
def dH{f:aa->α}{x:α}:upd f n x n=x:=a0 rfl
def eZ{f:aa->α}{x:α}(h:i≠n):upd f n x i=f i:=aX h
def uE{α:Type}{g g':aa->α}{x:α}(h1:∀i,i<n->g' i=g i)(h2:g' n=x):(bS n).map g++[x]=(bS (n+1)).map g':=by rw[IC,cy,jk,h2,gL λi hi=>h1 i (dT.mp hi)];rfl
def MY{α:Type}{g g':aa->α}{x:α}(h1:∀i,i≠k->g' i=g i)(h2:g' k=x):((bS n).map g).set k x=(bS n).map g':=by
 apply Dz;intro i;simp only[List.getElem?_set,aN,iR,jh];split;·
  next q=>
   subst q;split;·next q=>rw[Ad q,←h2];rfl
   ·next q=>rw[nD (by rw[iR];exact sZ q)];rfl
 ·next q=>cases h:(bS n)[i]? with|none=>rfl|some j=>obtain⟨hi,e⟩:=iQ.mp h;rw[Rq]at e;rw[←e];exact aO af (h1 i (nJ q)).symm
def aac{a b:aa}(hp:ms.Perm [a,b])(hs:ms.Pairwise (·<=·)):ms=[min a b,max a b]:=by
 have key:∀x y:aa,[x,y].Perm [a,b]->x<=y->[x,y]=[min a b,max a b]:=λx y hp kR=>by
  have hs:=hp.sum_nat;rcases cg.mp (hp.mem_iff.mp aR)with rfl|h;·obtain rfl:y=b:=(Nat.add_left_cancel hs);rw[agI kR,agz kR]
  ·obtain rfl:=bU.mp h;obtain rfl:y=a:=l3 0x2190b09290b19093 hs;rw[agy kR,agJ kR]
 induction ms using b7 with|nil=>exact by cases hp.length_eq|cons x l=>induction l using b7 with|nil=>exact by cases hp.length_eq|cons y l=>obtain rfl:l=[]:=vn (iC (iC hp.length_eq));exact key x y hp ((xu.mp hs).1 y aR)
section
variable{U:UA}{n a b k g:aa}{up rt:aa->aa}{bX:aa->ag V}{lt:aa->ag aa}{mg MZ:ag V}
def aad:(U.a,aV.inst 371 U.dx)::(U.dx,.attrs [("above",.ref U.up),("lots",.ref U.bX),("merged",.ref U.mg)])::(U.up,.list (vl n up++[nv n]))::(U.bX,.list (((bS n).map λi=>V.ref (U.ls i))++[V.ref b]))::(U.mg,.list mg)::(((bS n).map λi=>(U.ls i,aV.list (bX i)))++[(b,.list [nv n])])=ix {U with ls:=upd U.ls n b} (n+1) (upd up n n) (upd bX n [nv n]) mg:=by delta ix vl;simp only[uE (g':=λi=>nv (upd up n n i)) (λi hi=>aO nv (eZ (cV hi))) (aO nv dH),uE (g':=λi=>V.ref (upd U.ls n b i)) (λi hi=>aO V.ref (eZ (cV hi))) (aO V.ref dH),uE (g':=λi=>(upd U.ls n b i,aV.list (upd bX n [nv n] i))) (λi hi=>by rw[eZ (cV hi),eZ (cV hi)]) (by rw[dH,dH])]
def aae:(U.a,aV.inst 371 U.dx)::(U.dx,.attrs [("above",.ref U.up),("lots",.ref U.bX),("merged",.ref U.mg)])::(U.up,.list ((vl n up).set g (nv k)))::(U.bX,.list ((bS n).map λi=>V.ref (U.ls i)))::(U.mg,.list MZ)::(((bS n).map λi=>(U.ls i,aV.list ((lt i).map nv))).set k (U.ls k,.list ((lt k).map nv++(lt g).map nv)))=ix U n (upd up g k) (λi=>(upd lt k (lt k++lt g) i).map nv) MZ:=by delta ix vl;rw[MY (g':=λi=>nv (upd up g k i)) (λi hi=>aO nv (eZ hi)) (aO nv dH),MY (g':=λi=>(U.ls i,aV.list ((upd lt k (lt k++lt g) i).map nv))) (λi hi=>by rw[eZ hi]) (by rw[dH,cy])]
def M0(hz:n<=16777216):i9 1 321 [.ref U.a] (nv n) (ix U n up bX mg):=Sp.intro Z8 (WS.ret (EV.bi (.builtin "len") kb (AV.p1 (PE.self 0 1 qH) (CP.len 2 uD hz))))
def Cf(R0:yM n up rt)(ha:a<n)(hz:n<=16777216):i9 1 328 [.ref U.a,nv a] (nv (rt a)) (ix U n up bX mg):=by
 refine Sp.intro Z9 (WS.cons (W1.loop (λb=>.cons "self" (.ref U.a) (.cons "a" (nv b) .nil)) (λu=>ix U n up bX mg) id (λb=>b<n/\rt b=rt a) a ⟨ha,rfl⟩ (λb h=>?_) rfl));refine TV.use (PT.cmp .NotEq (PE.item 2 (PE.self 0 1 qH) PE.name (Gz h.1) (Cc hz)) PE.name) ?_;by_cases q:up b=b;·rw[dS λz=>z q];exact WS.ret (EV.use PE.name ⟨aO nv ((R0.top b h.1 q).symm.trans h.2),rfl⟩)
 ·rw[c7 q];exact WS.cons (W1.set (EV.use (PE.item 2 (PE.self 0 1 qH) PE.name (Gz h.1) (Cc hz)) (WS.nil (rH (up b) rfl rfl ⟨br (R0.le b h.1) h.1,(R0.step b h.1).symm.trans h.2⟩ (Im (R0.le b h.1) q)))))
inductive M3(U:UA)(n:aa)(up:aa->aa)(bX:aa->ag V)(mg:ag V)(v:V)(L:Cells):Prop|mk(ls:aa->aa):v=nv n->L=ix {U with ls:=ls} (n+1) (upd up n n) (upd bX n [nv n]) mg->M3 U n up bX mg v L
def aaf(hz:n<16777216):Sp 1 314 [.ref U.a] (M3 U n up bX mg) (ix U n up bX mg):=by refine Sp.intro Z7 (WS.cons (W1.expr (EV.m (PE.self 0 1 qH) (Mt.list 2 lQ lJ) (AV.cons (EV.use (EV.bi (.builtin "len") kb (AV.p1 (PE.self 0 1 qH) (CP.len 2 uD (bF hz)))) (AV.nil (CV.append 2 ?_ (wQ uD hz))))))));refine WS.cons (W1.expr (EV.m (PE.self 0 1 yL) (Mt.list 3 lQ lJ) (AV.cons (EV.list (AV.p1 (EV.bi (.builtin "len") kb (AV.p1 (PE.self 0 1 yL) (CP.len 3 jS (bF hz)))) ⟨aL rfl,λb=>AV.nil (CV.append 4 ?_ (wQ jS hz))⟩)))));refine WS.perm (Q0 _ _).symm (WS.ret (EV.use (PE.sub (d:=1) (EV.bi (.builtin "len") kb (AV.p1 (PE.self 0 1 qH) (CP.len (m:=n+1) (us:=vl n up++[nv n]) 2 (by rw[bD,uD];rfl) hz))) (PE.nat 1) (rC n 1)) ⟨_,rfl,aad⟩))
end
end
section
def aag(h:i<n):i<(vl n f).length:=by rw[uD];exact h
inductive yP(U:UA)(n:aa)(up:aa->aa)(bX:aa->ag aa)(mg:ag V)(x y:aa)(v:V)(L:Cells):Prop|same:x=y->v=.none->L=ix U n up (λi=>(bX i).map nv) mg->yP U n up bX mg x y v L|two:x≠y->v=.tup [nv (min x y),nv (max x y)]->L=ix U n (upd up (max x y) (min x y)) (λi=>(upd bX (min x y) (bX (min x y)++bX (max x y)) i).map nv) (mg++[v])->yP U n up bX mg x y v L
section
variable{U:UA}{n a b:aa}{up rt:aa->aa}{bX:aa->ag aa}{mg:ag V}
def Cg{bX:aa->ag V}(hi:i<n):((bS n).map λi=>(U.ls i,aV.list (bX i)))[i]?=af (U.ls i,.list (bX i)):=by rw[jh,Ad hi];rfl
def Ci{l:Cells}(h:l[i]?=x):(c0::c1::c2::c3::c4::l)[i+5]?=x:=h
def aah(kn:k<n)(gn:g<n)(hz:n<=16777216)(hm:mg.length<16777216)(hl:(bX k).length+(bX g).length<=16777216)(h:R (.tup [nv k,nv g]) (ix U n (upd up g k) (λi=>(upd bX k (bX k++bX g) i).map nv) (mg++[.tup [nv k,nv g]]))):WS (.fn (sB 16 4) 335) (b1 (sB 16 4)).tail.tail 1 R N (Lc.of ["self","a","b","kept","gone"] [.ref U.a,ax,ay,nv k,nv g]) (ix U n up (λi=>(bX i).map nv) mg):=by refine WS.cons (W1.put (EV.use PE.name (EV.use (PE.self 0 1 qH) (EV.use PE.name (km.list 2 g rfl (aag gn) (Cc hz) ?_)))));refine WS.cons (W1.expr (EV.m (PE.item 3 (PE.self 0 1 yL) PE.name (sD (f:=λi=>V.ref (U.ls i)) kn) (sI jS hz)) (Mt.list (k+5) Dr B4 (Ci (Cg kn))) (AV.p1 (PE.item 3 (PE.self 0 1 yL) PE.name (sD (f:=λi=>V.ref (U.ls i)) gn) (sI jS hz)) (CV.extend (k+5) (g+5) ?_ (by rw[aN,aN];exact hl) (Ci (Cg kn)) (Ci (Cg gn))))));refine WS.cons (W1.expr (EV.m (PE.self 0 1 Z6) (Mt.list 4 lQ lJ) (AV.cons (EV.tuple (AV.p2 PE.name PE.name ⟨aL rfl,AV.nil (CV.append 4 ?_ hm)⟩)))));exact WS.ret (EV.tuple (AV.p2 PE.name PE.name ⟨aL rfl,aae (U:=U)▸h⟩))
def aai(R0:yM n up rt)(ha:a<n)(hb:b<n)(hz:n<=16777216)(hm:mg.length<16777216)(hl:(bX (min (rt a) (rt b))).length+(bX (max (rt a) (rt b))).length<=16777216)(hr:∀i,i<n->rt i<n):Sp 2 335 [.ref U.a,nv a,nv b] (yP U n up bX mg (rt a) (rt b)) (ix U n up (λi=>(bX i).map nv) mg):=by
 refine Sp.intro Z' (WS.cons (W1.ZP ["kept","gone"] (EV.bi (.builtin "sorted") kb (AV.cons (EV.list (AV.p2 (EV.m PE.name (Mt.inst 0 1 Cd) (AV.p1 PE.name (CV.at (Cf R0 ha hz)))) (EV.m PE.name (Mt.inst 0 1 Cd) (AV.p1 PE.name (CV.at (Cf R0 hb hz)))) ⟨aL rfl,λl=>AV.nil (CV.MN (xs:=[rt a,rt b]) 0 (by decide:2<64) λm ms hp hs=>?_)⟩))))));rw[aac hp hs];refine⟨0,rfl,rfl,WS.keep (M:=ix U n up (λi=>(bX i).map nv) mg) (G:=[_,_]) (b6 (l₁:=[_,_])) ?_⟩;by_cases e:rt a=rt b;·exact WS.cons (W1.jy (PT.cmp .Eq PE.name PE.name) (c7 (by rw[e,ahb,Nat.max_self])) (WS.ret (EV.use PE.nul (.same e rfl rfl))))
 ·exact WS.cons (W1.fF (PT.cmp .Eq PE.name PE.name) (dS (by lia)) (WS.nil (aah (br (IF ..) (hr a ha)) (Nat.max_lt.mpr ⟨hr a ha,hr b hb⟩) hz hm hl (R:=yP U n up bX mg (rt a) (rt b)) (yP.two e rfl rfl))))
inductive GA(X:Cells)(l:ag aa)(v:V)(L:Cells):Prop|mk(b:aa)(ms:ag aa):v=.ref b->ms.Perm l->ms.Pairwise (·<=·)->L=(b,.list (ms.map nv))::X->GA X l v L
inductive GB(X:Cells)(l:ag V)(v:V)(L:Cells):Prop|mk(b:aa):v=.ref b->L=(b,.list l)::X->GB X l v L
def aaj(R0:yM n up rt)(ha:a<n)(hz:n<=16777216)(hl:(bX (rt a)).length<64)(hr:rt a<n):Sp 2 342 [.ref U.a,nv a] (GA (ix U n up (λi=>(bX i).map nv) mg) (bX (rt a))) (ix U n up (λi=>(bX i).map nv) mg):=Sp.intro aaa (WS.ret (EV.bi (.builtin "sorted") kb (AV.p1 (PE.item 3 (PE.self 0 1 yL) (EV.m PE.name (Mt.inst 0 1 Cd) (AV.p1 PE.name (CV.at (Cf R0 ha hz)))) (sD (f:=λi=>V.ref (U.ls i)) hr) (sI jS hz)) (CV.MN (rt a+5) hl (λb ms hp hs=>⟨b,ms,rfl,hp,hs,rfl⟩) (Ci (Cg hr))))))
def aak{bX:aa->ag V}(hz:n<16777216):Sp 2 347 [.ref U.a] (GB (ix U n up bX mg) (((bS n).filter λi=>decide (up i=i)).map nv)) (ix U n up bX mg):=by refine Sp.intro aab (WS.ret (EV.drop (EV.comp (EV.bi (.type "range") kt (AV.p1 (EV.bi (.builtin "len") kb (AV.p1 (PE.self 0 1 qH) (CP.len 2 uD (bF hz)))) (CV.range (λb=>?_) (df hz (by decide))))))));exact cT.pure nv (λi=>decide (up i=i)) nv (.uC aR (df hz (by decide))) cZ (by exact iR▸hz) (.inl (d8 _ _ rfl)) (λi hi=>(bH _ (.name _ _ rfl rfl) (ia.one (PT.cmp .Eq (PE.item 3 (PE.self 1 2 qH) PE.name (Gz (dT.mp hi)) (Cc (bF hz))) PE.name)) (λu=>PE.name))) λa=>.mid (G:=[_]) ⟨a,rfl,rfl⟩
end
end
section
abbrev Node:=aI×ag aa
def cH(n:Node):V:=.tup (.str n.1::n.2.map nv)
def yQ(h:cH a=cH b):a=b:=by obtain⟨a1,a2⟩:=a;obtain⟨b1,b2⟩:=b;refine bx (cq (V.tup.inj h)) λh1 h2=>?_;exact jq (V.str.inj h1) ((List.map_inj_right λx y e=>Ap (V.int.inj e)).mp h2)
theorem M4:∀(l:ag aa)(n:aa),eU n (l.map nv)=ai|[],_=>rfl|_::l,n=>by induction n using jo<;>exact M4 l _
theorem M5:∀(l m:ag aa),rS (l.map nv) (m.map nv)=ai|[],_=>rfl|_::_,[]=>rfl|_::l,_::m=>M5 l m
def Cj(n:Node):bO 7 (cH n)=ai:=M4 n.2 6
def GC(a b:Node):fC (cH a) (cH b)=ai:=M5 a.2 b.2
def nums(n:aa)(nd:aa->Node):ag (V×V):=(bS n).map λi=>(cH (nd i),nv i)
def Ck:eM (nums n nd) (cH x):=⟨Cj x,λp hp=>by refine aq (bt.mp hp) λi u aC=>?_;rw[←aC];exact GC _ _⟩
def M6(h:∀i,i<n->nd i≠x):eY (nums n nd) (cH x)=ah:=rV.mpr λp hp e=>by refine aq (bt.mp hp) λi hi aC=>?_;clear hp;subst aC;exact h i (dT.mp hi) (yQ e)
def aam(h:∀i j,i<n->j<n->nd i=nd j->i=j)(hi:i<n):cj (nums n nd) (cH (nd i))=af (nv i):=by
 have e:(nums n nd)[i]?=af (cH (nd i),nv i):=by rw[jh,Ad hi];rfl
 rw[rU,Kj ?_ e];·rw[dQ];refine jX.mpr (afo (λ{a b}ha hb q z=>?_) Ak);exact q (h a b (dT.mp ha) (dT.mp hb) (yQ z))
 ·refine(?_:DM _ ((nums n nd)[i]?)=_);rw[e];rfl
set_option genSizeOf false in set_option genInjectivity false in structure BA where
 (a dx nodes nums ws ds:aa)
def gV(B:BA)(n:aa)(nd:aa->Node)(ws ds:aa->bp):Cells:=[(B.a,.inst 203 B.dx),(B.dx,.attrs [("nodes",.ref B.nodes),("numbers",.ref B.nums),("weights",.ref B.ws),("depths",.ref B.ds)]),(B.nodes,.list ((bS n).map λi=>cH (nd i))),(B.nums,.dict (nums n nd)),(B.ws,.list ((bS n).map λi=>V.int (ws i))),(B.ds,.list ((bS n).map λi=>V.int (ds i)))]
def uF(P:bh):ey (KK P) 203 "nodes":=.of (by kernel_rfl)
def Cm(P:bh):ey (KK P) 203 "numbers":=.of (by kernel_rfl)
def M7(P:bh):ey (KK P) 203 "weights":=.of (by kernel_rfl)
def M8(P:bh):ey (KK P) 203 "depths":=.of (by kernel_rfl)
def aan(P:bh):dN (KK P) 203 "require" 134:=.of (by kernel_rfl)
def M9(P:bh):dN (KK P) 203 "op" 160:=.of (by kernel_rfl)
def GD(P:bh):dN (KK P) 203 "kids" 167:=.of (by kernel_rfl)
def aao(h:∀i,i<n->nd i≠x):dt (nums n nd) (cH x) (nv n)=nums (n+1) (upd nd n x):=by delta dt;exact(M6 h)▸(uE (λi hi=>by rw[eZ (cV hi)]) (by rw[dH]))
def aap{Lk:Cells}:(B.a,aV.inst 203 B.dx)::(B.dx,.attrs [("nodes",.ref B.nodes),("numbers",.ref B.nums),("weights",.ref B.ws),("depths",.ref B.ds)])::(B.nodes,.list ((bS n).map (λi=>cH (nd i))++[cH x]))::(B.nums,.dict (nums (n+1) (upd nd n x)))::(B.ws,.list ((bS n).map (λi=>V.int (ws i))++[V.int a]))::(B.ds,.list ((bS n).map (λi=>V.int (ds i))++[V.int b]))::Lk=gV B (n+1) (upd nd n x) (upd ws n a) (upd ds n b)++Lk:=by simp only[uE (g':=λi=>cH (upd nd n x i)) (λi hi=>aO cH (eZ (cV hi))) (aO cH dH),uE (g':=λi=>V.int (upd ws n a i)) (λi hi=>aO V.int (eZ (cV hi))) (aO V.int dH),uE (g':=λi=>V.int (upd ds n b i)) (λi hi=>aO V.int (eZ (cV hi))) (aO V.int dH)];rfl
inductive Cn(B:BA)(n:aa)(nd:aa->Node)(ws ds:aa->bp)(Lk:Cells)(x:aI)(ks:ag aa)(v:V)(L:Cells):Prop|old(i:aa):i<n->nd i=(x,ks)->v=nv i->L=gV B n nd ws ds++Lk->Cn B n nd ws ds Lk x ks v L|new(ws' ds':aa->bp):(∀i,i<n->nd i≠(x,ks))->v=nv n->L=gV B (n+1) (upd nd n (x,ks)) ws' ds'++Lk->Cn B n nd ws ds Lk x ks v L
noncomputable def wR(x:aI):bw:=x.cps.all (·<128)&&decide (x≠"")&&x.cps.toList.all (λc=>!I3 ⟨#[c]⟩&&!IS "()[]{},:" ⟨#[c]⟩)&&(Sj x 0).isSome&&decide (Sz x 0≠"?")&&decide (x.cps.size<16777216)
def aaq:FnAt 79 (sA 6) ["text"]:=.eI
def aar:FnAt 122 (sB 11 1) ["self"]:=.eI
def aas:FnAt 127 (sB 11 2) ["self","op","kids"]:=.pF
def aat:FnAt 134 (sB 11 3) ["self","op"]:=.of2
def aau:FnAt 160 (sB 11 7) ["self","n"]:=.of2
def aav:FnAt 167 (sB 11 8) ["self","n"]:=.of2
section
variable{B:BA}{n i:aa}{nd:aa->Node}{ws ds:aa->bp}{x:aI}{a:aa}
def aaw(hz:n<=16777216):i9 1 122 [.ref B.a] (nv n) (gV B n nd ws ds):=Sp.intro aar (WS.ret (EV.bi (.builtin "len") kb (AV.p1 (PE.self 0 1 uF) (CP.len 2 jS hz))))
def Na(hz:n<=16777216)(hi:i<n)(hk:(nd i).2.length<16777216):i9 1 160 [.ref B.a,nv i] (.str (nd i).1) (gV B n nd ws ds):=Sp.intro aau (WS.ret (PE.oj (PE.item 2 (PE.self 0 1 uF) PE.name (sD (f:=λi=>cH (nd i)) hi) (sI jS hz)) (PE.nat 0) rfl (by rw[lU,aN];exact hk)))
def GF(hz:n<=16777216)(hi:i<n)(hk:(nd i).2.length<16777216):i9 1 167 [.ref B.a,nv i] (.tup ((nd i).2.map nv)) (gV B n nd ws ds):=Sp.intro aav (WS.ret (PE.tail (PE.item 2 (PE.self 0 1 uF) PE.name (sD (f:=λi=>cH (nd i)) hi) (sI jS hz)) (by rw[aN];exact hk)))
def aax:kH (.builtin "str.isspace")=pure (.type "method_descriptor"):=by rfl
structure oo(x:aI):Prop where
 asc:x.cps.all (·<128)=ai
 ne:x≠""
 ch:∀c∈x.cps.toList,I3 ⟨#[c]⟩=aD/\IS "()[]{},:" ⟨#[c]⟩=aD
 at0:(Sj x 0).isSome=ai
 it0:Sz x 0≠"?"
 sz:x.cps.size<16777216
def oo.of(h:wR x=ai):oo x:=by obtain⟨h,h6⟩:=bM.mp h;obtain⟨h,h5⟩:=bM.mp h;obtain⟨h,h4⟩:=bM.mp h;obtain⟨h,h3⟩:=bM.mp h;obtain⟨h1,h2⟩:=bM.mp h;refine⟨h1,gD h2,λc hc=>?_,h4,gD h5,gD h6⟩;obtain⟨a,b⟩:=bM.mp (f7.mp h3 c hc);exact⟨(p7 _).mp a,(p7 _).mp b⟩
def aay(h:oo x):i9 2 79 [.str x] (.bool ai) []:=by
 refine Sp.intro aaq (WS.ret (EV.ZY (PE.cast (PE.ZU PE.name PE.str) (aO V.bool (c7 h.ne))) (EV.drop (EV.cmp .Eq (EV.comp (EV.use PE.name (cT.pure (xs:=x.cps.toList) (λc=>V.str ⟨#[c]⟩) (λu=>aD) (λu=>.none) (.str h.asc) cZ h.sz (.inl (d8 _ _ rfl)) (λc hc=>?_) λa=>?_)))))));·obtain⟨q1,q2⟩:=h.ch c hc;exact(bH _ (.name _ _ rfl rfl) (ia.one (PT.Gy (PT.of (EV.m PE.name (Mt.str PySem.F.slot_str_isspace aax) (AV.p0 (q1▸CP.isspace)))) (PT.cast (PT.ZV PE.name PE.str) q2))) (λz=>by contradiction))
 ·rw[Q9.mpr λu u=>fH];exact EV.list (AV.p0 ⟨cF _,λb=>BV.ZT (us:=[]) 1 0 ⟨[],_,.refl _,rfl,rfl⟩⟩)
def aaz(h:oo x):i9 3 134 [.ref c,.str x] .none []:=Sp.intro aat (WS.cons (W1.fF (PT.Gy (PT.B9 (PT.of (EV.fn (AV.p1 PE.name (CV.at (aay h)))))) (PT.cast (PT.wO (PE.ZZ PE.name (PE.nat 0) h.at0 rfl) PE.str) (dS h.it0))) rfl (WS.nil (WS.nil ⟨rfl,rfl⟩))))
end
end
section
section
variable{B:BA}{n i:aa}{nd:aa->Node}{ws ds:aa->bp}{x:aI}{a:aa}{ks:ag aa}{kv:V}{Lk:Cells}
def GG(h:ks.length<m):(ks.map nv).length<m:=by rw[aN];exact h
def aaA(hz:n<1000000)(hl:ks.length<1000)(yR:∀k∈ks,k<n)(h:∀i,i<n->nd i≠(x,ks))(hR:∀v M,Cn B n nd ws ds Lk x ks v M->R v M):WS (.fn (sB 11 2) 127) (b1 (sB 11 2)).tail.tail.tail.tail 3 R N (.cons "self" (.ref B.a) (.cons "op" (.str x) (.cons "kids" kv (.cons "node" (cH (x,ks)) .nil)))) (gV B n nd ws ds++Lk):=by
 have nz:n<16777216:=df hz (by decide);have kz:(ks.map nv).length<16777216:=GG (df hl (by decide));refine WS.cons (W1.put (EV.use (EV.bi (.builtin "len") kb (AV.p1 (PE.self 0 1 uF) (CP.len 2 jS (bF nz)))) (EV.use (PE.self 0 1 Cm) (EV.use PE.name (km.dict 3 rfl Ck (by exact sI jS (bF nz)) rfl ?_)))));rw[aao h];refine WS.cons (W1.expr (EV.m (PE.self 0 1 uF) (Mt.list 2 lQ lJ) (AV.p1 PE.name (CV.append 2 ?_ (wQ jS nz)))));refine WS.cons (W1.expr (EV.m (PE.self 0 1 M7) (Mt.list 4 lQ lJ) (AV.cons (EV.bin .Add (EV.use (PE.nat 1) (EV.bi (.builtin "sum") kb (AV.cons (EV.comp ?_))))))));refine EV.use (PE.tail (us:=ks.map nv) PE.name kz) (cT.nums (λk=>V.int (ws k)) .tup cZ (df hl (by decide)) (λk hk=>PE.item 4 (PE.self 0 1 M7) PE.name (sD (f:=λi=>V.int (ws i)) (yR k hk)) (sI jS (bF nz))) λa=>AV.nil (CP.to (CP.sum 0 (ns:=ks.map ws) (by rw[dQ];rfl)) (BV.add (AV.nil (CV.append 5 ?_ (wQ jS nz))))));refine WS.cons (W1.expr (EV.m (PE.self 1 2 M8) (Mt.list 6 lQ lJ) (AV.cons (EV.bin .Add (EV.use (PE.nat 1) (EV.bi (.builtin "max") kb (AV.cons (EV.bin .Add (EV.comp ?_)))))))));refine EV.use (PE.tail (us:=ks.map nv) PE.name kz) (cT.nums (λk=>V.int (ds k)) .tup cZ (df hl (by decide)) (λk hk=>PE.item 6 (PE.self 1 2 M8) PE.name (sD (f:=λi=>V.int (ds i)) (yR k hk)) (sI jS (bF nz))) λb=>EV.list (AV.p1 (PE.nat 0) ⟨aL rfl,λc=>BV.pE 1 0 ?_ λd=>AV.nil (CV.max 0 (ns:=ks.map ds++[0]) ?_ (λm u u=>BV.add (AV.nil (CV.append 9 ?_ (wQ jS nz)))) ?_)⟩));·rw[aN];exact bG (Aa (bF hl) 1) (by decide)
 ·rw[bD];exact i8 _
 ·exact WS.ret (EV.drop (EV.use (PE.sub (d:=1) (EV.bi (.builtin "len") kb (AV.p1 (PE.self 4 5 uF) (CP.len (m:=n+1) (us:=(bS n).map (λi=>cH (nd i))++[cH (x,ks)]) 6 (by rw[bD,jS];rfl) nz))) (PE.nat 1) (rC n 1)) ⟨_,_,b6 (l₁:=[_,_,_,_]),hR _ _ (.new (upd ws n (1+(ks.map ws).sum)) (upd ds n (1+m)) h rfl aap)⟩))
 ·refine(?_:af (d,aV.list (ks.map (λk=>V.int (ds k))++[nv 0]))=_);rw[cy,dQ];rfl
def aaB(hz:n<1000000)(ho:oo x)(hk:KV (gV B n nd ws ds++Lk) ks kv)(hl:ks.length<1000)(yR:∀k∈ks,k<n)(hd:∀i j,i<n->j<n->nd i=nd j->i=j):Sp 4 127 [.ref B.a,.str x,kv] (Cn B n nd ws ds Lk x ks) (gV B n nd ws ds++Lk):=by
 refine Sp.eE aas λR hR=>(WS.cons (W1.set (EV.use (PE.yG (EV.tuple (AV.p1 PE.name ⟨aL rfl,rfl,rfl⟩)) (EV.bi (.type "tuple") kt (AV.p1 PE.name (CP.ZQ hk (bG (bF hl) (by decide))))) (by rw[aN];exact bG (vu (bF hl) 1) (by decide))) ?_)));by_cases h:∃i,i<n/\nd i=(x,ks);·refine aq h λi hi e=>?_;have Nb:=e▸aam hd hi;exact WS.cons (W1.jy (PT.inD 3 PE.name (PE.self 0 1 Cm) Ck (aO agw Nb)) rfl (WS.ret (EV.use (PE.sH 3 (PE.self 0 1 Cm) PE.name Ck Nb) (hR _ _ (.old i hi e rfl rfl)))))
 have h:=λi hi e=>h (aA i hi e);refine WS.cons (W1.fF (PT.inD 3 PE.name (PE.self 0 1 Cm) Ck (aO agw (qm.mpr (M6 h)))) rfl (WS.nil ?_));refine WS.cons (W1.expr (EV.m PE.name (Mt.inst 0 1 aan) (AV.p1 PE.name (CV.call (aaz ho) (.refl _) λv L z=>?_))));induction z with|mk z1 z2=>simp only[z2];refine WS.cons (W1.for (EV.use (PE.tail (us:=ks.map nv) PE.name (GG (df hl (by decide)))) ⟨.tup,λu:kK=>.cons "self" (.ref B.a) (.cons "op" (.str x) (.cons "kids" kv (.cons "node" (cH (x,ks)) .nil))),λu=>gV B n nd ws ds++Lk,λrest u=>∀v∈rest,∃k,v=nv k/\k<n,(),λv hv=>by refine aq (bt.mp hv) λk hk aC=>?_;exact aC▸((aA k rfl (yR k hk))),rfl,rfl,λv rest u z=>⟨cZ,?_⟩,λu u=>⟨cZ,aaA hz hl yR h hR⟩⟩) (.inl (d8 _ _ rfl)));refine aq (z v aR) λk bQ hk=>?_;exact bQ▸((aA _ (.name _ _ rfl rfl) (WS.cons (W1.fF (PT.B9 (PT.chain (PE.nat 0) PE.name (EV.bi (.builtin "len") kb (AV.p1 (PE.self 0 1 uF) (CP.len 2 jS (bF (df hz (by decide)))))) (cF _) hk)) rfl (WS.nil (WS.fin (bH (()) rfl rfl (λv hv=>z v (bK _ hv))) rfl))))))
end
end
section
set_option genSizeOf false in set_option genInjectivity false in structure HA where
 (a dx edges GH known above waiting:aa)
 B:BA
 U:UA
 ab:aa->aa
set_option genSizeOf false in set_option genInjectivity false in structure HG where
 n:aa
 nd:aa->Node
 (ws ds:aa->bp)
 (up rt:aa->aa)
 bX:aa->ag aa
 mg:ag V
 es:ag V
 fs:ag aa
 kn:ag (V×V)
 ks:ag aa
 abv:aa->ag aa
 wt:ag aa
def intD(ks:ag aa)(f:aa->V):ag (V×V):=ks.map λc=>(nv c,f c)
def wU(H:HA)(g:HG)(ae:ag (V×V)):Cells:=[(H.a,.inst 501 H.dx),(H.dx,.attrs [("bank",.ref H.B.a),("unions",.ref H.U.a),("edges",.ref H.edges),("forest",.ref H.GH),("known",.ref H.known),("above",.ref H.above),("waiting",.ref H.waiting)]),(H.edges,.list g.es),(H.GH,.list (g.fs.map nv)),(H.known,.dict g.kn),(H.above,.dict ae),(H.waiting,.list (g.wt.map nv))]
abbrev lK(H:HA)(g:HG):Cells:=wU H g (intD g.ks λc=>V.ref (H.ab c))
def lL(H:HA)(g:HG):Cells:=g.ks.map λc=>(H.ab c,aV.list ((g.abv c).map nv))
abbrev lM(H:HA)(g:HG):Cells:=ix H.U g.n g.up (λi=>(g.bX i).map nv) g.mg
abbrev oq(H:HA)(g:HG):Cells:=gV H.B g.n g.nd g.ws g.ds
def aJ(H:HA)(g:HG):Cells:=lK H g++(oq H g++(lM H g++lL H g))
def fj{A B C:Cells}:(A++(B++C)).Perm (B++(A++C)):=by rw[←bW,←bW];exact b6.append_right C
def wV:(aJ H g).Perm (oq H g++(lK H g++(lM H g++lL H g))):=fj
def qI:(aJ H g).Perm (lM H g++(lK H g++(oq H g++lL H g))):=(fj.append_left _).trans fj
def yS(P:bh):ey (KK P) 501 "bank":=.of (by kernel_rfl)
def uG(P:bh):ey (KK P) 501 "unions":=.of (by kernel_rfl)
def Co(P:bh):ey (KK P) 501 "edges":=.of (by kernel_rfl)
def Nc(P:bh):ey (KK P) 501 "forest":=.of (by kernel_rfl)
def Nf(P:bh):ey (KK P) 501 "known":=.of (by kernel_rfl)
def uH(P:bh):ey (KK P) 501 "above":=.of (by kernel_rfl)
def GI(P:bh):ey (KK P) 501 "waiting":=.of (by kernel_rfl)
def jA(P:bh):dN (KK P) 501 "find" 425:=.of (by kernel_rfl)
def aaC(P:bh):dN (KK P) 203 "size" 122:=.of (by kernel_rfl)
def Ng(P:bh):dN (KK P) 501 "node" 401:=.of (by kernel_rfl)
structure kZ(g:HG):Prop where
 small:g.n<100000
 root:yM g.n g.up g.rt
 eO:∀i,i<g.n->g.rt i<g.n
 kids:∀i,i<g.n->(g.nd i).2.length<1000/\∀k∈(g.nd i).2,k<i
def kZ.z(h:kZ g):g.n<=16777216:=bG (bF h.small) (by decide)
noncomputable def canon(g:HG)(m:aa):Node:=((g.nd m).1,(g.nd m).2.map g.rt)
def aaD:FnAt 396 (sB 18 1) ["self"]:=.eI
def aaE:FnAt 401 (sB 18 2) ["self","n"]:=.of2
def aaF:FnAt 425 (sB 18 6) ["self","n"]:=.of2
section
variable{H:HA}{g:HG}{a n:aa}
def yT(ok:kZ g):i9 2 396 [.ref H.a] (nv g.n) (aJ H g):=Sp.intro aaD (WS.ret (EV.m (PE.self 0 1 yS) (Mt.inst 7 8 aaC) (AV.p0 (CP.call (aaw ok.z) wV))))
def jB(ok:kZ g)(ha:a<g.n):i9 2 425 [.ref H.a,nv a] (nv (g.rt a)) (aJ H g):=Sp.intro aaF (WS.ret (EV.m (PE.self 0 1 uG) (Mt.inst 13 14 Cd) (AV.p1 PE.name (CP.call (Cf ok.root ha ok.z) qI))))
def Nh(ok:kZ g)(hn:n<g.n):i9 3 401 [.ref H.a,nv n] (cH (canon g n)) (aJ H g):=by refine bx (ok.kids n hn) λhl hk=>?_;have pj:(g.nd n).2.length<16777216:=df hl (by decide);refine Sp.intro aaE (WS.ret (EV.drop (EV.bin .Add (EV.use (EV.tuple (AV.p1 (EV.m (PE.self 0 1 yS) (Mt.inst 7 8 M9) (AV.p1 PE.name (CP.call (Na ok.z hn pj) wV))) ⟨aL rfl,rfl,rfl⟩)) (EV.bi (.type "tuple") kt (AV.cons (EV.comp ?_)))))));refine EV.use (EV.m (PE.self 0 1 yS) (Mt.inst 7 8 GD) (AV.p1 PE.name (CP.call (GF ok.z hn pj) wV))) (cT.nums (λk=>nv (g.rt k)) .tup cZ pj (λk eu=>EV.m PE.name (Mt.inst 0 1 jA) (AV.p1 PE.name (CV.at (jB ok (df (hk k eu) hn))))) λa=>AV.nil (CP.to (CP.wN 0 (by rw[aN];exact bF pj)) λX w env l st R=>Ey (by rw[aN];exact bG (vu (bF hl) 1) (by decide)) ⟨_,R,_,_,b6 (l₁:=[_]),?_,rfl⟩));exact aO (λl=>V.tup (V.str (g.nd n).1::l)) (show(g.nd n).2.map (λk=>nv (g.rt k))=((g.nd n).2.map g.rt).map nv by rw[dQ];rfl)
end
end
section
def HA.lN(H:HA)(c d:aa):HA:={H with ab:=upd H.ab c d}
def aaG(P:bh):dN (KK P) 371 "merge" 335:=.of (by kernel_rfl)
def HG.two(g:HG)(x y:aa)(e:V):HG:={g with up:=upd g.up y x,rt:=λi=>if g.rt i=y then x else g.rt i,bX:=upd g.bX x (g.bX x++g.bX y),mg:=g.mg++[.tup [nv x,nv y]],es:=g.es++[e],fs:=g.fs++[g.es.length],ks:=g.ks.erase y,abv:=upd g.abv x (g.abv x++g.abv y),wt:=g.wt++g.abv y}
structure Cp(g:HG)(a b:aa):Prop where
 ha:a<g.n
 hb:b<g.n
 he:g.es.length<1000000
 hm:g.mg.length<1000000
 hl:(g.bX (min (g.rt a) (g.rt b))).length+(g.bX (max (g.rt a) (g.rt b))).length<=16777216
 hf:g.fs.length<1000000
 hx:min (g.rt a) (g.rt b)∈g.ks
 hy:max (g.rt a) (g.rt b)∈g.ks
 hw:g.wt.length+(g.abv (max (g.rt a) (g.rt b))).length<=16777216
 kR:(g.abv (min (g.rt a) (g.rt b))).length+(g.abv (max (g.rt a) (g.rt b))).length<=16777216
 m7:g.ks.Nodup
 yU:g.ks.length<=16777216
inductive Cq(H:HA)(g:HG)(a b:aa)(e v:V)(L:Cells):Prop|same:g.rt a=g.rt b->v=.bool aD->L=aJ H {g with es:=g.es++[e]}->Cq H g a b e v L|two(c:aa):g.rt a≠g.rt b->v=.bool ai->L=aJ (H.lN (min (g.rt a) (g.rt b)) c) (g.two (min (g.rt a) (g.rt b)) (max (g.rt a) (g.rt b)) e)->Cq H g a b e v L
def pG:eM (intD ks f) (nv c):=⟨rfl,λp hp=>by refine aq (bt.mp hp) λi u aC=>?_;rw[←aC];rfl⟩
def uI(h:c∈ks):cj (intD ks f) (nv c)=af (f c):=by
 delta cj intD;induction ks with
  |nil=>cases h|cons k ks ih=>
   rw[jk,An];by_cases q:k=c;·rw[q];rw[c7 rfl];rfl
   ·rw[dS λz=>q (iw z)];exact ih ((cg.mp h).resolve_left λz=>q z.symm)
def GJ:eY (intD ks f) (nv c)=ks.findIdx? λk=>k==c:=by
 delta eY intD;rw[List.findIdx?_map];congr 1;funext k;refine(?_:decide (nv k=nv c)=(k==c));by_cases q:k=c;·subst q;rw[c7 rfl,jr]
 ·rw[dS λz=>q (iw z),beq_eq_false_iff_ne.mpr q]
theorem Ni{α β:Type}(f:α->β):∀(l:ag α)(i:aa),(l.map f).eraseIdx i=(l.eraseIdx i).map f|[],_=>rfl|_::_,0=>rfl|x::l,i+1=>aO (f x::·) (Ni f l i)
def aaH:rT (intD ks f) (nv c)=intD (ks.erase c) f:=by delta rT;rw[GJ,List.erase_eq_eraseIdx];delta List.idxOf?;cases ks.findIdx? (λk=>k==c)with|none=>rfl|some i=>exact Ni _ ks i
def aaI(h:c∈ks)(nd:ks.Nodup)(h1:∀i,i≠c->f' i=f i)(h2:f' c=v):dt (intD ks f) (nv c) v=intD ks f':=by
 delta dt;rw[GJ];cases q:ks.findIdx? (λk=>k==c)with
  |none=>exact bA (H7.mp q c h) (by rw[jr];exact rA)|some i=>
   refine aq (QU.mp q) λhi e u=>?_;have e:=beq_iff_eq.mp e;delta intD;apply Dz;intro j;simp only[af5,jh];by_cases hj:i=j;·subst hj;rw[gy hi];refine(?_:af (if i=i then(nv ks[i],v)else _)=af (nv ks[i],f' ks[i]));rw[a0 rfl,e,h2]
   ·cases z:ks[j]? with|none=>rfl|some x=>obtain⟨j5,ex⟩:=iQ.mp z;have:x≠c:=λy=>hj ((List.getElem_inj nd).mp (e.trans (y.symm.trans ex.symm)));refine(?_:af (if i=j then _ else(nv x,f x))=af (nv x,f' x));rw[aX hj,h1 x this]
def Cr(h:c∈g.ks):(H.ab c,aV.list ((g.abv c).map nv))∈O++(B++(U++lL H g)):=bC _ (bC _ (bC _ (bt.mpr (aA c h rfl))))
def aaJ:kH (.builtin "dict.pop")=pure (.type "method_descriptor"):=by rfl
def aaK:(aJ H g).set 3 (H.GH,.list (g.fs.map nv++[nv x]))=aJ H {g with fs:=g.fs++[x]}:=by delta aJ lK wU;simp only[cy];rfl
def aaL:(aJ H g).set 6 (H.waiting,.list (g.wt.map nv++l.map nv))=aJ H {g with wt:=g.wt++l}:=by delta aJ lK wU;simp only[cy];rfl
def aaM(hk:k∈g.ks)(hy:y∈g.ks)(hky:k≠y)(nd:g.ks.Nodup)(e1:g'.ks=g.ks.erase y)(e2:g'.abv=upd g.abv k (g.abv k++g.abv y)):((d,aV.list ((g.abv k++g.abv y).map nv))::lL H g).Perm (lL (H.lN k d) g'++[(H.ab k,.list ((g.abv k).map nv)),(H.ab y,.list ((g.abv y).map nv))]):=by have p1:=vt ((z9 hky).mpr hk);have q1:=p1.map λc=>(upd H.ab k d c,aV.list ((upd g.abv k (g.abv k++g.abv y) c).map nv));rw[jk,dH,dH,gL (l:=(g.ks.erase y).erase k) (g:=λc=>(H.ab c,aV.list ((g.abv c).map nv))) λc hc=>by have:c≠k:=λz=>((nd.erase y).not_mem_erase) (z▸hc);rw[eZ this,eZ this]]at q1;rw[(by delta lL;rw[e1,e2];rfl:lL (H.lN k d) g'=(g.ks.erase y).map λc=>(upd H.ab k d c,aV.list ((upd g.abv k (g.abv k++g.abv y) c).map nv)))];refine(Ry _ ((((vt hy).trans (p1.cons y)).map λc=>(H.ab c,aV.list ((g.abv c).map nv))).trans (.swap ..))).trans (.trans ?_ (q1.symm.append_right _));exact .cons _ (b6 (l₁:=[_,_]))
def Nj{O B U A:Cells}:(x::(O++(B++(U++A)))).Perm (O++(B++(U++(x::A)))):=lT.symm.trans ((lT.symm.trans (lT.symm.append_left _)).append_left _)
def aaN{O B U A A' G:Cells}(q:(x::A).Perm (A'++G)):(x::(O++(B++(U++A)))).Perm ((O++(B++(U++A')))++G):=Nj.trans ((((q.append_left _).append_left _).append_left _).trans (.of_eq (by simp only[bW])))
def aaO:FnAt 439 (sB 18 8) ["self","a","b","reason"]:=.Ce
def aaP:FnAt 446 (sB 18 9) ["self","a","b","reason"]:=.Ce
section
variable{H:HA}{g:HG}{a b:aa}{rs:V}
def aaQ(hm:g.es.length<2000000)(hf:g.fs.length<1000000)(hx:k∈g.ks)(hy:y∈g.ks)(hw:g.wt.length+(g.abv y).length<=16777216)(kR:(g.abv k).length+(g.abv y).length<=16777216)(m7:g.ks.Nodup)(yU:g.ks.length<=16777216)(ky:k≠y)(eg:g'={g with fs:=g.fs++[g.es.length-1],wt:=g.wt++g.abv y,ks:=g.ks.erase y,abv:=upd g.abv k (g.abv k++g.abv y)})(he:0<g.es.length)(h:∀d,R (.bool ai) (aJ (H.lN k d) g')):WS (.fn (sB 18 9) 446) (b1 (sB 18 9)).tail.tail.tail 3 R N (.cons "self" (.ref H.a) (.cons "a" v0 (.cons "b" v1 (.cons "reason" v2 (.cons "merged" (.tup [nv k,nv y]) .nil))))) (aJ H g):=by refine WS.cons (W1.tup ["kept","gone"] (EV.use PE.name ⟨rfl,?_⟩));refine WS.cons (W1.expr (EV.m (PE.self 0 1 Nc) (Mt.list 3 lQ lJ) (AV.cons (EV.use (PE.sub (d:=1) (EV.bi (.builtin "len") kb (AV.p1 (PE.self 0 1 Co) (CP.len (us:=g.es) 2 rfl (bF (df hm (by decide)))))) (PE.nat 1) (by exact l2 7400394964 (fY (l1 28770482 he)):g.es.length=1+(g.es.length-1))) (AV.nil (CV.append 3 ?_ (GG (df hf (by decide)))))))));rw[aaK];obtain⟨i,hi⟩:=oP.mp (Cr (O:=lK H {g with fs:=g.fs++[g.es.length-1]}) (B:=oq H g) (U:=lM H g) (H:=H) hy);refine WS.cons (W1.expr (EV.m (PE.self 0 1 GI) (Mt.list 6 Dr B4) (AV.p1 (PE.sH 5 (PE.self 0 1 uH) PE.name (pG (f:=λc=>V.ref (H.ab c))) (uI (f:=λc=>V.ref (H.ab c)) hy)) (CV.extend 6 i ?_ (by rw[aN,aN];exact hw) rfl hi))));simp only[aaL];refine WS.cons (W1.put (EV.bin .Add (EV.use (PE.sH 5 (PE.self 0 1 uH) PE.name (pG (f:=λc=>V.ref (H.ab c))) (uI (f:=λc=>V.ref (H.ab c)) hx)) (EV.m (PE.self 0 1 uH) (Mt.dict 5 afM aaJ) (AV.p1 PE.name (CV.ZS 5 pG (by rw[aN];exact yU) (uI (f:=λc=>V.ref (H.ab c)) hy) ?_))))));rw[aaH];obtain⟨i,hi⟩:=oP.mp (Cr (O:=wU H {g with fs:=g.fs++[g.es.length-1],wt:=g.wt++g.abv y} (intD (g.ks.erase y) λc=>V.ref (H.ab c))) (B:=oq H g) (U:=lM H g) (H:=H) hx);refine dh (oP.mp (Cr (O:=wU H {g with fs:=g.fs++[g.es.length-1],wt:=g.wt++g.abv y} (intD (g.ks.erase y) λc=>V.ref (H.ab c))) (B:=oq H g) (U:=lM H g) (H:=H) hy)) λj hj=>?_;refine BV.pE i j (by rw[aN,aN];exact kR) (λd=>?_) hi hj;rw[show(g.abv k).map nv++(g.abv y).map nv=(g.abv k++g.abv y).map nv from cy.symm];refine EV.use (PE.self 1 2 uH) (EV.use PE.name (km.dict 6 rfl pG (by unfold intD;rw[aN];exact bG (List.length_erase_le ..) yU) rfl ?_));rw[aaI (f':=λc=>V.ref (upd H.ab k d c)) ((z9 ky).mpr hx) (m7.erase y) (λi hi=>aO V.ref (eZ hi)) (aO V.ref dH)];refine WS.ret (EV.drop (EV.use (PE.bool ai) ⟨aJ (H.lN k d) g',[(H.ab k,.list ((g.abv k).map nv)),(H.ab y,.list ((g.abv y).map nv))],?_,h d⟩));have q:=aaM (H:=H) (g':=g') (d:=d) hx hy ky m7 (by rw[eg]) (by rw[eg]);clear h;subst eg;exact aaN (O:=lK (H.lN k d) {g with fs:=g.fs++[g.es.length-1],wt:=g.wt++g.abv y,ks:=g.ks.erase y}) (B:=oq H g) (U:=lM H g) q
def Nk(ok:kZ g)(pre:Cp g a b):Sp 4 446 [.ref H.a,nv a,nv b,rs] (Cq H g a b (.tup [nv a,nv b,rs])) (aJ H g):=by
 obtain⟨ha,hb,he,hm,hl,hf,hx,hy,hw,kR,m7,yU⟩:=pre;refine Sp.eE aaP λR hR=>WS.cons (W1.expr (EV.m (PE.self 0 1 Co) (Mt.list 2 lQ lJ) (AV.cons (EV.tuple (AV.p3 PE.name PE.name PE.name ⟨aL rfl,AV.nil (CV.append 2 ?_ (df he (by decide)))⟩)))));refine WS.cons (W1.set (EV.m (PE.self 0 1 uG) (Mt.inst 13 14 aaG) (AV.p2 PE.name PE.name (CV.call (aai ok.root ha hb ok.z (df hm (by decide)) hl ok.eO) (qI (g:={g with es:=g.es++[.tup [nv a,nv b,rs]]})) λv L' hq=>?_))));rcases hq with⟨e,rfl,rfl⟩|⟨e,rfl,rfl⟩;·exact WS.perm (qI (g:={g with es:=g.es++[.tup [nv a,nv b,rs]]})).symm (WS.cons (W1.jy (PT.ZW PE.name) rfl (WS.ret (EV.use (PE.bool aD) (hR _ _ (.same e rfl rfl))))))
 ·generalize hk:min (g.rt a) (g.rt b)=k at*;generalize hg:max (g.rt a) (g.rt b)=y at*;refine WS.perm (qI (g:={g with es:=g.es++[.tup [nv a,nv b,rs]],up:=upd g.up y k,bX:=upd g.bX k (g.bX k++g.bX y),mg:=g.mg++[.tup [nv k,nv y]]})).symm (WS.cons (W1.fF (PT.ZX PE.name) rfl (WS.nil ?_)));have el:(g.es++[V.tup [nv a,nv b,rs]]).length=g.es.length+1:=bD;refine aaQ (wQ el ((br he (aL rfl)))) hf hx hy hw kR m7 yU (λz=>e (by lia)) rfl (by rw[el];exact i8 _) λd=>hR _ _ (.two d e rfl ?_);rw[hk,hg];rw[el];rfl
end
end
section
def GK(m n:aa):V:=.tup [nv m,nv n,.tup [.str "like"]]
inductive Cs(H:HA)(g:HG)(n:aa)(v:V)(L:Cells):Prop|seen(m:aa):cj g.kn (cH (canon g n))=af (nv m)->g.rt m=g.rt n->v=.none->L=aJ H g->Cs H g n v L|join(m c:aa):cj g.kn (cH (canon g n))=af (nv m)->g.rt m≠g.rt n->v=.none->L=aJ (H.lN (min (g.rt m) (g.rt n)) c) (g.two (min (g.rt m) (g.rt n)) (max (g.rt m) (g.rt n)) (GK m n))->Cs H g n v L|new:cj g.kn (cH (canon g n))=ah->v=.none->L=aJ H {g with kn:=g.kn++[(cH (canon g n),nv n)]}->Cs H g n v L
def yV:kH (.builtin "dict.setdefault")=pure (.type "method_descriptor"):=by rfl
def aaR:FnAt 418 (sB 18 5) ["self","n"]:=.of2
def aaS:FnAt 467 (sB 18 12) ["self"]:=.eI
def aaT:FnAt 474 (sB 18 13) ["self","c"]:=.of2
def aaU:FnAt 498 (sB 18 17) ["self","c"]:=.of2
def Nl(P:bh):dN (KK P) 501 "join" 446:=.of (by kernel_rfl)
def aaV(P:bh):dN (KK P) 371 "classes" 347:=.of (by kernel_rfl)
def aaW(P:bh):dN (KK P) 371 "members" 342:=.of (by kernel_rfl)
inductive Nm(X:Cells)(l:ag aa)(v:V)(L:Cells):Prop|mk(b:aa)(ms:ag aa):v=.ref b->B7 l ms->L=(b,.list (ms.map nv))::X->Nm X l v L
def uJ{a b:aa}(h:a=b):decide (a≠b)=aD:=dS λz=>z h
section
variable{H:HA}{g:HG}{a b c n:aa}{rs:V}{Lk:Cells}
def aaX(ok:kZ g)(pre:Cp g a b):Sp 5 439 [.ref H.a,nv a,nv b,rs] (Cq H g a b (.tup [nv a,nv b,rs])) (aJ H g):=Sp.intro aaO (WS.ret (EV.m PE.name (Mt.inst 0 1 Nl) (AV.p3 PE.name PE.name PE.name (CV.at (Nk ok pre)))))
def aaY(ok:kZ g)(hn:n<g.n)(kk:eM g.kn (cH (canon g n)))(hz:g.kn.length<=16777216)(hm:∀v,cj g.kn (cH (canon g n))=af v->∃m,v=nv m/\m<g.n/\(g.rt m≠g.rt n->Cp g m n)):Sp 6 418 [.ref H.a,nv n] (Cs H g n) (aJ H g):=by
 refine Sp.eE aaR λR hR=>WS.cons (W1.set (EV.m (PE.self 0 1 Nf) (Mt.dict 4 zW yV) (AV.p2 (EV.m PE.name (Mt.inst 0 1 Ng) (AV.p1 PE.name (CV.at (Nh ok hn)))) PE.name (CV.Gx 4 kk hz (λe=>?_) λv e=>?_))));·have Ct:kZ {g with kn:=g.kn++[(cH (canon g n),nv n)]}:=⟨ok.small,ok.root,ok.eO,ok.kids⟩;exact WS.cons (W1.fF (PT.cmp .NotEq (EV.m PE.name (Mt.inst 0 1 jA) (AV.p1 PE.name (CV.at (jB (H:=H) Ct hn)))) (EV.m PE.name (Mt.inst 0 1 jA) (AV.p1 PE.name (CV.at (jB (H:=H) Ct hn))))) (uJ rfl) (WS.nil (WS.nil (hR _ _ (.new e rfl rfl)))))
 ·refine bL (hm v e) λm bQ Nn pre=>?_;subst bQ;by_cases q:g.rt m=g.rt n;·exact WS.cons (W1.fF (PT.cmp .NotEq (EV.m PE.name (Mt.inst 0 1 jA) (AV.p1 PE.name (CV.at (jB ok Nn)))) (EV.m PE.name (Mt.inst 0 1 jA) (AV.p1 PE.name (CV.at (jB ok hn))))) (uJ q) (WS.nil (WS.nil (hR _ _ (.seen m e q rfl rfl)))))
  ·refine WS.cons (W1.jy (PT.cmp .NotEq (EV.m PE.name (Mt.inst 0 1 jA) (AV.p1 PE.name (CV.at (jB ok Nn)))) (EV.m PE.name (Mt.inst 0 1 jA) (AV.p1 PE.name (CV.at (jB ok hn))))) (c7 q) (WS.cons (W1.expr (EV.m PE.name (Mt.inst 0 1 Nl) (AV.p3 PE.name PE.name (PE.tuple1 PE.str) (CV.at ((Nk ok (pre q)).mono λv L hq=>?_)))))));induction hq with|same z _ _=>exact bA z q|two d _ _ z=>exact WS.nil (WS.nil (hR _ _ (.join m d e q rfl z)))
def aaZ(ok:kZ g)(hc:c<g.n)(hk:g.rt c∈g.ks)(hl:(g.abv (g.rt c)).length<63):Sp 4 498 [.ref H.a,nv c] (Nm (aJ H g) (g.abv (g.rt c))) (aJ H g):=by refine dh (oP.mp (Cr (O:=lK H g) (B:=oq H g) (U:=lM H g) (H:=H) hk)) λi hi=>?_;exact Sp.intro aaU (WS.ret (EV.drop (EV.bi (.builtin "sorted") kb (AV.cons (EV.bi (.type "set") kt (AV.p1 (PE.sH 5 (PE.self 0 1 uH) (EV.m PE.name (Mt.inst 0 1 jA) (AV.p1 PE.name (CV.at (jB ok hc)))) (pG (f:=λc=>V.ref (H.ab c))) (uI (f:=λc=>V.ref (H.ab c)) hk)) (CV.Gr i hl (λd us sn=>AV.nil (CV.Gs 0 sn (df hl (by decide)) λb ms hu=>.mid (G:=[_]) ⟨b,ms,rfl,hu,rfl⟩)) hi)))))))
def aa0(ok:kZ g):Sp 4 467 [.ref H.a] (GB (aJ H g) (((bS g.n).filter λi=>decide (g.up i=i)).map nv)) (aJ H g):=Sp.intro aaS (WS.ret (EV.drop (EV.m (PE.self 0 1 uG) (Mt.inst 13 14 aaV) (AV.p0 (CV.call (aak (df ok.small (by decide))) qI λv L z=>by obtain⟨b,rfl,rfl⟩:=z;exact⟨(b,_)::aJ H g,[],((qI.symm.cons _).trans (.of_eq (bN _).symm)),b,rfl,rfl⟩)))))
def aa1(ok:kZ g)(ha:a<g.n)(hl:(g.bX (g.rt a)).length<64):Sp 4 474 [.ref H.a,nv a] (GA (aJ H g) (g.bX (g.rt a))) (aJ H g):=Sp.intro aaT (WS.ret (EV.drop (EV.m (PE.self 0 1 uG) (Mt.inst 13 14 aaW) (AV.p1 PE.name (CV.call (aaj ok.root ha ok.z hl (ok.eO a ha)) qI λv L z=>by obtain⟨b,ms,rfl,hp,hs,rfl⟩:=z;exact⟨(b,_)::aJ H g,[],((qI.symm.cons _).trans (.of_eq (bN _).symm)),b,ms,rfl,hp,hs,rfl⟩)))))
end
end
section
def jT(a b:aa)(r:V):V:=.tup [nv a,nv b,r]
noncomputable def gv(ks:ag aa)(f:aa->ag aa):aa:=(ks.map λc=>(f c).length).sum
def wX(h:ks.Perm ls):gv ks f=gv ls f:=(h.map _).sum_nat
def yW:gv (c::ks) f=(f c).length+gv ks f:=vK
def Np(h:∀c∈ks,f c=g c):gv ks f=gv ks g:=aO ahw (gL λc hc=>aO xI (h c hc))
def aa2(h:c∈ks):(f c).length<=gv ks f:=by rw[wX (vt h),yW];exact dE ..
structure HI(g:HG)(T:aa)(ex:ag aa):Prop where
 small:g.n<1000
 told:T<100000
 root:yM g.n g.up g.rt
 wY:∀i,i<g.n->g.rt i<=i
 gX:∀i,i<g.n->g.rt (g.rt i)=g.rt i
 iy:∀i,i<g.n->(g.nd i).2.length<=2/\∀k∈(g.nd i).2,k<i
 dist:∀i j,i<g.n->j<g.n->g.nd i=g.nd j->i=j
 qJ:g.ks.Nodup
 mC:∀c,c∈g.ks↔c<g.n/\g.rt c=c
 qK:g.es.length+g.ks.length<=T+g.n
 uK:g.fs.length+g.ks.length=g.n
 GL:g.mg.length=g.fs.length
 uL:∀c∈g.ks,(g.bX c).Nodup/\∀m,m∈g.bX c↔m<g.n/\g.rt m=c
 yX:gv g.ks g.abv<=2*g.n
 uM:∀c∈g.ks,∀m∈g.abv c,m<g.n/\∃k∈(g.nd m).2,g.rt k=c
 yY:∀m,m<g.n->∀k∈(g.nd m).2,m∈g.abv (g.rt k)
 pH:∀m∈g.wt++ex,m<g.n
 uN:∀p∈g.kn,∃x m,p=(cH x,nv m)/\m<g.n/\(∀k∈x.2,k<g.n)/\canon g m=(x.1,x.2.map g.rt)
 qL:g.kn.length+(g.wt.length+ex.length)<=g.n+g.fs.length*(2*g.n)
 ko:∀m,m<g.n->m∈g.wt++ex\/∃m',cj g.kn (cH (canon g m))=af (nv m')/\g.rt m'=g.rt m
 uO:∀j∈g.fs,∃a b r,g.es[j]?=af (jT a b r)/\a<g.n
 yZ:∀i,i<g.n->g.rt i≠i->∃j∈g.fs,∃a b r,g.es[j]?=af (jT a b r)/\a<g.n/\g.rt a=g.rt i
section
variable{g:HG}{T:aa}{ex:ag aa}
def HI.ok(h:HI g T ex):kZ g:=⟨df h.small (by decide),h.root,λi hi=>br (h.wY i hi) hi,λi hi=>⟨br (h.iy i hi).1 (by decide),(h.iy i hi).2⟩⟩
def HI.eO(h:HI g T ex)(hi:i<g.n):g.rt i<g.n:=br (h.wY i hi) hi
def HI.kq(h:HI g T ex)(hi:i<g.n):g.rt i∈g.ks:=(h.mC _).mpr ⟨h.eO hi,h.gX i hi⟩
def HI.abs(h:HI g T ex)(hc:c∈g.ks):(g.abv c).length<=2*g.n:=bG (aa2 hc) h.yX
def HI.GN(h:HI g T ex)(hc:c∈g.ks):(g.bX c).length<=g.n:=by have:=sV (h.uL c hc).1 (l₂:=bS g.n) λm hm=>dT.mpr (((h.uL c hc).2 m).mp hm).1;rwa [iR]at this
def HI.GO(h:HI g T ex):g.kn.length+(g.wt.length+ex.length)<=2001000:=by have:=h.small;exact l5 0x1e88686a2190973e83a327d03a3e83c41439219091 h.qL (RT (by have:=h.uK;have:=h.small;exact l3 0x3e83a073e83a2221093 ‹_› this) (by have:=h.small;exact l1 0x7d03a021c73e83a02120 this):g.fs.length*(2*g.n)<=1000*2000) this
def HI.pre(h:HI g T ex)(ha:a<g.n)(hb:b<g.n):Cp g a b:=by
 have hx:min (g.rt a) (g.rt b)∈g.ks:=by
  rcases ahc (g.rt a) (g.rt b)with q|q;·rw[agI q];exact h.kq ha
  ·rw[agy q];exact h.kq hb
 have hy:max (g.rt a) (g.rt b)∈g.ks:=by
  rcases ahc (g.rt a) (g.rt b)with q|q;·rw[agz q];exact h.kq hb
  ·rw[agJ q];exact h.kq ha
 have s:=h.small;have h7:=h.uK;exact⟨ha,hb,l4 0xf42405a18186a05a3203921913e83a02 s h.qK h.told,l4 0xf42405a38133021933e83a02 s h7 h.GL,l3 0x10000007a21970210113e83a02120 s (h.GN hx) (h.GN hy),l3 0xf42405a18021933e83a02 s h7,hx,hy,l5 0x10000007a13971e88686a439291021c113e83a02120 s (h.abs hy) h.GO,l3 0x10000007a2197021c21021c113e83a02140 s (h.abs hx) (h.abs hy),h.qJ,l3 0x10000007a27021933e83a02 s h7⟩
def HI.mono(h:HI g T ex)(hT:T<=T')(hz:T'<100000):HI g T' ex:={h with told:=hz,qK:=bG h.qK (Aa hT _)}
def Nq(h:∀k∈(g.nd m).2,g.rt k≠y):canon (g.two x y e) m=canon g m:=jq rfl (gL λk hk=>aX (h k hk))
def HI.two (h : HI g T ex)   (hx : x ∈ g.ks) (hy : y ∈ g.ks) (kR : x < y) (ha : a < g.n) (nX : g.rt a = x ∨ g.rt a = y) : HI (g.two x y (jT a b r)) T ex := by
  refine bx ((h.mC x).mp hx) fun xn rx => ?_
  obtain ⟨yn, ry⟩ := (h.mC y).mp hy
  have ne := cV kR
  have Nr : (g.two x y (jT a b r)).rt x = x := (aX (fun z => ne (rx.symm.trans z))).trans rx
  have rn : ∀ {i}, g.rt i ≠ y → (g.two x y (jT a b r)).rt i = g.rt i := fun q => aX q
  have qM : ∀ {i}, g.rt i = y → (g.two x y (jT a b r)).rt i = x := fun q => a0 q
  have rc : ∀ {i j}, g.rt i = g.rt j → (g.two x y (jT a b r)).rt i = (g.two x y (jT a b r)).rt j := fun {i j} q => by show (if g.rt i = y then x else g.rt i) = if g.rt j = y then x else g.rt j; rw [q]
  have p1 := vt hy
  skip
  have p2 := vt ((z9 ne).mpr hx)
  have kl : g.ks.length = (g.ks.erase y).length + 1 := p1.length_eq
  have Nt := h.qJ.erase y
  have ra : (g.two x y (jT a b r)).rt a = x := by
    rcases nX with q | q
    · exact (rn fun z => ne (q.symm.trans z)).trans q
    · exact qM q
  have s1 : gv g.ks g.abv = (g.abv y).length + ((g.abv x).length + gv ((g.ks.erase y).erase x) g.abv) := by simp only [wX p1, wX p2, yW]
  have s2 : gv (g.ks.erase y) (upd g.abv x (g.abv x ++ g.abv y)) = (g.abv x).length + (g.abv y).length + gv ((g.ks.erase y).erase x) g.abv := by
    rw [wX p2, yW, dH, bD]
    exact aO _ (Np fun c hc => eZ fun z => Nt.not_mem_erase (z ▸ hc))
  refine ⟨h.small, h.told, ⟨fun i hi => ?_, fun i hi q => ?_, fun i hi => ?_⟩, fun i hi => ?_, fun i hi => ?_, h.iy, h.dist, Nt, fun c => ?_, ?_, ?_, ?_, fun c hc => ?_, ?_, fun c hc m hm => ?_, fun m hm k hk => ?_, fun m hm => ?_, fun p hp => ?_, ?_, fun m hm => ?_, fun j hj => ?_, fun i hi q => ?_⟩
  · show upd g.up y x i ≤ i
    delta upd; split
    · next z => rw [z]; exact bF kR
    · exact h.root.le i hi
  · have q : upd g.up y x i = i := q
    delta upd at q; split at q
    · next z => exact bA (q.trans z) ne
    · next z => exact (rn fun w => z ((h.root.top i hi q).symm.trans w)).trans (h.root.top i hi q)
  · show _ = (g.two x y (jT a b r)).rt (upd g.up y x i)
    delta upd; split
    · next z => rw [Nr, z]; exact qM ry
    · exact rc (h.root.step i hi)
  · show (if g.rt i = y then x else g.rt i) ≤ i
    have := h.wY i hi
    split
    · next z => exact bG (bF kR) (z ▸ this)
    · exact this
  · by_cases q : g.rt i = y
    · rw [qM q, Nr]
    · rw [rn q]; exact rc (h.gX i hi) |>.trans (rn q)
  · refine h.qJ.mem_erase_iff.trans ⟨fun  zf => bx zf fun q hc => ?_, fun  zf => bx zf fun hc q => ?_⟩
    · obtain ⟨z1, z2⟩ := (h.mC c).mp hc
      exact ⟨z1, (rn (z2.symm ▸ q)).trans z2⟩
    · by_cases z : g.rt c = y
      · rw [qM z] at q; exact bA (rx.symm.trans (q ▸ z)) ne
      · rw [rn z] at q
        exact ⟨fun w => z (by rw [w]; exact ry), (h.mC c).mpr ⟨hc, q⟩⟩
  · have := h.qK
    refine (?_ : (g.es ++ [_]).length + (g.ks.erase y).length ≤ T + g.n)
    rw [bD]; exact l5 0x43912d9743902911d04 kl this
  · have := h.uK
    refine (?_ : (g.fs ++ [_]).length + (g.ks.erase y).length = g.n)
    rw [bD]; exact l4 0x312d99302931d04 kl this
  · have := h.GL
    refine (?_ : (g.mg ++ [_]).length = (g.fs ++ [_]).length)
    simp only [bD, this]; rfl
  · obtain ⟨q1, q2⟩ := h.qJ.mem_erase_iff.mp hc
    refine (?_ : (upd g.bX x _ c).Nodup ∧ ∀ m, m ∈ upd g.bX x _ c ↔ _)
    by_cases q : c = x
    · rw [q, dH]
      refine bx (h.uL x hx) fun l1 l2 => ?_
      refine bx (h.uL y hy) fun m1 m2 => ?_
      refine ⟨gA.mpr (cM l1 m1 (fun u hu v hv e => ?_)), fun m => ?_⟩
      · exact ne (((l2 u).mp hu).2.symm.trans (e ▸ ((m2 v).mp hv).2))
      · rw [cw, l2, m2]
        by_cases w : g.rt m = y
        · exact ⟨fun z => ⟨z.elim And.left And.left, qM w⟩, fun z => .inr ⟨z.1, w⟩⟩
        · exact ⟨fun z => z.elim (fun z => ⟨z.1, (rn w).trans z.2⟩) fun z => bA z.2 w, fun z => .inl ⟨z.1, (rn w).symm.trans z.2⟩⟩
    · rw [eZ q]
      refine bx (h.uL c q2) fun l1 l2 => ?_
      refine ⟨l1, fun m => (l2 m).trans (ahA fun _ => ?_)⟩
      by_cases w : g.rt m = y
      · rw [qM w]; exact ⟨fun z => bA (z.symm.trans w) q1, fun z => bA z.symm q⟩
      · rw [rn w]
  · refine (?_ : gv (g.ks.erase y) (upd g.abv x (g.abv x ++ g.abv y)) ≤ 2 * g.n)
    have := h.yX
    exact l6 0x521c47521c0131299433291904 s1 s2 this
  · obtain ⟨q1, q2⟩ := h.qJ.mem_erase_iff.mp hc
    have hm : m ∈ upd g.abv x (g.abv x ++ g.abv y) c := hm
    by_cases q : c = x
    · rw [q, dH] at hm
      rcases cw.mp hm with hm | hm
      · obtain ⟨z1, k, z2, z3⟩ := h.uM x hx m hm
        exact ⟨z1, k, z2, (rn fun w => ne (z3.symm.trans w)).trans (z3.trans q.symm)⟩
      · obtain ⟨z1, k, z2, z3⟩ := h.uM y hy m hm
        exact ⟨z1, k, z2, (qM z3).trans q.symm⟩
    · rw [eZ q] at hm
      refine bx (h.uM c q2 m hm) fun z1 bg => aq bg fun k z2 z3 => ?_
      exact ⟨z1, k, z2, (rn fun w => q1 (z3.symm.trans w)).trans z3⟩
  · have z := h.yY m hm k hk
    refine (?_ : m ∈ upd g.abv x (g.abv x ++ g.abv y) _)
    by_cases q : g.rt k = y
    · rw [qM q, dH]; exact bC _ (q ▸ z)
    · rw [rn q]
      by_cases w : g.rt k = x
      · rw [w, dH]; exact de _ (w ▸ z)
      · rw [eZ w]; exact z
  · rcases cw.mp hm with hm | hm
    · rcases cw.mp (show m ∈ g.wt ++ g.abv y from hm) with hm | hm
      · exact h.pH m (de _ hm)
      · exact (h.uM y hy m hm).1
    · exact h.pH m (bC _ hm)
  · refine fV (h.uN p hp) fun z m e hm hz q => ?_
    refine (rI z m e hm hz (jq (aO (fun t : Node => t.1) q :) ?_))
    have q : (g.nd m).2.map g.rt = z.2.map g.rt := aO lW q
    have := aO (ahx fun i => if i = y then x else i) q
    simp only [dQ, dQ] at this
    exact this
  · have := h.qL
    have := h.abs hy
    refine (?_ : g.kn.length + ((g.wt ++ g.abv y).length + ex.length) ≤ g.n + (g.fs ++ [_]).length * (2 * g.n))
    simp only [bD, bD, pW, DL, I4]; exact l6 0x321c493925199097321c51439219091 ‹_› this
  · rcases h.ko m hm with q | ⟨m', q1, q2⟩
    · exact .inl (by
        rcases cw.mp q with q | q
        · exact de _ (de _ q)
        · exact bC _ q)
    · by_cases z : ∃ k ∈ (g.nd m).2, g.rt k = y
      · refine aq z fun k hk e => ?_
        exact .inl (de _ (bC _ (e ▸ h.yY m hm k hk)))
      · exact .inr (aA m' (by rw [Nq fun k hk e => z (aA k hk e)]; exact q1) (rc q2))
  · rcases cw.mp (show j ∈ g.fs ++ [_] from hj) with hj | hj
    · refine gN (h.uO j hj) fun c d s e hc => ?_
      exact (tj c d s (xt (iQ.mp e).1 ▸ e) hc)
    · rw [bU.mp hj]
      exact (tj a b r (QY ..) ha)
  · by_cases z : (g.two x y (jT a b r)).rt i = x
    · exact (aA g.es.length (bC _ (iB _)) (rK a b r (QY ..) ha (ra.trans z.symm)))
    · skip
      rw [rn (fun w => z (qM w))] at q z
      refine aq (h.yZ i hi q) fun j hj bg => fX bg fun c d s e hc ec => ?_
      exact (aA j (de _ hj) (rK c d s (xt (iQ.mp e).1 ▸ e) hc (rc ec)))
end
end
section
def HG.gY(g:HG)(o:aI)(l:ag aa)(ws ds:aa->bp):HG:={g with n:=g.n+1,nd:=upd g.nd g.n (o,l),ws:=ws,ds:=ds,up:=upd g.up g.n g.n,rt:=upd g.rt g.n g.n,bX:=upd g.bX g.n [g.n],ks:=g.ks++[g.n],abv:=λc=>if c=g.n then []else if c∈l.map g.rt then g.abv c++[g.n]else g.abv c}
section
variable{g:HG}{T:aa}{ex:ag aa}
def Nu{n:aa}:[n].Nodup:=iZ.mpr ⟨rj,.nil⟩
def qN{α:Type}{a:α}{l m:ag α}(h:a∈l):a∈l++m:=de _ h
def wZ{rt:aa->aa}{l:ag aa}(h:∀k∈l,k<n):l.map (upd rt n x)=l.map rt:=gL λk hk=>eZ (cV (h k hk))
def aa3{ks l:ag aa}(hn:n∉ks)(nd:ks.Nodup):gv (ks++[n]) (λc=>if c=n then []else if c∈l then f c++[n]else f c)<=gv ks f+l.length:=by
 have e:gv (ks++[n]) (λc=>if c=n then []else if c∈l then f c++[n]else f c)=gv ks λc=>if c∈l then f c++[n]else f c:=by rw[wX (Q0 _ _),yW,a0 rfl,Am,oZ];exact Np λc hc=>aX λ(z:c=n)=>hn (z▸hc)
 rw[e];have e2:∀ks:ag aa,gv ks (λc=>if c∈l then f c++[n]else f c)=gv ks f+(ks.filter (·∈l)).length:=λks=>by
  induction ks with
   |nil=>rfl|cons c ks ih=>
    rw[yW,ih,rq];by_cases q:c∈l;·rw[a0 q,a0 (c7 q),bD,pW,lU];exact l3 792788989447577
    ·rw[aX q,aX (by exact(dS q)▸fH)];exact(xE _ _ _).symm
 rw[e2];exact vu (sV (nd.filter _) λc hc=>gD (gM.mp hc).2) _
def HI.gY(h:HI g T [])(hn:g.n+1<1000)(hl:l.length<=2)(hk:∀k∈l,k<g.n)(kU:∀i,i<g.n->g.nd i≠(o,l)):HI (g.gY o l ws ds) T [g.n]:=by
 have un:∀{α:Type}{f:aa->α}{x:α}{i},i<g.n->upd f g.n x i=f i:=λhi=>eZ (cV hi);have sp:∀{i},i<g.n+1->i<g.n\/i=g.n:=λhi=>zY.mp hi;have nn:=λz=>i6 _ ((h.mC _).mp z).1;have kn:∀{m},m<g.n->∀k∈(g.nd m).2,k<g.n:=λhm k hk=>df ((h.iy _ hm).2 k hk) hm;have cn:∀{m},m<g.n->canon (g.gY o l ws ds) m=canon g m:=λ{m}hm=>by show((upd g.nd g.n (o,l) m).1,(upd g.nd g.n (o,l) m).2.map (upd g.rt g.n g.n))=_;rw[un hm,wZ (kn hm)];rfl
 have ab:=λ{c m}hm hc=>by
  show m∈if c=g.n then []else if c∈l.map g.rt then g.abv c++[g.n]else g.abv c;rw[aX hc];split;·exact qN hm
  ·exact hm
 refine⟨hn,h.told,⟨λi hi=>?_,λi hi q=>?_,λi hi=>?_⟩,λi hi=>?_,λi hi=>?_,λi hi=>?_,λi j hi hj q=>?_,?_,λc=>?_,?_,?_,h.GL,λc hc=>?_,?_,λc hc m hm=>?_,λm hm k eu=>?_,λm hm=>?_,λp hp=>?_,?_,λm hm=>?_,λj hj=>?_,λi hi q=>?_⟩;·
  show upd g.up g.n g.n i<=i;rcases sp hi with hi|rfl;·rw[un hi];exact h.root.le i hi
  ·exact dH▸(bq _)
 ·show upd g.rt g.n g.n i=i;rcases sp hi with hi|rfl;·rw[un hi];exact h.root.top i hi ((un hi).symm.trans q)
  ·exact dH
 ·show upd g.rt g.n g.n i=upd g.rt g.n g.n (upd g.up g.n g.n i);rcases sp hi with hi|rfl;·rw[un hi,un hi,un (br (h.root.le i hi) hi)];exact h.root.step i hi
  ·exact aO _ dH.symm
 ·show upd g.rt g.n g.n i<=i;rcases sp hi with hi|rfl;·rw[un hi];exact h.wY i hi
  ·exact dH▸(bq _)
 ·show upd g.rt g.n g.n (upd g.rt g.n g.n i)=upd g.rt g.n g.n i;rcases sp hi with hi|rfl;·rw[un hi,un (h.eO hi)];exact h.gX i hi
  ·rw[dH,dH]
 ·refine(?_:(upd g.nd g.n (o,l) i).2.length<=2/\∀k∈(upd g.nd g.n (o,l) i).2,k<i);rcases sp hi with hi|rfl;·exact(un hi)▸(h.iy i hi)
  ·exact dH▸(⟨hl,hk⟩)
 ·have q:upd g.nd g.n (o,l) i=upd g.nd g.n (o,l) j:=q;rcases sp hi with hi|rfl<;>rcases sp hj with hj|rfl;·rw[un hi,un hj]at q;exact h.dist i j hi hj q
  ·rw[un hi,dH]at q;exact bA q (kU i hi)
  ·rw[un hj,dH]at q;exact bA q.symm (kU j hj)
  ·rfl
 ·exact gA.mpr (cM h.qJ Nu (λa ha b hb e=>nn (by exact(bU.mp hb)▸e▸ha)))
 ·refine(?_:c∈g.ks++[g.n]↔c<g.n+1/\upd g.rt g.n g.n c=c);rw[cw,h.mC,bU];constructor;·
   rintro(⟨h1,h2⟩|rfl);·exact⟨oS h1,(un h1).trans h2⟩
   ·exact⟨f9 _,dH⟩
  ·rintro⟨h1,h2⟩;rcases sp h1 with h1|rfl;·exact .inl ⟨h1,(un h1).symm.trans h2⟩
   ·exact .inr rfl
 ·refine(?_:g.es.length+(g.ks++[g.n]).length<=T+(g.n+1));rw[bD];exact mO h.qK
 ·refine(?_:g.fs.length+(g.ks++[g.n]).length=g.n+1);rw[bD,pW,←xE,h.uK]
 ·refine(?_:(upd g.bX g.n [g.n] c).Nodup/\∀m,m∈upd g.bX g.n [g.n] c↔m<g.n+1/\upd g.rt g.n g.n m=c);rcases cw.mp (show c∈g.ks++[g.n]from hc)with hc|hc;·
   have cn:=((h.mC c).mp hc).1;rw[un cn];refine bx (h.uL c hc) λl1 l2=>?_;refine⟨l1,λm=>(l2 m).trans ⟨λzf=>bx zf λz1 z2=>⟨oS z1,(un z1).trans z2⟩,λzf=>bx zf λz1 z2=>?_⟩⟩;rcases sp z1 with z1|rfl;·exact⟨z1,(un z1).symm.trans z2⟩
   ·rw[dH]at z2;exact bA cn (z2▸i6 _)
  ·rw[bU.mp hc];rw[dH];refine⟨Nu,λm=>bU.trans ⟨λz=>z▸⟨f9 _,dH⟩,λzf=>bx zf λz1 z2=>?_⟩⟩;rcases sp z1 with z1|z1;·rw[un z1]at z2;exact bA (h.eO z1) (z2▸i6 _)
   ·exact z1
 ·have:=aa3 (f:=g.abv) (l:=l.map g.rt) nn h.qJ;simp only[aN]at this;have:=h.yX;refine(?_:gv (g.ks++[g.n]) (λc=>if c=g.n then []else if c∈l.map g.rt then g.abv c++[g.n]else g.abv c)<=2*(g.n+1));exact l4 0x3d21c17321c21029112b01 hl ‹_› this
 ·rcases cw.mp (show c∈g.ks++[g.n]from hc)with hc|hc;·
   have cn:=((h.mC c).mp hc).1;have old:m∈g.abv c->m<g.n+1/\∃k∈(upd g.nd g.n (o,l) m).2,upd g.rt g.n g.n k=c:=λq=>by refine bx (h.uM c hc m q) λz1 bg=>aq bg λk z2 z3=>?_;rw[un z1];exact⟨oS z1,k,z2,(un (kn z1 k z2)).trans z3⟩
   have hm:m∈if c=g.n then []else if c∈l.map g.rt then g.abv c++[g.n]else g.abv c:=hm;rw[aX (cV cn)]at hm;split at hm;·
    next q=>
     rcases cw.mp hm with hm|hm;·exact old hm
     ·rw[bU.mp hm];refine aq (bt.mp q) λk z2 z3=>?_;refine(?_:_/\∃k∈(upd g.nd g.n (o,l) g.n).2,upd g.rt g.n g.n k=c);exact dH▸(⟨f9 _,k,z2,(un (hk k z2)).trans z3⟩)
   ·exact old hm
  ·obtain rfl:=bU.mp hc;have hm:m∈if g.n=g.n then []else if g.n∈l.map g.rt then g.abv g.n++[g.n]else g.abv g.n:=hm;rw[a0 rfl]at hm;nomatch hm
 ·have eu:k∈(upd g.nd g.n (o,l) m).2:=eu;refine(?_:m∈(g.gY o l ws ds).abv (upd g.rt g.n g.n k));rcases sp hm with hm|rfl;·rw[un hm]at eu;have kl:=kn hm k eu;exact(un kl)▸(ab (h.yY m hm k eu) (cV (h.eO kl)))
  ·rw[dH]at eu;rw[un (hk k eu)];show g.n∈if g.rt k=g.n then []else if g.rt k∈l.map g.rt then g.abv _++[g.n]else g.abv _;rw[aX (cV (h.eO (hk k eu))),a0 (gK eu)];exact bC _ (iB _)
 ·rcases cw.mp hm with hm|hm;·exact oS (h.pH m (qN hm))
  ·exact bU.mp hm▸f9 _
 ·refine fV (h.uN p hp) λx m e hm hx q=>?_;refine(rI x m e (oS hm) (λk hk=>oS (hx k hk)) ((cn hm).trans (q.trans (jq rfl (wZ hx).symm))))
 ·have:=h.qL;refine(?_:g.kn.length+(g.wt.length+1)<=g.n+1+g.fs.length*(2*(g.n+1)));dsimp only[Am]at this;lia
 ·rcases sp hm with hm|rfl;·
   rcases h.ko m hm with q|⟨m',q1,q2⟩;·rw[bN]at q;exact .inl (qN q)
   ·have y1:m'<g.n:=by refine aq (lR.mp q1) λp hp e=>?_;refine ba (h.uN p (afL hp)) λx j aC hj _=>?_;clear hp;subst aC;exact iw e▸hj
    exact .inr (aA m' (by rw[cn hm];exact q1) ((un y1).trans (q2.trans (un hm).symm)))
  ·exact .inl (bC _ (iB _))
 ·refine gN (h.uO j hj) λc d s e hc=>?_;exact(tj c d s e (oS hc))
 ·rcases sp hi with hi|rfl;·refine aq (h.yZ i hi (λz=>q ((un hi).trans z))) λj hj bg=>fX bg λc d s e hc ec=>?_;exact(aA j hj (rK c d s e (oS hc) ((un hc).trans (ec.trans (un hi).symm))))
  ·exact bA dH q
end
end
section
abbrev Rel:=aI->ag aa->aa->Prop
def Fn(R:Rel):Prop:=∀o cs c c',R o cs c->R o cs c'->c=c'
def dZ(g:HG)(R:Rel)(φ:aa->aa):Prop:=(∀n,n<g.n->R (g.nd n).1 ((g.nd n).2.map φ) (φ n))/\∀i,i<g.n->φ (g.rt i)=φ i
structure Grow(g g':HG):Prop where
 le:g.n<=g'.n
 nd:∀i,i<g.n->g'.nd i=g.nd i
 co:∀i j,i<g.n->j<g.n->g.rt i=g.rt j->g'.rt i=g'.rt j
structure Tame(g g':HG):Prop extends Grow g g' where
 eq:g'.n=g.n
 qO:∀R φ,Fn R->dZ g R φ->dZ g' R φ
def Grow.refl:Grow g g:=⟨bq _,λu u=>rfl,λu u u u e=>e⟩
def Grow.trans(a:Grow g h)(b:Grow h k):Grow g k:=⟨bG a.le b.le,λi hi=>(b.nd i (bj hi a.le)).trans (a.nd i hi),λi j hi hj e=>b.co i j (bj hi a.le) (bj hj a.le) (a.co i j hi hj e)⟩
def Tame.refl:Tame g g:=⟨.refl,rfl,λu u u h=>h⟩
def Tame.trans(a:Tame g h)(b:Tame h k):Tame g k:=⟨a.toGrow.trans b.toGrow,b.eq.trans a.eq,λR φ F z=>b.qO R φ F (a.qO R φ F z)⟩
section
variable{g:HG}{T:aa}{ex:ag aa}{R:Rel}{φ:aa->aa}
def dZ.map(h:dZ g R φ){l:ag aa}(hl:∀k∈l,k<g.n):(l.map g.rt).map φ=l.map φ:=by rw[dQ];exact gL λk hk=>h.2 k (hl k hk)
def HI.kids(h:HI g T ex)(hn:n<g.n):∀k∈(g.nd n).2,k<g.n:=λk hk=>df ((h.iy n hn).2 k hk) hn
def dZ.aa4(h:dZ g R φ)(F:Fn R)(I:HI g T ex)(hm:m<g.n)(hn:n<g.n)(e:canon g m=canon g n):φ m=φ n:=by have h1:=h.1 m hm;have h2:=h.1 n hn;rw[←h.map (I.kids hm)]at h1;rw[←h.map (I.kids hn)]at h2;have e1:(g.nd m).1=(g.nd n).1:=(aO (λt:Node=>t.1) e:);have e2:(g.nd m).2.map g.rt=(g.nd n).2.map g.rt:=(aO (λt:Node=>t.2) e:);rw[e1,e2]at h1;exact F _ _ _ _ h1 h2
def dZ.two(h:dZ g R φ)(I:HI g T ex)(q:φ x=φ y):dZ (g.two x y e) R φ:=by
 refine⟨h.1,λi hi=>?_⟩;show φ (if g.rt i=y then x else g.rt i)=φ i;rw[←h.2 i hi];split;·next z=>rw[q,z]
 ·rfl
def dZ.gY(h:dZ g R φ)(I:HI g T ex)(hk:∀k∈l,k<g.n)(q:R o (l.map φ) z):dZ (g.gY o l ws ds) R (upd φ g.n z):=by
 refine⟨λn hn=>?_,λi hi=>?_⟩;·
  show R (upd g.nd g.n (o,l) n).1 ((upd g.nd g.n (o,l) n).2.map (upd φ g.n z)) (upd φ g.n z n);rcases zY.mp hn with hn|rfl;·rw[eZ (cV hn),eZ (cV hn),wZ (I.kids hn)];exact h.1 n hn
  ·rw[dH,dH,wZ hk];exact q
 ·show upd φ g.n z (upd g.rt g.n g.n i)=upd φ g.n z i;rcases zY.mp hi with hi|rfl;·rw[eZ (cV hi),eZ (cV hi),eZ (cV (I.eO hi))];exact h.2 i hi
  ·rw[dH]
def HI.GQ(h:HI g T ex)(e:cj g.kn (cH x)=af v)(hx:x.2.map g.rt=x.2):∃m,v=nv m/\m<g.n/\canon g m=x:=by refine aq (lR.mp e) λp hp e2=>?_;refine fV (h.uN p (afL hp)) λy m aC hm u q=>?_;clear h e;subst aC;have:=agD hp;have:=gD this;clear hp;obtain rfl:=yQ this;exact(bH m e2.symm hm (q.trans (jq rfl hx)))
def HI.GR(h:HI g T ex){l:ag aa}(hl:∀k∈l,k<g.n):(l.map g.rt).map g.rt=l.map g.rt:=by rw[dQ];exact gL λk hk=>h.gX k (hl k hk)
def HI.kk(h:HI g T ex):eM g.kn (cH x):=⟨Cj x,λp hp=>by refine eR (h.uN p hp) λy m aC u=>?_;rw[aC];exact GC _ _⟩
def HI.drop(h:HI g T ex)(q:n∈g.wt\/∃m',cj g.kn (cH (canon g n))=af (nv m')/\g.rt m'=g.rt n)(e:ex=[n]):HI g T []:=by
 subst e;refine{h with pH:=λm hm=>h.pH m (by rw[bN]at hm;exact qN hm),qL:=?_,ko:=λm hm=>?_};·exact bG (vu (vu (cF _) _) _) h.qL
 ·rcases h.ko m hm with z|z;·
   rcases cw.mp z with z|z;·exact .inl (qN z)
   ·rw[bU.mp z];exact q.imp qN id
  ·exact .inr z
def HI.known(h:HI g T [n])(hn:n<g.n)(e:cj g.kn (cH (canon g n))=ah):HI {g with kn:=g.kn++[(cH (canon g n),nv n)]} T []:=by
 have old:∀{k v},cj g.kn k=af v->cj (g.kn++[(cH (canon g n),nv n)]) k=af v:=λ{k v}q=>by delta cj at q⊢;refine aq (lR.mp q) λp hp e=>?_;rw[agi,hp];exact aO af e
 have new:cj (g.kn++[(cH (canon g n),nv n)]) (cH (canon g n))=af (nv n):=by delta cj at e⊢;simp only[agi,afN.mp e,An];rfl
 refine{h with pH:=λm hm=>h.pH m (by rw[bN]at hm;exact qN hm),uN:=λp hp=>?_,qL:=?_,ko:=λm hm=>?_};·
  rcases cw.mp hp with hp|hp;·exact h.uN p hp
  ·refine(rI (canon g n) n (bU.mp hp) hn (λk hk=>?_) (jq rfl (h.GR (h.kids hn)).symm));refine aq (bt.mp hk) λj hj aC=>?_;simp only[←aC];exact h.eO (h.kids hn j hj)
 ·have:=h.qL;rw[bD];exact bG (e9 (by exact aha _ _)) this
 ·rcases h.ko m hm with z|⟨m',z1,z2⟩;·
   rcases cw.mp z with z|z;·exact .inl (qN z)
   ·rw[bU.mp z];exact .inr (aA n new rfl)
  ·exact .inr (aA m' (old z1) z2)
inductive uP(g:HG)(T n:aa)(g':HG):Prop|mk:((∀m,m<g.n->canon g m=canon g n->g.rt m=g.rt n)->g'.es=g.es/\g'.fs=g.fs/\g'.wt=g.wt)->HI g' T []->Tame g g'->(g'.ks.length*(2*g.n+1)+g'.wt.length<=g.ks.length*(2*g.n+1)+g.wt.length)->uP g T n g'
def Tame.two(h:HI g T ex)(hm:m<g.n)(hn:n<g.n)(q:canon g m=canon g n)(hx:(x=g.rt m/\y=g.rt n)\/(x=g.rt n/\y=g.rt m)):Tame g (g.two x y e):=by
 refine⟨⟨bq _,λu u=>rfl,λi j u u z=>?_⟩,rfl,λR φ F H=>H.two h ?_⟩;·refine(?_:(if g.rt i=y then x else g.rt i)=if g.rt j=y then x else g.rt j);rw[z]
 ·have:=H.aa4 F h hm hn q;rcases hx with⟨rfl,rfl⟩|⟨rfl,rfl⟩;·simp only[H.2 m hm,H.2 n hn,this]
  ·simp only[H.2 m hm,H.2 n hn,this]
def Nv{a b:aa}(h:a≠b):min a b<max a b/\((min a b=a/\max a b=b)\/(min a b=b/\max a b=a)):=by lia
def HI.Ga(h:HI g T [n])(hn:n<g.n)(hm:m<g.n)(e:cj g.kn (cH (canon g n))=af (nv m))(q:canon g m=canon g n)(ne:g.rt m≠g.rt n):uP g T n (g.two (min (g.rt m) (g.rt n)) (max (g.rt m) (g.rt n)) (GK m n)):=by
 refine bx (Nv ne) λz1 z2=>?_;generalize min (g.rt m) (g.rt n)=x at*;generalize max (g.rt m) (g.rt n)=y at*;have hy:=z2.elim (λz=>z.2▸h.kq hn) λz=>z.2▸h.kq hm;have I:HI (g.two x y (GK m n)) T [n]:=h.two (z2.elim (λz=>z.1▸h.kq hm) λz=>z.1▸h.kq hn) hy z1 hm (z2.imp (λz=>z.1.symm) λz=>z.2.symm);refine⟨λz=>bA (z m hm q) ne,I.drop ?_ rfl,.two h hm hn q z2,?_⟩;·
  by_cases z:∃k∈(g.nd n).2,g.rt k=y;·refine aq z λk hk w=>?_;exact .inl (bC _ (w▸h.yY n hn k hk))
  ·refine .inr (aA m (by rw[Nq λk hk e=>z (aA k hk e)];exact e) ?_);show(if g.rt m=y then x else g.rt m)=if g.rt n=y then x else g.rt n;clear hn hm e q z1 I z;rcases z2 with⟨rfl,rfl⟩|⟨rfl,rfl⟩;·rw[aX ne,a0 rfl]
   ·rw[a0 rfl,aX ne.symm]
 ·refine(?_:(g.ks.erase y).length*(2*g.n+1)+(g.wt++g.abv y).length<=_);rw[((vt hy).length_eq),bD,lU,DL];exact l4 0x3121cd11c299039297121c01 (h.abs hy)
def bY(g:HG):Rel:=λo cs c=>∃m,m<g.n/\canon g m=(o,cs)/\g.rt m=c
def HI.seen(h:HI g T [])(hw:g.wt=[])(hm:m<g.n):∃m',cj g.kn (cH (canon g m))=af (nv m')/\g.rt m'=g.rt m:=by
 refine Or.elim (h.ko m hm) (λq=>?_) λq=>?_;·rw[hw]at q;nomatch q
 ·exact q
def HI.fn(h:HI g T [])(hw:g.wt=[]):Fn (bY g):=λo cs c c'⟨m,hm,e,q⟩⟨m',y1,e',q'⟩=>by refine aq (h.seen hw hm) λu h1 h2=>?_;refine aq (h.seen hw y1) λu' Bl EZ=>?_;rw[e]at h1;rw[e',h1]at Bl;obtain rfl:=iw (bR Bl);rw[←q,←q',←h2,EZ]
end
end
section
def aa5:FnAt 453 (sB 18 10) ["self"]:=.eI
def Nw(P:bh):dN (KK P) 501 "look_at" 418:=.of (by kernel_rfl)
inductive sJ(a:aa)(P:V->HG->Prop)(v:V)(L:Cells):Prop|mk(H:HA)(g:HG):H.a=a->P v g->L=aJ H g->sJ a P v L
def GS:kH (.builtin "list.pop")=pure (.type "method_descriptor"):=by rfl
section
variable{g:HG}{T:aa}{ex:ag aa}
def HI.pop(h:HI g T [])(e:g.wt=ws++[m]):HI {g with wt:=ws} T [m]:={h with pH:=λk hk=>h.pH k (by rw[bN,e];exact hk),qL:=bG (e9 (by rw[e,bD];rfl)) h.qL,ko:=λk hk=>(h.ko k hk).imp (λz=>by rw[bN,e]at z;exact z) id}
end
inductive y2(P:HG->Prop)(v:V)(g:HG):Prop|mk:v=.none->P g->y2 P v g
inductive pI(g:HG)(T:aa)(g':HG):Prop|mk:(g.wt=[]->g'=g)->HI g' T []->g'.wt=[]->Tame g g'->pI g T g'
section
variable{H:HA}{g:HG}{T n:aa}
def Ny(I:HI g T [n])(hn:n<g.n):Sp 6 418 [.ref H.a,nv n] (sJ H.a (y2 (uP g T n))) (aJ H g):=by
 have hx:=I.GR (I.kids hn);refine(aaY I.ok hn I.kk (bG (bG (dE ..) I.GO) (by decide)) λv e=>?_).mono λv L z=>?_;·refine bL (I.GQ e hx) λm bQ hm q=>?_;rw[bQ];exact(bH m rfl hm (λu=>I.pre hm hn))
 ·induction z with|seen m e q h1 h2=>exact⟨H,g,rfl,⟨h1,λu=>(cM rfl rfl rfl),I.drop (.inr (aA m e q)) rfl,.refl,bq _⟩,h2⟩|join m c e q h1 h2=>refine bL (I.GQ e hx) λm' e1 hm e2=>?_;obtain rfl:=iw e1;exact⟨H.lN (min (g.rt m) (g.rt n)) c,_,rfl,⟨h1,I.Ga hn hm e e2 q⟩,h2⟩|new e h1 h2=>exact⟨H,{g with kn:=g.kn++[(cH (canon g n),nv n)]},rfl,⟨h1,λu=>(cM rfl rfl rfl),I.known hn e,⟨⟨bq _,λu u=>rfl,λu u u u z=>z⟩,rfl,λu u u z=>z⟩,bq _⟩,h2⟩
inductive Way(a:aa)(g:HG)(T:aa)(b:HA×HG):Prop|mk:b.1.a=a->HI b.2 T []->Tame g b.2->(g.wt=[]->b.2=g)->Way a g T b
def Way.next{H1 H2:HA}{g1 g2:HG}(W:Way a g T (H1,g1))(e:g1.wt=ws++[m])(ea:H2.a=H1.a)(h:uP {g1 with wt:=ws} T m g2):Way a g T (H2,g2)/\g2.ks.length*(2*g.n+1)+g2.wt.length<g1.ks.length*(2*g.n+1)+g1.wt.length:=by
 obtain⟨ha,I,tm,cm⟩:=W;obtain⟨_,I2,y3,le⟩:=h;have le:g2.ks.length*(2*g1.n+1)+g2.wt.length<=g1.ks.length*(2*g1.n+1)+ws.length:=le;refine(dD ⟨ea.trans ha,I2,tm.trans ⟨⟨y3.le,y3.nd,y3.co⟩,y3.eq,y3.qO⟩,λz=>?_⟩ ?_);·have:g1.wt=g.wt:=aO HG.wt (cm z);rw[z,e]at this;exact bA this (List.append_ne_nil_of_right_ne_nil _ (List.cons_ne_nil _ _))
 ·rw[tm.eq]at le;rw[e,bD];exact Ai le
def y4(I:HI g T []):Sp 7 453 [.ref H.a] (sJ H.a (y2 (pI g T))) (aJ H g):=by
 refine Sp.eE aa5 λR hR=>WS.cons (W1.loop (λu=>.cons "self" (.ref H.a) .nil) (λb:HA×HG=>aJ b.1 b.2) (λb=>b.2.ks.length*(2*g.n+1)+b.2.wt.length) (Way H.a g T) (H,g) ⟨rfl,I,.refl,λu=>rfl⟩ (λb W=>?_) rfl);obtain⟨H1,g1⟩:=b;have W2:=W;obtain⟨ha,I,tm,cm⟩:=W2;have ha:H1.a=H.a:=ha;rw[←ha];have wl:g1.wt.length<=16777216:=by have:=I.GO;exact l3 0x10000007a171e88686a219091 this
 refine TV.use (PT.cmp .Gt (EV.bi (.builtin "len") kb (AV.p1 (PE.self 0 1 GI) (CP.len (us:=g1.wt.map nv) 6 (aN _) wl))) (PE.nat 0)) ?_;rcases afX g1.wt with e|⟨ws,m,e⟩<;>try rw[afY]at e
 ·rw[e];exact WS.nil (hR _ _ ⟨_,_,ha,⟨rfl,cm,I,e,tm⟩,rfl⟩)
 ·rw[show decide (g1.wt.length>0)=ai from c7 (by rw[e,bD];exact i8 _)];refine WS.cons (W1.expr (EV.m PE.name (Mt.inst 0 1 Nw) (AV.cons (EV.m (PE.self 0 1 GI) (Mt.list (vs:=g1.wt.map nv) 6 Ds GS) (AV.p0 (CV.pop (vs:=ws.map nv) (v:=nv m) 6 (AV.nil ?_) (by rw[e,bD]at wl;rw[aN];exact wl) ?_))))));·refine CV.call (Ny (H:=H1) (I.pop e) ((I.pop e).pH m (bC _ (iB _)))) (M:=[]) (by rw[bN];exact .refl _) λv L' hq=>WS.nil ?_;obtain⟨H2,g2,e2,⟨_,h⟩,rfl⟩:=hq;obtain⟨W3,lt⟩:=W.next e e2 h;rw[←ha]at W3;exact(rH ((H2,g2)) rfl (by rw[bN]) W3 lt)
  ·refine(?_:af (H1.waiting,aV.list (g1.wt.map nv))=_);rw[e,cy];rfl
end
end
section
def aa6:FnAt 406 (sB 18 3) ["self","op","numbers"]:=.pF
def aa7(P:bh):dN (KK P) 203 "take" 127:=.of (by kernel_rfl)
def Nz(P:bh):dN (KK P) 371 "size" 321:=.of (by kernel_rfl)
def aa8(P:bh):dN (KK P) 371 "make" 314:=.of (by kernel_rfl)
def Cu{A B C:Cells}:((A++B)++C).Perm ((A++C)++B):=by rw[bW,bW];exact(b6).append_left A
def aa9(h:c∉ks):dt (intD ks f) (nv c) v=intD (ks++[c]) (upd f c v):=by
 delta dt;rw[GJ,H7.mpr λx hx=>beq_eq_false_iff_ne.mpr λ(z:x=c)=>h (z▸hx)];delta intD;have:ks.map (λx=>(nv x,upd f c v x))=ks.map λx=>(nv x,f x):=gL λx hx=>by rw[eZ λ(z:x=c)=>h (z▸hx)]
 simp only[cy,this,jk,dH];rfl
noncomputable def kr(g:HG)(done:ag aa):aa->ag aa:=λc=>if c=g.n then []else if c∈done then g.abv c++[g.n]else g.abv c
def HG.k7(g:HG)(o:aI)(l:ag aa)(ws ds:aa->bp)(done:ag aa):HG:={g.gY o l ws ds with abv:=kr g done}
def aba{g:HG}(h:∀k,k∈cs↔k∈l.map g.rt):g.k7 o l ws ds cs=g.gY o l ws ds:=by
 have:kr g cs=(g.gY o l ws ds).abv:=vQ λc=>by
  refine(?_:(if c=g.n then []else if c∈cs then _ else _)=if c=g.n then []else if c∈l.map g.rt then _ else _);by_cases q:c∈cs;·rw[a0 q,a0 ((h c).mp q)]
  ·rw[aX q,aX λz=>q ((h c).mpr z)]
 delta HG.k7;rw[this]
def NB{f:aa->α}{x:α}{h:α->β}:upd (λi=>h (f i)) n (h x)=λi=>h (upd f n x i):=vQ λi=>by delta upd;split<;>rfl
noncomputable def HA.uls(H:HA)(ls:aa->aa):HA:={H with U:={H.U with ls:=ls}}
def abb{X Lk:Cells}:(x::y::z::(X++Lk)).Perm ((X++(x::Lk))++[y,z]):=(b6 (l₁:=[x,y,z])).trans (((It (bW ..)).trans ((lT (l₂:=[y,z])).append_left X)).trans (.of_eq (bW X (x::Lk) [y,z]).symm))
def NC(h:c∈g.ks):(aJ H g).Perm ((H.ab c,.list ((g.abv c).map nv))::(lK H g++(oq H g++(lM H g++(g.ks.erase c).map λi=>(H.ab i,.list ((g.abv i).map nv)))))):=(((((vt h).map _).append_left _).append_left _).append_left _).trans Nj.symm
def abd(h:c∈g.ks)(nd:g.ks.Nodup)(e:∀i,i≠c->abv i=g.abv i):((H.ab c,aV.list ((abv c).map nv))::(lK H g++(oq H g++(lM H g++(g.ks.erase c).map λi=>(H.ab i,.list ((g.abv i).map nv)))))).Perm (aJ H {g with abv:=abv}):=by have:=NC (H:=H) (g:={g with abv:=abv}) h;refine .trans (.of_eq ?_) this.symm;simp only[gL (l:=g.ks.erase c) (g:=λi=>(H.ab i,aV.list ((abv i).map nv))) λi hi=>by rw[e i λz=>nd.not_mem_erase (z▸hi)]];rfl
def abe{Lk:Cells}(hn:g.n∉g.ks):((d,aV.list [])::((wU H (g.k7 o l ws ds []) (intD (g.ks++[g.n]) (upd (λc=>V.ref (H.ab c)) g.n (V.ref d)))++(oq H (g.k7 o l ws ds [])++(lM H (g.k7 o l ws ds [])++lL H g)))++Lk)).Perm (aJ (H.lN g.n d) (g.k7 o l ws ds [])++Lk):=by
 have e:lL (H.lN g.n d) (g.k7 o l ws ds [])=lL H g++[(d,.list [])]:=by
  show(g.ks++[g.n]).map (λc=>(upd H.ab g.n d c,aV.list ((kr g [] c).map nv)))=_;rw[cy,jk,dH,show kr g [] g.n=[]from a0 rfl,gL (g:=λc=>(H.ab c,aV.list ((g.abv c).map nv))) λc hc=>?_];·have q:c≠g.n:=λz=>hn (z▸hc);rw[eZ q,show kr g [] c=g.abv c from(aX q).trans (aX rj)]
  ·rfl
 delta aJ lK;rw[e,NB (h:=V.ref)];refine((Q0 _ _).symm.trans Cu).trans (.append_right _ (.of_eq ?_));simp only[bW];rfl
def abf(h1:c∉done)(h2:c≠g.n):kr g (done++[c]) c=kr g done c++[g.n]/\∀i,i≠c->kr g (done++[c]) i=kr g done i:=by
 refine⟨?_,λi hi=>?_⟩;·delta kr;rw[aX h2,aX h2,aX h1,a0 (bC _ (iB _))]
 ·delta kr;have:i∈done++[c]↔i∈done:=cw.trans ⟨λz=>z.resolve_right λz=>hi (bU.mp z),.inl⟩;by_cases q:i∈done;·rw[a0 q,a0 (this.mpr q)]
  ·rw[aX q,aX λz=>q (this.mp z)]
inductive y5(g:HG)(T:aa)(o:aI)(l:ag aa)(v:V)(g':HG):Prop|old(m:aa):m<g.n->g.nd m=(o,l)->v=nv m->g'=g->y5 g T o l v g'|new(ws ds:aa->bp):(∀i,i<g.n->g.nd i≠(o,l))->v=nv g.n->uP (g.gY o l ws ds) T g.n g'->y5 g T o l v g'
section
variable{H:HA}{g:HG}{T b:aa}{Lk:Cells}{o:aI}{kv v0 v1:V}{l ms:ag aa}{ws ds:aa->bp}{R:V->Cells->Prop}{N:Lc->Cells->Prop}
def abg(I:HI (g.gY o l ws ds) T [g.n]):kZ (g.k7 o l ws ds done):=⟨I.ok.small,I.ok.root,I.ok.eO,I.ok.kids⟩
abbrev pE(H:HA)(v0 v1:V)(g:HG):Lc:=.cons "self" (.ref H.a) (.cons "op" v0 (.cons "numbers" v1 (.cons "n" (nv g.n) .nil)))
def abh(I:HI g T [])(I2:HI (g.gY o l ws ds) T [g.n])(hk:∀k∈l,k<g.n)(hu:B7 (l.map g.rt) ms)(hl:ms.length<=1000)(h:∀L,sJ H.a (y2 (uP (g.gY o l ws ds) T g.n)) .none L->R (nv g.n) L):B5 (.fn (sB 18 3) 406) (dG (b1 (sB 18 3)).tail.tail.tail.tail) 6 R (WS (.fn (sB 18 3) 406) (b1 (sB 18 3)).tail.tail.tail.tail.tail 6 R N) (pE H v0 v1 g) (.ref b) (aJ H (g.k7 o l ws ds [])++((b,.list (ms.map nv))::Lk)):=by
 refine⟨.list (bC _ aR) (by rw[aN];exact bG hl (by decide)),λu=>pE H v0 v1 g,λdone=>aJ H (g.k7 o l ws ds done)++((b,.list (ms.map nv))::Lk),λrest done=>∃rs,rest=rs.map nv/\done++rs=ms,[],(aA ms rfl rfl),rfl,rfl,λv rest done z=>?_,λdone z=>?_⟩;·
  refine aq z λrs e1 e2=>?_;induction rs using b7 with
   |nil=>nomatch e1|cons c rs=>
    obtain⟨rfl,rfl⟩:=cq e1;obtain⟨cn,ck⟩:c<g.n/\c∈g.ks:=by refine aq (bt.mp ((hu.2 c).mp (e2▸bC _ aR))) λk eu aC=>?_;exact aC▸(⟨I.eO (hk k eu),I.kq (hk k eu)⟩)
    have cd:=λz=>(gA.mp (e2▸(hu.1.imp λq=>cV q))).2.2 _ z _ aR rfl;obtain⟨a1,a2⟩:=abf (g:=g) cd (cV cn);have GU:c∈(g.k7 o l ws ds done).ks:=qN ck;have al:((kr g done c).map nv).length<16777216:=by
     have h1:=I.abs ck;have h2:=I.small;delta kr;rw[aX (cV cn),aN];split;·lia
     ·exact l2 0x10000007a083e83a12120121c01 h1 h2
    refine⟨bC _ aR,_,.name _ _ rfl rfl,WS.perm ((NC GU).append_right _) ?_⟩;refine WS.cons (W1.expr (EV.m (PE.sH 6 (PE.self 1 2 uH) PE.name (pG (f:=λc=>V.ref (H.ab c))) (uI (f:=λc=>V.ref (H.ab c)) GU)) (Mt.list (vs:=(kr g done c).map nv) 0 lQ lJ) (AV.p1 PE.name (CV.append (us:=(kr g done c).map nv) 0 ?_ al))));refine WS.perm (M:=aJ H (g.k7 o l ws ds (done++[c]))++((b,.list (ms.map nv))::Lk)) ?_ (WS.fin (bH (done++[c]) rfl rfl (aA rs rfl (by rw[bW];exact e2))) rfl);have:=(abd (H:=H) (g:=g.k7 o l ws ds done) (abv:=kr g (done++[c])) GU I2.qJ a2).append_right ((b,aV.list (ms.map nv))::Lk);simp only[a1,cy]at this;exact this
 ·refine aq z λrs e1 e2=>?_;obtain rfl:=f6.mp e1.symm;rw[bN]at e2;rw[e2];refine⟨bC _ aR,WS.keep (.refl _) ?_⟩;rw[aba hu.2];refine WS.cons (W1.expr (EV.m PE.name (Mt.inst 0 1 Nw) (AV.p1 PE.name (CV.at ((Ny (H:=H) I2 (f9 _)).mono λv L z=>WS.ret (EV.use PE.name (h L ?_)))))));obtain⟨H2,g2,h1,⟨h2,h3⟩,h4⟩:=z;exact⟨H2,g2,h1,⟨rfl,h3⟩,h4⟩
def abi(I:HI g T [])(I2:HI (g.gY o l ws ds) T [g.n])(hv:∀L,KV (L++Lk) l kv)(hl:l.length<=2)(hk:∀k∈l,k<g.n)(h:∀L,sJ H.a (y2 (uP (g.gY o l ws ds) T g.n)) .none L->R (nv g.n) L):WS (.fn (sB 18 3) 406) (b1 (sB 18 3)).tail.tail.tail 6 R N (.cons "self" (.ref H.a) (.cons "op" v0 (.cons "numbers" kv (.cons "n" (nv g.n) .nil)))) (aJ H {g.gY o l ws ds with ks:=g.ks,abv:=g.abv}++Lk):=by
 have nn:=λz=>i6 _ ((I.mC _).mp z).1;have lz:l.length<16777216:=br hl (by decide);refine WS.cons (W1.put (EV.list (AV.p0 ⟨cF _,λd=>EV.use (PE.self 1 2 uH) (EV.use PE.name (km.dict 6 rfl (pG (ks:=g.ks) (f:=λc=>V.ref (H.ab c))) (by rw[aN];exact(by have:=I.uK;have:=I.small;exact l3 0x10000007a173e83a2221093 ‹_› this:g.ks.length<=16777216)) rfl ?_))⟩)));rw[aa9 nn];refine WS.perm (abe (l:=l) nn) ?_;refine aq ((hv (aJ (H.lN g.n d) (g.k7 o l ws ds []))).iter (bF lz)) λG it hG=>?_;refine WS.cons (W1.for (EV.drop (EV.bi (.builtin "sorted") kb (AV.cons (EV.bi (.type "set") kt (AV.cons (EV.comp (EV.use PE.name (cT.nums (λk=>nv ((g.k7 o l ws ds []).rt k)) it hG lz (λk eu=>EV.m PE.name (Mt.inst 0 1 jA) (AV.p1 PE.name (CP.call (jB (H:=H.lN g.n d) (abg I2) (oS (hk k eu))) (.refl _)))) λa=>?_)))))))) (.inl (d8 _ _ rfl)));refine AV.nil (CV.Gr (xs:=l.map g.rt) 0 (by rw[aN];exact br hl (by decide)) (λd' us sn=>AV.nil (CV.Gs 0 sn (by rw[aN];exact br hl (by decide)) λb ms hu=>?_)) ?_);·exact⟨_,_,abb,abh (H:=H.lN g.n d) I I2 hk hu (bG (sV (hu.1.imp λq=>cV q) λk hk=>(hu.2 k).mp hk) (by rw[aN];exact bG hl (by decide))) h⟩
 ·rw[←wZ hk (x:=g.n),dQ];rfl
def ND(I:HI g T [])(hn:g.n+1<1000)(ho:oo o)(hv:∀L,KV (L++Lk) l kv)(hl:l.length<=2)(hk:∀k∈l,k<g.n):Sp 7 406 [.ref H.a,.str o,kv] (sJ H.a (y5 g T o l)) (aJ H g++Lk):=by have nz:g.n<16777216:=df I.small (by decide);refine Sp.eE aa6 λR hR=>WS.cons (W1.set (EV.m (PE.self 0 1 yS) (Mt.inst 7 8 aa7) (AV.p2 PE.name PE.name (CV.call (aaB (df I.small (by decide)) ho (hv _) (br hl (by decide)) hk I.dist) ((wV.append_right Lk).trans Cu) λv L' hq=>?_))));induction hq with|old i hi e m6 hL=>subst m6 hL;exact WS.perm (Cu.trans (wV.symm.append_right Lk)) (WS.cons (W1.jy (PT.cmp .Lt PE.name (EV.m (PE.self 0 1 uG) (Mt.inst 13 14 Nz) (AV.p0 (CP.call (M0 (bF nz)) ((qI.append_right Lk).trans (.of_eq (bW ..))))))) (c7 hi) (WS.ret (EV.drop (EV.use PE.name ⟨_,_,.refl _,hR _ _ ⟨H,g,rfl,.old i hi e rfl rfl,rfl⟩⟩)))))|new ws ds kU m6 hL=>subst m6 hL;have pu:((lK H g++(gV H.B (g.n+1) (upd g.nd g.n (o,l)) ws ds++(lM H g++lL H g)))++Lk).Perm (lM H g++((lK H g++(gV H.B (g.n+1) (upd g.nd g.n (o,l)) ws ds++lL H g))++Lk)):=(((fj.append_left _).trans fj).append_right Lk).trans (.of_eq (bW ..));refine WS.perm (M:=(lK H g++(gV H.B (g.n+1) (upd g.nd g.n (o,l)) ws ds++(lM H g++lL H g)))++Lk) (Cu.trans (fj.append_right Lk)) (WS.cons (W1.fF (PT.cmp .Lt PE.name (EV.m (PE.self 0 1 uG) (Mt.inst 13 14 Nz) (AV.p0 (CP.call (M0 (bF nz)) pu)))) (dS (i6 _)) (WS.nil ?_)));refine WS.cons (W1.expr (EV.m (PE.self 0 1 uG) (Mt.inst 13 14 aa8) (AV.p0 (CV.call (aaf nz) pu λv L' hq=>?_))));obtain⟨ls,rfl,rfl⟩:=hq;rw[show upd (λi=>(g.bX i).map nv) g.n [nv g.n]=_ from NB (h:=ahx nv) (x:=[g.n])];refine WS.perm ((It (bW ..).symm).trans ((fj.trans (fj.append_left _)).append_right Lk)) (abi (H:=H.uls ls) I (I.gY hn hl hk kU) hv hl hk λL hq=>hR _ _ ?_);obtain⟨H3,g3,h1,⟨_,h3⟩,h4⟩:=hq;exact⟨H3,g3,h1,.new ws ds kU rfl h3,h4⟩
end
end
section
def abj:FnAt 479 (sB 18 14) ["self","c"]:=.of2
def abk:FnAt 491 (sB 18 16) ["self","op","classes"]:=.pF
section
variable{E:EF}{e:aT}{r a d i m:aa}{l:Lc}{L:Cells}{us:ag V}{Q:V->Cells->Prop}{ds:ag (V×V)}{k' u v:V}{b:bw}
def CV.GV(i:aa)(hz:us.length<63)(ok:yx us)(k:∀(b:aa)(vs:ag V),(∀v,v∈vs↔v∈us)->vs.length<=us.length->Q (.ref b) ((b,.set vs)::L))(x:aB (L[i]?=af (a,.list us)) tR):CV (r+1) (.type "set") [.ref a] Q L:=λX w env l st R=>Mi (R.at i x) ok hz λd vs hd sv=>⟨_,R.new _ hd,k d vs sv.mem sv.len⟩
inductive GX(us:ag V):aV->Prop|list:us.length<=16777216->GX us (.list us)|set:GX us (.set us)
def CV.NF(sh:Sh)(i:aa)(ho:GX us o)(hs:∀u∈us,ej sh u/\bO 7 u=ai)(ff:∀u∈us,u≠.tup [])(hz:us.length<64)(k:∀(b:aa)(vs:ag V),vs.Perm us->Q (.ref b) ((b,.list vs)::L))(x:aB (L[i]?=af (a,o)) tR):CV (r+1) (.builtin "sorted") [.ref a] Q L:=λX w env l st R=>yk (sh:=sh) (by induction ho with|list z=>exact jx.list (R.at i x) z|set=>exact jx.set (R.at i x)) hs (λy=>ff) hz λb vs hb hs=>⟨_,R.new _ hb,k b vs hs.1⟩
def CP.pJ(i:aa)(q:eM ds k')(x:aB (L[i]?=af (d,.dict ds)) tR):CP (r+1) (.builtin "dict.get") [.ref d,k',u] ((cj ds k').getD u) L:=λX w env l st R=>Vq (R.at i x) q ⟨_,R,rfl,rfl⟩
def PE.GY(he:aB (e=.UnaryOp .USub (e1 e) e.pos) tR)(hc:aB (e1 e=.Constant (.int 1) (kk (e1 e)) (e1 e).pos) tR):PE E e r l L (.int (-1)):=λX w a st R=>by exact he▸(Ue ((PE.nat (E:=E) (r:=r) (l:=l) (L:=L) 1 hc X w a st R).mono λu aQ z=>by obtain⟨M,R1,rfl,h⟩:=z;rw[←h];exact Ur ⟨_,R1,rfl,rfl⟩))
def EV.fF(h:PT E (e1 e) r l L b)(hb:b=aD)(k:EV E (e3 e) r Q l L)(he:aB (e=.IfExp (e1 e) (e2 e) (e3 e) e.pos) tR):EV E e r Q l L:=λX w a st R=>by rw[he];refine JR (WT.mono (h X w a st R) λc ak z=>?_);clear h he R;obtain⟨M,R',rfl,h2⟩:=z;subst h2;rw[hb];exact k X w a ak R'
def EV.jy(h:PT E (e1 e) r l L b)(hb:b=ai)(k:EV E (e2 e) r Q l L)(he:aB (e=.IfExp (e1 e) (e2 e) (e3 e) e.pos) tR):EV E e r Q l L:=λX w a st R=>by rw[he];refine JR (WT.mono (h X w a st R) λc ak z=>?_);clear h he R;obtain⟨M,R',rfl,h2⟩:=z;subst h2;rw[hb];exact k X w a ak R'
end
noncomputable def NG:Sh:=.tup λi=>match i with|0=>.str|_=>.int
def abn(x:Node):ej NG (cH x)/\bO 7 (cH x)=ai:=by refine⟨λi v e=>?_,Cj x⟩;induction i using jo with|zero=>rw[←bR e];exact cZ|succ i=>refine aq (bt.mp (e8 e)) λk u aC=>?_;rw[←aC];exact cZ
def NH{α β:Type}{f:α->β}:∀{vs:ag β},(∀v∈vs,∃x,f x=v)->∃xs:ag α,vs=xs.map f:=by intro vs;induction vs with|nil=>exactλu=>⟨[],rfl⟩|cons v vs ih=>intro h;obtain⟨x,rfl⟩:=h v aR;obtain⟨xs,rfl⟩:=ih λv hv=>h v (bK _ hv);exact⟨x::xs,rfl⟩
def abo(P:bh):dN (KK P) 501 "members" 474:=.of (by kernel_rfl)
def pK:kH (.builtin "dict.get")=pure (.type "method_descriptor"):=by rfl
inductive NI(g:HG)(c:aa)(X:Cells)(v:V)(L:Cells):Prop|mk(b:aa)(ns:ag Node):v=.ref b->(∀x,x∈ns↔∃m,m<g.n/\g.rt m=g.rt c/\canon g m=x)->ns.length<=g.n->L=(b,.list (ns.map cH))::X->NI g c X v L
section
variable{H:HA}{g:HG}{T c:aa}{Lk:Cells}{o:aI}{kv:V}{cs:ag aa}
def abp(I:HI g T [])(hc:c<g.n)(hn:g.n<63):Sp 5 479 [.ref H.a,nv c] (NI g c (aJ H g)) (aJ H g):=by
 have hl:=I.GN (I.kq hc);obtain⟨l1,l2⟩:=I.uL _ (I.kq hc);refine Sp.intro abj (WS.ret (EV.drop (EV.bi (.builtin "sorted") kb (AV.cons (EV.bi (.type "set") kt (AV.cons (EV.comp (EV.m PE.name (Mt.inst 0 1 abo) (AV.p1 PE.name (CV.at ((aa1 I.ok hc (br hl (df hn (by decide)))).mono λv L z=>?_)))))))))));obtain⟨b,ms,rfl,hp,hs,rfl⟩:=z;have ml:=hp.length_eq▸hl;have mm:=λm hm=>(l2 m).mp (hp.mem_iff.mp hm);refine cT.nums (λm=>cH (canon g m)) (.list aR (by rw[aN];exact bG (bF (br ml hn)) (aL rfl))) aR ((bj (br ml hn) (aL rfl))) (λm hm=>EV.m PE.name (Mt.inst 1 2 Ng) (AV.p1 PE.name (CP.call (M:=[_]) (Nh I.ok (mm m hm).1) (b6 (l₁:=[_]))))) λa=>AV.nil (CV.GV (us:=ms.map λm=>cH (canon g m)) 0 (by rw[aN];exact br ml hn) (.inr (.inr λu hu=>?_)) λd us hm hu=>AV.nil ?_);·refine aq (bt.mp hu) λm o aC=>?_;exact aC▸(⟨Cj _,⟨_,rfl⟩,λv hv=>by refine aq (bt.mp hv) λm o aC=>?_;rw[←aC];exact GC _ _⟩)
 ·have Cv:=λu h=>bt.mp ((hm u).mp h);rw[aN]at hu;refine CV.NF NG 0 .set (λu h=>by refine aq (Cv u h) λm o aC=>?_;subst aC;exact abn _) (λu h=>by refine aq (Cv u h) λm o aC=>?_;rw[←aC];exactλz=>by have:=V.tup.inj z;contradiction) (l3 0x402a281210113f2a02 hn ml hu) λb2 vs hv=>?_;obtain⟨ns,rfl⟩:∃ns:ag Node,vs=ns.map cH:=NH λv h=>by refine aq (Cv v (hv.mem_iff.mp h)) λm h1 aC=>?_;exact aC▸(⟨_,rfl⟩)
  refine .mid (G:=[_,_,_]) ⟨b2,ns,rfl,λx=>⟨λh=>?_,λh=>?_⟩,?_,rfl⟩;·refine aq (Cv _ (hv.mem_iff.mp (gK h))) λm h1 h2=>?_;exact⟨m,(mm m h1).1,(mm m h1).2,yQ h2⟩
  ·obtain⟨m,h1,h2,rfl⟩:=h;refine aq (bt.mp (hv.mem_iff.mpr ((hm _).mpr (gK (f:=λm=>cH (canon g m)) (hp.mem_iff.mpr ((l2 m).mpr ⟨h1,h2⟩)))))) λy h3 h4=>?_;exact yQ h4▸h3
  ·have:=hv.length_eq;rw[aN]at this;exact l4 21381202972929 ml hu this
end
end
section
def abq:FnAt 115 (sB 11 0) ["self"]:=.eI
def abr:FnAt 307 (sB 16 0) ["self"]:=.eI
def abt:FnAt 389 (sB 18 0) ["self"]:=.eI
def Cw(P:bh):eN (KK P) 203 "nodes"=ai/\eN (KK P) 203 "numbers"=ai/\eN (KK P) 203 "weights"=ai/\eN (KK P) 203 "depths"=ai:=⟨by kernel_rfl,by kernel_rfl,by kernel_rfl,by kernel_rfl⟩
def GZ(P:bh):eN (KK P) 371 "above"=ai/\eN (KK P) 371 "lots"=ai/\eN (KK P) 371 "merged"=ai:=⟨by kernel_rfl,by kernel_rfl,by kernel_rfl⟩
def uQ(P:bh):eN (KK P) 501 "bank"=ai/\eN (KK P) 501 "unions"=ai/\eN (KK P) 501 "edges"=ai/\eN (KK P) 501 "forest"=ai/\eN (KK P) 501 "known"=ai/\eN (KK P) 501 "above"=ai/\eN (KK P) 501 "waiting"=ai:=⟨by kernel_rfl,by kernel_rfl,by kernel_rfl,by kernel_rfl,by kernel_rfl,by kernel_rfl,by kernel_rfl⟩
inductive NJ(x:aa)(v:V)(L:Cells):Prop|mk(B:BA):v=.none->B.a=x->(∀nd ws ds,L=gV B 0 nd ws ds)->NJ x v L
inductive NK(x:aa)(v:V)(L:Cells):Prop|mk(U:UA):v=.none->U.a=x->(∀up bX,L=ix U 0 up bX [])->NK x v L
def abu:Sp 1 115 [.ref x] (NJ x) [(x,.inst 203 dx),(dx,.attrs [])]:=by refine Sp.eE abq λR hR=>?_;refine WS.cons (W1.attr (EV.list (AV.p0 ⟨cF _,λd1=>EV.use PE.name ⟨1,2,λP=>(Cw P).1,rfl,rfl,rfl,?_⟩⟩)));refine WS.cons (W1.attr (EV.om λd2=>EV.use PE.name ⟨2,3,λP=>(Cw P).2.1,rfl,rfl,rfl,?_⟩));refine WS.cons (W1.attr (EV.list (AV.p0 ⟨cF _,λd3=>EV.use PE.name ⟨3,4,λP=>(Cw P).2.2.1,rfl,rfl,rfl,?_⟩⟩)));refine WS.cons (W1.attr (EV.list (AV.p0 ⟨cF _,λd4=>EV.use PE.name ⟨4,5,λP=>(Cw P).2.2.2,rfl,rfl,rfl,?_⟩⟩)));refine WS.perm (b6 (l₁:=[_,_,_,_]).trans ((Rw [(d1,aV.list []),(d2,aV.dict []),(d3,aV.list []),(d4,aV.list [])]).append_left [_,_])) (WS.nil (hR _ _ ⟨⟨x,dx,d1,d2,d3,d4⟩,rfl,rfl,λu u u=>rfl⟩))
def abw:Sp 1 307 [.ref x] (NK x) [(x,.inst 371 dx),(dx,.attrs [])]:=by refine Sp.eE abr λR hR=>?_;refine WS.cons (W1.attr (EV.list (AV.p0 ⟨cF _,λd1=>EV.use PE.name ⟨1,2,λP=>(GZ P).1,rfl,rfl,rfl,?_⟩⟩)));refine WS.cons (W1.attr (EV.list (AV.p0 ⟨cF _,λd2=>EV.use PE.name ⟨2,3,λP=>(GZ P).2.1,rfl,rfl,rfl,?_⟩⟩)));refine WS.cons (W1.attr (EV.list (AV.p0 ⟨cF _,λd3=>EV.use PE.name ⟨3,4,λP=>(GZ P).2.2,rfl,rfl,rfl,?_⟩⟩)));refine WS.perm (b6 (l₁:=[_,_,_]).trans ((Rw [(d1,aV.list []),(d2,aV.list []),(d3,aV.list [])]).append_left [_,_])) (WS.nil (hR _ _ ⟨⟨x,dx,d1,d2,d3,λu=>0⟩,rfl,rfl,λu u=>rfl⟩))
noncomputable def HG.none:HG:=⟨0,λu=>("",[]),λu=>0,λu=>0,id,id,λu=>[],[],[],[],[],[],λu=>[],[]⟩
inductive NL(x:aa)(v:V)(L:Cells):Prop|mk(H:HA):v=.none->H.a=x->L=aJ H .none->NL x v L
def NM:Sp 3 389 [.ref x] (NL x) [(x,.inst 501 dx),(dx,.attrs [])]:=by
 refine Sp.eE abt λR hR=>?_;refine WS.cons (W1.attr (EV.fn (AV.p0 (CV.make λy dy=>Sp.frame abu λv L z=>?_))));obtain⟨B,rfl,rfl,hB⟩:=z;rw[hB (λu=>("",[])) (λu=>0) (λu=>0)];refine⟨rfl,EV.use PE.name ⟨6,7,λP=>(uQ P).1,rfl,rfl,rfl,?_⟩⟩;refine WS.cons (W1.attr (EV.fn (AV.p0 (CV.make λy dy=>Sp.frame abw λv L z=>?_))));obtain⟨U,rfl,rfl,hU⟩:=z;rw[hU id (λu=>[])];refine⟨rfl,EV.use PE.name ⟨11,12,λP=>(uQ P).2.1,rfl,rfl,rfl,?_⟩⟩;refine WS.cons (W1.attr (EV.list (AV.p0 ⟨cF _,λd1=>EV.use PE.name ⟨12,13,λP=>(uQ P).2.2.1,rfl,rfl,rfl,?_⟩⟩)));refine WS.cons (W1.attr (EV.list (AV.p0 ⟨cF _,λd2=>EV.use PE.name ⟨13,14,λP=>(uQ P).2.2.2.1,rfl,rfl,rfl,?_⟩⟩)));refine WS.cons (W1.attr (EV.om λd3=>EV.use PE.name ⟨14,15,λP=>(uQ P).2.2.2.2.1,rfl,rfl,rfl,?_⟩));refine WS.cons (W1.attr (EV.om λd4=>EV.use PE.name ⟨15,16,λP=>(uQ P).2.2.2.2.2.1,rfl,rfl,rfl,?_⟩));refine WS.cons (W1.attr (EV.list (AV.p0 ⟨cF _,λd5=>EV.use PE.name ⟨16,17,λP=>(uQ P).2.2.2.2.2.2,rfl,rfl,rfl,?_⟩⟩)));refine WS.perm (M:=aJ ⟨x,dx,d1,d2,d3,d4,d5,B,U,λu=>0⟩ HG.none) ?_ (WS.nil (hR _ _ ⟨_,rfl,rfl,rfl⟩));have p2:∀{D D' U B X:Cells},D.Perm D'->(D++(U++(B++X))).Perm ((X++D')++(B++(U++[]))):=λ{D D' U B X}h=>by rw[bN];refine((h.append_right _).trans b6).trans ((It (by rw[bW,bW]:(U++(B++X))++D'=U++(B++(X++D')))).trans (b6.trans ((b6.append_right U).trans (.of_eq ?_))));rw[bW]
 exact p2 (U:=ix U 0 id (λu=>[]) []) (B:=gV B 0 (λu=>("",[])) (λu=>0) λu=>0) (X:=[(x,aV.inst 501 dx),(dx,.attrs [("bank",.ref B.a),("unions",.ref U.a),("edges",.ref d1),("forest",.ref d2),("known",.ref d3),("above",.ref d4),("waiting",.ref d5)])]) (Rw [(d1,aV.list []),(d2,aV.list []),(d3,aV.dict []),(d4,aV.dict []),(d5,aV.list [])])
end
section
def abx:FnAt 411 (sB 18 4) ["self","term"]:=.of2
section
variable{H:HA}{g:HG}{T c:aa}{Lk:Cells}{o:aI}{kv:V}{cs:ag aa}
def aby(I:HI g T [])(hw:g.wt=[])(h:bY g o (cs.map g.rt) c)(hv:KV (aJ H g++Lk) cs kv)(hc:∀k∈cs,k<g.n)(hl:cs.length<=2):i9 4 491 [.ref H.a,.str o,kv] (nv c) (aJ H g++Lk):=by
 refine bL h λm hm e bT=>?_;rw[←bT];refine aq (I.seen hw hm) λm' e1 e2=>?_;rw[e]at e1;have y1:m'<g.n:=by refine bL (I.GQ e1 (by rw[dQ];exact gL λk hk=>I.gX k (hc k hk))) λk h1 h2 u=>?_;exact iw h1▸h2
 have lz:cs.length<16777216:=br hl (by decide);refine aq (hv.iter (bF lz)) λG it hG=>?_;refine Sp.eE abk λR hR=>WS.cons (W1.set (EV.m (PE.self 0 1 Nf) (Mt.dict 4 pV pK) (AV.cons (EV.bin .Add (EV.use (PE.tuple1 PE.name) (EV.bi (.type "tuple") kt (AV.cons (EV.comp ?_))))))));refine EV.use PE.name (cT.nums (λk=>nv (g.rt k)) it hG lz (λk hk=>EV.m PE.name (Mt.inst 0 1 jA) (AV.p1 PE.name (CP.call (jB I.ok (hc k hk)) (.refl _)))) λa=>AV.nil (CP.to (CP.wN 0 (by rw[aN];exact bF lz)) (BV.yG (by rw[aN];exact bG (vu hl 1) (by decide)) (AV.cons (EV.use PE.GY (AV.nil ?_))))));have e3:V.tup ([.str o]++cs.map λk=>nv (g.rt k))=cH (o,cs.map g.rt):=aO (λl=>V.tup (.str o::l)) (by rw[dQ];rfl);rw[e3];refine CP.to (CP.pJ 5 I.kk) ?_;rw[(by rw[e1];rfl:((cj g.kn (cH (o,cs.map g.rt))).getD (.int (-1)))=nv m')];exact WS.keep (b6 (l₁:=[_])) (WS.ret (EV.fF (PT.cmp .Lt PE.name (PE.nat 0)) (dS (nG _)) (EV.m PE.name (Mt.inst 0 1 jA) (AV.p1 PE.name (CP.to (CP.call (jB I.ok y1) (.refl _)) (hR _ _ ⟨aO nv e2,rfl⟩))))))
end
end
section
set_option genSizeOf false in set_option genInjectivity false in inductive Tm|lf(o:aI)|un(o:aI)(t:Tm)|bi(o:aI)(t u:Tm)
noncomputable def Tm.op:Tm->aI|.lf o=>o|.un o _=>o|.bi o _ _=>o
noncomputable def Tm.kids:Tm->ag Tm|.lf _=>[]|.un _ t=>[t]|.bi _ t u=>[t,u]
noncomputable def aS:Tm->V|.lf o=>.tup [.str o]|.un o t=>.tup [.str o,aS t]|.bi o t u=>.tup [.str o,aS t,aS u]
def lO(t:Tm):aS t=.tup (.str t.op::t.kids.map aS):=by cases t<;>rfl
def Tm.ind{P:Tm->Prop}(h:∀t,(∀k∈t.kids,P k)->P t)(t:Tm):P t:=by
 induction t with
  |lf o=>exact h _ λk hk=>by cases hk|un o t ih=>exact h _ λk hk=>bU.mp hk▸ih|bi o t u i1 i2=>
   refine h _ λk hk=>?_;rcases cg.mp hk with q|hk;·exact q▸i1
   ·exact bU.mp hk▸i2
noncomputable def Tm.dep:Tm->aa|.lf _=>1|.un _ t=>1+t.dep|.bi _ t u=>1+max t.dep u.dep
def Tm.pL{t k:Tm}(h:k∈t.kids):k.dep<t.dep:=by
 induction t using Tm.casesOn with
  |lf o=>cases h|un o t=>exact(bU.mp h)▸(Nat.lt_add_of_pos_left xC)|bi o t u=>
   refine(?_:k.dep<1+max t.dep u.dep);rcases cg.mp h with rfl|h;·exact l2 4757422337 (Nat.le_max_left _ _)
   ·rw[bU.mp h];exact l2 4757422337 (Nat.le_max_right _ _)
def Tm.ny(t:Tm):0<t.dep:=by cases t with|lf o=>exact xC|un o t=>exact agB _ xC|bi o t u=>exact agB _ xC
def Tm.two(t:Tm):t.kids.length<=2:=by cases t<;>exact aL rfl
noncomputable def Tm.all(p:aI->bw):Tm->bw|.lf o=>p o|.un o t=>p o&&t.all p|.bi o t u=>p o&&(t.all p&&u.all p)
def Tm.G3{t:Tm}(h:t.all p=ai):p t.op=ai:=by induction t using Tm.casesOn with|lf o=>exact h|un o t=>exact(bM.mp h).1|bi o t u=>exact(bM.mp h).1
def Tm.NN{t k:Tm}(h:t.all p=ai)(hk:k∈t.kids):k.all p=ai:=by
 induction t using Tm.casesOn with
  |lf o=>cases hk|un o t=>rw[bU.mp hk];exact(bM.mp h).2|bi o t u=>
   have h:=bM.mp (bM.mp h).2;rcases cg.mp hk with rfl|hk;·exact h.1
   ·rw[bU.mp hk];exact h.2
noncomputable def ou(x:Node)(l:ag Node):aa×ag Node:=match l.findIdx? λy=>decide (y=x)with|af i=>(i,l)|ah=>(l.length,l++[x])
noncomputable def dO:Tm->ag Node->aa×ag Node|.lf o,l=>ou (o,[]) l|.un o t,l=>ou (o,[(dO t l).1]) (dO t l).2|.bi o t u,l=>ou (o,[(dO t l).1,(dO u (dO t l).2).1]) (dO u (dO t l).2).2
noncomputable def ow:ag Tm->ag Node->ag aa×ag Node|[],l=>([],l)|t::ts,l=>((dO t l).1::(ow ts (dO t l).2).1,(ow ts (dO t l).2).2)
def abz(t:Tm)(l:ag Node):dO t l=ou (t.op,(ow t.kids l).1) (ow t.kids l).2:=by induction t using Tm.casesOn<;>rfl
structure cO(g:HG)(l:ag Node):Prop where
 hi:HI g 0 []
 es:g.es=[]
 fs:g.fs=[]
 wt:g.wt=[]
 n:g.n=l.length
 nd:∀i,i<g.n->l[i]?=af (g.nd i)
def cO.rt(F:cO g l)(hi:i<g.n):g.rt i=i:=by
 have h1:=F.hi.uK;rw[F.fs]at h1;refine afv λq=>?_;have h2:=sV F.hi.qJ (l₂:=(bS g.n).erase i) λk hk=>by obtain⟨k1,k2⟩:=(F.hi.mC k).mp hk;exact(z9 λ(z:k=i)=>q (z▸k2)).mpr (dT.mpr k1)
 rw[Q4 (dT.mpr hi),iR]at h2;exact l3 0xa12d3201100b94 h1 h2 (fY (l2 18575618 hi))
def cO.mem(F:cO g l)(h:x∈l):∃i,i<g.n/\g.nd i=x:=by refine dh (oP.mp h) λi hi=>?_;have hl:=F.n▸(iQ.mp hi).1;exact(aA i hl (bR ((F.nd i hl).symm.trans hi)))
def cO.idx(F:cO g l)(hm:m<g.n)(e:g.nd m=x):ou x l=(m,l):=by delta ou;have:=F.nd m hm;cases q:l.findIdx? λy=>decide (y=x)with|none=>exact bA (H7.mp q x (e8 (e▸this))) (by rw[c7 rfl];exact rA)|some i=>refine aq (QU.mp q) λhi h1 u=>?_;have iq:=F.n▸hi;have h2:=F.nd i iq;rw[gy hi]at h2;clear this;obtain rfl:=F.hi.dist i m iq hm ((bR h2).symm.trans ((gD h1).trans e.symm));rfl
def cO.none(F:cO g l)(h:∀i,i<g.n->g.nd i≠x):ou x l=(g.n,l++[x]):=by delta ou;rw[H7.mpr λy hy=>dS λz=>by refine aq (F.mem hy) λi hi e=>?_;exact h i hi (e.trans z),F.n]
inductive G4(p:aa×ag Node)(v:V)(g':HG):Prop|mk:v=nv p.1->cO g' p.2->p.1<g'.n->G4 p v g'
def cO.add(F:cO g l)(hk:∀k∈ks,k<g.n)(h:y5 g 0 o ks v g'):G4 (ou (o,ks) l) v g':=by
 induction h with
  |old m hm e hv hg=>rw[hg];rw[F.idx hm e];exact⟨hv,F,hm⟩|new ws ds hn hv lk=>
   rw[F.none hn];obtain⟨cm,I,tm,_⟩:=lk;have e1:g'.n=g.n+1:=tm.eq;have cn:∀m,m<g.n+1->canon (g.gY o ks ws ds) m=upd g.nd g.n (o,ks) m:=λm hm=>by
    refine jq rfl ?_;refine(?_:(upd g.nd g.n (o,ks) m).2.map (upd g.rt g.n g.n)=_);have:∀k∈(upd g.nd g.n (o,ks) m).2,k<g.n:=λk eu=>by
     rcases zY.mp hm with hm|rfl;·rw[eZ (cV hm)]at eu;exact F.hi.kids hm k eu
     ·rw[dH]at eu;exact hk k eu
    rw[wZ this];exact(gL λk hk=>F.rt (this k hk)).trans (qb _)
   refine gf (cm λm hm z=>by
    simp only[cn m hm,cn g.n (f9 _),dH]at z;rcases zY.mp hm with hm|rfl;·rw[eZ (cV hm)]at z;exact bA z (hn m hm)
    ·rfl) λq1 q2 q3=>?_;refine⟨hv,⟨I,q1.trans F.es,q2.trans F.fs,q3.trans F.wt,e1.trans (by rw[bD,F.n];rfl),λi hi=>?_⟩,by exact e1▸(f9 _)⟩;rw[e1]at hi;rw[tm.nd i hi];refine(?_:(l++[(o,ks)])[i]?=af (upd g.nd g.n (o,ks) i));rcases zY.mp hi with hi|rfl;·rw[eZ (cV hi),xt (F.n▸hi)];exact F.nd i hi
   ·rw[dH,F.n];exact QY ..
end
section
def Cx:l.length<=(ou x l).2.length:=by
 delta ou;split;·exact bq _
 ·exact bD▸(dE ..)
def NO:∀{l:ag Node},l.length<=(dO t l).2.length:=by induction t with|lf o=>intro l;exact Cx|un o t ih=>intro l;exact bG ih Cx|bi o t u i1 i2=>intro l;exact bG i1 (bG i2 Cx)
def abA:∀{ts:ag Tm}{l:ag Node},l.length<=(ow ts l).2.length:=by intro ts;induction ts with|nil=>intro l;exact bq _|cons t ts ih=>intro l;exact bG NO ih
def G5(P:bh):dN (KK P) 501 "put" 411:=.of (by kernel_rfl)
def NP(P:bh):dN (KK P) 501 "add" 406:=.of (by kernel_rfl)
inductive NQ(t:Tm)(a:aa)(l0:ag Node)(rest ys:ag V)(b:HA×HG):Prop|mk(todo:ag Tm)(ns:ag aa)(l:ag Node):b.1.a=a->(∀k∈todo,k∈t.kids)->rest=todo.map aS->ys=ns.map nv->cO b.2 l->ow t.kids l0=(ns++(ow todo l).1,(ow todo l).2)->(∀k∈ns,k<b.2.n)->ns.length+todo.length=t.kids.length->NQ t a l0 rest ys b
def NR(hp:∀o,p o=ai->oo o):∀(t:Tm){d:aa}{H:HA}{g:HG}{l:ag Node},t.dep<=d->t.all p=ai->cO g l->(dO t l).2.length<999->Sp (7+d) 411 [.ref H.a,aS t] (sJ H.a (G4 (dO t l))) (aJ H g):=by
 intro t;induction t using Tm.ind with
  |h t ih=>
   intro d H g l hd ha F hz;refine dh (sU (jY (bj t.ny hd))) λd bQ=>?_;subst bQ;rw[lO];have kz:(t.kids.map aS).length<1000:=by rw[aN];exact br t.two (by decide)
   rw[abz]at hz⊢;have Cy:=br Cx hz;refine Sp.eE abx λR hR=>WS.ret (EV.m PE.name (Mt.inst 0 1 NP) (AV.cons (EV.use (PE.oj PE.name (PE.nat 0) rfl (bF (bj (xA kz) (by decide)))) (AV.cons (EV.bi (.type "tuple") kt (AV.cons (EV.comp (EV.use (PE.tail PE.name (df kz (by decide))) ?_))))))));refine⟨λb:HA×HG=>aJ b.1 b.2,NQ t H.a l,(H,g),.tup,⟨t.kids,[],l,rfl,λu h=>h,rfl,rfl,F,rfl,(λu h=>by contradiction),oZ _⟩,rfl,λv rest ys b z=>⟨cZ,?_⟩,λys b z=>⟨cZ,λa=>?_⟩,.inl (d8 _ _ rfl)⟩;·
    obtain⟨H1,g1⟩:=b;obtain⟨todo,ns,l1,ea,hk,e1,rfl,F1,e2,hn,hl⟩:=z;have ea:H1.a=H.a:=ea;induction todo using b7 with
     |nil=>nomatch e1|cons k todo=>
      obtain⟨rfl,rfl⟩:=cq e1;have dM:=hk k aR;have BG:(dO k l1).2.length<999:=by have:=aO (λp=>p.2) e2;have:(ow t.kids l).2=(ow todo (dO k l1).2).2:=this;rw[this]at Cy;exact br abA Cy
      refine(aA _ (.name _ _ rfl rfl) (ia.nil ((a0 rfl).mpr ?_)));rw[←ea];refine EV.m PE.name (Mt.inst 0 1 G5) (AV.p1 PE.name (CV.call (M:=[]) (ih k dM (d:=d) (H:=H1) (by have:=Tm.pL dM;exact nE (bj this hd)) (Tm.NN ha dM) F1 BG) (by rw[bN]) (λv L z=>?_) (dF.mpr ((bq _)))));obtain⟨H2,g2,y6,⟨rfl,F2,lt⟩,rfl⟩:=z;refine(dD ?_ (aA ((H2,g2)) ⟨todo,ns++[(dO k l1).1],(dO k l1).2,y6,λk h=>hk k (bK _ h),rfl,by rw[cy];rfl,F2,?_,?_,?_⟩ (by rw[bN])));·have:=t.two;rw[aN];exact l3 0x10000007a082b2121093 hl this
      ·simp only[e2,bW];rfl
      ·intro j hj;rcases cw.mp hj with hj|hj;·exact bj (hn j hj) (by rw[F1.n,F2.n];exact NO)
       ·rw[bU.mp hj];exact lt
      ·simp only[bD,pW];dsimp only[lU]at hl;exact l3 36342287421587 hl
   ·obtain⟨H1,g1⟩:=b;obtain⟨todo,ns,l1,ea,hk,e1,rfl,F1,e2,hn,hl⟩:=z;have ea:=ea;obtain rfl:=f6.mp e1.symm;have e3:ow t.kids l=(ns,l1):=e2.trans (jq (bN _) rfl);have nl:ns.length<=2:=by have:=t.two;exact bG (e9 hl) this
    rw[e3]at hR Cy;refine AV.nil (CP.to (CP.wN (us:=ns.map nv) 0 (by rw[aN];exact bG nl (by decide))) (AV.nil ?_));rw[←ea];refine CV.perm (M:=aJ H1 g1) (G:=[_]) (b6 (l₁:=[_])) (CV.call (M:=[]) (ND (Lk:=[]) (l:=ns) F1.hi (by rw[F1.n];exact xA Cy) (hp _ (Tm.G3 ha)) (λL=>.tup) nl hn) (by rw[bN,bN]) (λv L z=>?_) (dF.mpr (dE 7 d)));obtain⟨H2,g2,e4,z,rfl⟩:=z;rw[bN];exact hR _ _ ⟨H2,g2,e4.trans ea,F1.add hn z,rfl⟩
end
section
def abB:FnAt 86 (sA 7) ["t"]:=.eI
def abD:FnAt 91 (sA 8) ["t"]:=.eI
def abE:FnAt 96 (sA 9) ["t"]:=.eI
def abF:FnAt 101 (sA 10) ["t"]:=.eI
section
variable{E:EF}{e:aT}{r:aa}{l:Lc}{L:Cells}{x y:aI}{b:bw}{u:V}{us:ag V}{Q:V->Cells->Prop}
def PE.abG(h:PE E (e1 e) r l L (.str x))(hz:x.length<=16777216)(he:∃k p1 p,e=.Subscript (e1 e) (.Slice ah (af (.Constant (.int 1) k p1)) ah p) e.pos:=by exact⟨_,_,_,rfl⟩)(hx:aB (∀o t r,IK (e1 e) (.str o t) r=pure ()) tJ):PE E e r l L (.str (Sv x ah (af 1))):=λX w a st R=>by refine xS he λk p1 p he=>?_;exact he▸(U8 ((h X w a st R).mono λu ak z=>by obtain⟨M,R',rfl,h2⟩:=z;exact⟨_,rfl,hz,M,R',rfl,h2⟩) hx)
def PE.wO(h1:PE E (e1 e) r l L (.str x))(h2:PE E (e2 e) r l L (.str y))(he:aB (e=.Compare (e1 e) [.Eq] [e2 e] e.pos) tR)(hm:aB (i7 .Eq (e2 e)=aD) tF):PE E e r l L (.bool (decide (x=y))):=EV.cmp .Eq (EV.use h1 (EV.use h2 λX w env l st R=>JY ⟨_,R,rfl,rfl⟩)) he hm
def PE.cmp(op:AG)(h1:PE E (e1 e) r l L (nv a))(h2:PE E (e2 e) r l L (nv d))(h:aB (lH op a d=af b) tR)(he:aB (e=.Compare (e1 e) [op] [e2 e] e.pos) tR)(hm:aB (i7 op (e2 e)=aD) tF):PE E e r l L (.bool b):=EV.cmp op (EV.use h1 (EV.use h2 (BV.lH h))) he hm
end
noncomputable def isVar:Tm->bw|.lf o=>decide (Sv o ah (af 1)="?")|_=>aD
noncomputable def qP(o:aI):bw:=g9 o.length 16777216
def Cz(h:qP t.op=ai):i9 1 86 [aS t] (.bool (isVar t)) []:=by
 have kz:(V.str t.op::t.kids.map aS).length<=16777216:=by rw[(by rw[lU,aN]:(V.str t.op::t.kids.map aS).length=t.kids.length+1)];exact bG (mO t.two) (by decide)
 rw[lO];refine Sp.eE abB λR hR=>WS.ret (EV.sG (EV.use (PE.cmp .Eq (EV.bi (.builtin "len") kb (AV.p1 PE.name (CP.Gv kz))) (PE.nat 1)) (aA _ rfl ?_)));induction t using Tm.casesOn with|lf o=>exact EV.use (PE.wO (PE.abG (PE.oj PE.name (PE.nat 0) rfl kz) (aL h)) PE.str) (hR _ _ ⟨rfl,rfl⟩)|un o t=>exact hR _ _ ⟨rfl,rfl⟩|bi o t u=>exact hR _ _ ⟨rfl,rfl⟩
def abH{t:Tm}(h1:m∈t.kids.map (λk=>(k.dep:bp))++[0])(h2:∀a∈t.kids.map (λk=>(k.dep:bp))++[0],a<=m):1+m=(t.dep:bp):=by
 induction t using Tm.casesOn with
  |lf o=>rw[bU.mp h1];rfl|un o t=>
   have a1:=h2 _ aR;rcases cg.mp h1 with rfl|h1;·exact rfl
   ·rw[bU.mp h1]at a1;have:=t.ny;lia|bi o t u=>
   have a1:=h2 _ aR;have a2:=h2 _ (bK _ aR);have:=t.ny;refine(?_:1+m=((1+max t.dep u.dep:aa):bp));clear h2;rcases cg.mp h1 with rfl|h1;·lia
   ·clear a2;rcases cg.mp h1 with rfl|h1;·lia
    ·rw[bU.mp h1]at a1;lia
def abJ:∀(t:Tm){d:aa},t.dep<=d->i9 (1+d) 91 [aS t] (nv t.dep) []:=by intro t;induction t using Tm.ind with|h t ih=>intro d hd;refine dh (sU (jY (bj t.ny hd))) λd bQ=>?_;subst bQ;rw[lO];refine Sp.eE abD λR hR=>WS.ret (EV.drop (EV.bin .Add (EV.use (PE.nat 1) (EV.bi (.builtin "max") kb (AV.cons (EV.bin .Add (EV.comp (EV.use (PE.tail PE.name (by rw[aN];exact br t.two (by decide))) (cT.yJ aS (λk=>V.int k.dep) .tup cZ (br t.two (by decide)) (λk hk=>EV.fn (AV.p1 PE.name (CP.call (ih k hk (d:=d) (by have:=Tm.pL hk;exact nE (bj this hd))) (.refl _) (dF.mpr (bq _))))) λa=>?_)))))))));refine EV.list (AV.p1 (PE.nat 0) ⟨aL rfl,λb=>BV.pE (vs:=t.kids.map λk=>V.int k.dep) (us:=[nv 0]) 1 0 (by rw[aN];exact bG (mO t.two) (by decide)) λc=>AV.nil (CV.max (ns:=t.kids.map (λk=>(k.dep:bp))++[0]) 0 (by rw[bD];exact i8 _) (λm h1 h2=>BV.add ⟨[],_,.refl _,hR _ _ ⟨aO V.int (abH h1 h2),rfl⟩⟩) ?_)⟩);rw[cy,dQ];rfl
end
section
noncomputable def Tm.subs:Tm->ag Tm|.lf o=>[.lf o]|.un o t=>.un o t::t.subs|.bi o t u=>.bi o t u::(t.subs++u.subs)
def Tm.uR(t:Tm):t.subs=t::t.kids.flatMap Tm.subs:=by induction t using Tm.casesOn with|lf o=>rfl|un o t=>exact aO (_::·) (bN _).symm|bi o t u=>refine(?_:_::(t.subs++u.subs)=_::(t.subs++(u.subs++[])));rw[bN]
def abK{α:Type}{l r:ag α}{x:α}(h:l.drop n=x::r):l[n]?=af x/\l.drop (n+1)=r:=by have h1:=aO List.head? h;have h2:=aO xM h;rw[List.head?_drop]at h1;rw[List.tail_drop]at h2;exact(dD h1 h2)
def pM(p:ag V×Tm):V:=.tup [.tup p.1,aS p.2]
inductive NS(t:Tm)(v:V)(L:Cells):Prop|mk(b:aa)(ps:ag (ag V×Tm)):v=.ref b->ps.map (·.2)=t.subs->(∀p∈ps,p.1.length<t.dep)->L=[(b,.list (ps.map pM))]->NS t v L
inductive qQ(t:Tm)(rest:ag V)(ps:ag (ag V×Tm)):Prop|mk(n:aa):rest=(qu (t.kids.map aS)).drop n->ps.map (·.2)=t::(t.kids.take n).flatMap Tm.subs->(∀p∈ps,p.1.length<t.dep)->qQ t rest ps
def qQ.next(h:qQ t (v::rest) ps):∃(n:aa)(k:Tm),v=.tup [nv n,aS k]/\k∈t.kids/\∀qs:ag (ag V×Tm),qs.map (·.2)=k.subs->(∀p∈qs,p.1.length<k.dep)->qQ t rest (ps++qs.map λq=>(nv n::q.1,q.2)):=by
 obtain⟨n,h1,h2,h3⟩:=h;refine bx (abK h1.symm) λh4 h5=>?_;unfold qu at h4;rw[af6,jh,ago]at h4;refine aq (lR.mp h4) λk hk aC=>?_;rw[←aC];have dM:=e8 hk;refine(bZ n k rfl dM (λqs q1 q2=>⟨n+1,h5.symm,?_,λp hp=>?_⟩));·simp only[cy,h2,dQ,List.take_add_one,hk,Dx];show _++qs.map (·.2)=_::(_++(k.subs++[]));rw[q1,bN];rfl
 ·rcases cw.mp hp with hp|hp;·exact h3 p hp
  ·refine aq (bt.mp hp) λq hq aC=>?_;rw[←aC];exact bj (xA (q2 q hq)) (Tm.pL dM)
def qQ.fin(h:qQ t [] ps):ps.map (·.2)=t.subs/\∀p∈ps,p.1.length<t.dep:=by obtain⟨n,h1,h2,h3⟩:=h;have:=aO xI h1;rw[RB]at this;delta qu at this;rw[List.length_mapIdx,aN]at this;exact⟨by rw[h2,z7 (by exact l3 36773662097588 this kQ),←Tm.uR],h3⟩
def Tm.sz(t:Tm):aa:=t.subs.length
def Tm.abL{t k:Tm}(h:k∈t.kids):k.sz<t.sz:=by
 induction t using Tm.casesOn with
  |lf o=>cases h|un o t=>exact(bU.mp h)▸(f9 _)|bi o t u=>
   refine(?_:k.subs.length<(t.subs++u.subs).length+1);rw[bD];rcases cg.mp h with rfl|h;·exact Q7 (i8 _)
   ·exact(bU.mp h)▸(ie _ _)
def qQ.len(h:qQ t rest ps):ps.length<=t.sz:=by obtain⟨n,h1,h2,h3⟩:=h;have:=aO xI h2;delta Tm.sz;rw[Tm.uR,←Rd n t.kids,Dx,lU,bD];rw[aN]at this;exact l3 144368409859 this
def abM:∀(t:Tm){d:aa},t.dep<=d->d<100->t.sz<1000->Sp (1+d) 101 [aS t] (NS t) []:=by
 intro t;induction t using Tm.ind with
  |h t ih=>
   intro d hd NT hz;obtain⟨d,rfl⟩:=sU (jY (bj t.ny hd));have kz:(t.kids.map aS).length<16777216:=by rw[aN];exact br t.two (by decide)
   refine Sp.eE abF λR hR=>WS.cons (W1.set (EV.list (AV.cons (EV.tuple (AV.cons (EV.tuple (AV.p0 ⟨cF _,AV.p1 PE.name ⟨aL rfl,AV.nil ⟨aL rfl,λc=>?_⟩⟩⟩)))))));have te:=lO t;refine WS.cons (W1.enum (us:=t.kids.map aS) (PE.tail (u:=.str t.op) (PE.name (lO t▸rfl)) kz) ⟨λo=>.cons "t" (aS t) (.cons "found" (.ref c) .nil),λps=>[(c,.list (ps.map pM))],qQ t,[([],t)],⟨0,rfl,rfl,λp hp=>by exact(bU.mp hp)▸t.ny⟩,rfl,rfl,λv rest ps h=>⟨cZ,?_⟩,λps h=>⟨cZ,?_⟩⟩);·
    refine ba h.next λn k aC dM nx=>?_;rw[aC];refine(aA _ (.tup _ _ ["k","kid"] rfl (λo=>rfl) rfl) ?_);have kz:=df (Tm.abL dM) hz;refine WS.cons (W1.expr (EV.m PE.name (Mt.list 0 Dr B4) (AV.cons (EV.comp (EV.fn (AV.p1 PE.name (CV.call (L:=[]) (ih k dM (d:=d) (by have:=Tm.pL dM;exact nE (bj this hd)) ((Ir NT)) kz) (.refl _) (λv L z=>?_) (dF.mpr (bq _)))))))));obtain⟨b,qs,rfl,q1,q2,rfl⟩:=z;have ql:qs.length<1000:=by rw[←aN (f:=λq:ag V×Tm=>q.2),q1];exact kz
    have pl:=h.len;refine cT.B8 pM (λq=>pM (nv n::q.1,q.2)) (.list (aR) (by rw[aN];exact bF (bj ql (aL rfl)))) aR ((lp _ ql)) (.inr (pd _ _ _ rfl)) (λq hq=>(aA _ (.tup _ _ ["path","part"] rfl (λo=>rfl) rfl rfl) (EV.tuple (AV.p2 (PE.yG (PE.tuple1 PE.name) PE.name (by have:=q2 q hq;have:=Tm.pL dM;rw[pW];exact l4 0x10000007a21b97032322642a1d21d01 hd NT ‹_› this)) PE.name ⟨aL rfl,rfl,rfl⟩)))) λa=>AV.nil (CV.extend (vs:=ps.map pM) (us:=qs.map λq=>pM (nv n::q.1,q.2)) 2 0 ?_ (by rw[aN,aN];exact l3 0x10000007a12970213e83a123e83a02 hz ql pl));refine WS.keep (M:=[(c,.list ((ps++qs.map λq=>(nv n::q.1,q.2)).map pM))]) (G:=[(a,.list (qs.map λq=>pM (nv n::q.1,q.2))),(b,.list (qs.map pM))]) ?_ (WS.fin (bH (ps++qs.map λq=>(nv n::q.1,q.2)) rfl rfl (nx qs q1 q2)) rfl);rw[cy,dQ];exact(b6 (l₁:=[_,_]) (l₂:=[_]))
   ·refine bx h.fin λh1 h2=>?_;exact WS.ret (EV.use PE.name (hR _ _ ⟨c,ps,rfl,h1,h2,rfl⟩))
end
section
def Tm.vars(t:Tm):ag aI:=(t.subs.filter isVar).map Tm.op
def Tm.abN:∀{t:Tm},t.all p=ai->∀s∈t.subs,p s.op=ai:=by
 intro t;induction t using Tm.ind with
  |h t ih=>
   intro h s hs;rw[Tm.uR]at hs;rcases cg.mp hs with rfl|hs;·exact Tm.G3 h
   ·refine aq (mN.mp hs) λk hk hs=>?_;exact ih k hk (Tm.NN h hk) s hs
inductive NU(t:Tm)(v:V)(L:Cells):Prop|mk(b:aa)(ns:ag aI):v=.ref b->(∀x,x∈ns↔x∈t.vars)->ns.length<=t.sz->L=[(b,.list (ns.map V.str))]->NU t v L
def G6(hd:t.dep<=9)(hz:t.sz<63)(ha:t.all qP=ai):Sp 11 96 [aS t] (NU t) []:=by
 refine Sp.eE abE λR hR=>WS.ret (EV.drop (EV.bi (.builtin "sorted") kb (AV.cons (EV.bi (.type "set") kt (AV.cons (EV.comp (EV.fn (AV.p1 PE.name (CV.at ((abM t (d:=9) hd (by decide) (df hz (by decide))).mono λv L z=>?_))))))))));obtain⟨b,ps,rfl,h1,h2,rfl⟩:=z;have pl:ps.length<63:=by rw[←aN (f:=λp:ag V×Tm=>p.2),h1];exact hz
 have vm:∀x,x∈(ps.filter λp=>isVar p.2).map (λp=>p.2.op)↔x∈t.vars:=λx=>by delta Tm.vars;exact h1▸List.filter_map.symm▸dQ.symm▸Iff.rfl
 have fl:((ps.filter λp=>isVar p.2).map λp=>V.str p.2.op).length<=ps.length:=by rw[aN];exact Du ..
 refine cT.pure pM (λp=>isVar p.2) (λp=>V.str p.2.op) (.list aR (by rw[aN];exact l1 0x10000007a073f2a02 pl)) aR (by exact l1 0x10000007a083f2a02 pl) (.inr (pd _ _ _ rfl)) (λp hp=>(bH _ (.tup _ _ ["path","part"] rfl (λo=>rfl) rfl rfl) (ia.one (PT.of (EV.fn (AV.p1 PE.name (CP.call (Cz (t:=p.2) ?_) (.refl _)))))) (λo=>PE.oj (us:=.str p.2.op::p.2.kids.map aS) (PE.name (aO af (lO p.2))) (PE.nat 0) rfl ?_))) λa=>AV.nil (CV.GV (us:=(ps.filter λp=>isVar p.2).map λp=>V.str p.2.op) 0 (by exact l2 0x3f2a180113f2a02 pl fl) (.inr (.inl ⟨(ps.filter λp=>isVar p.2).map λp=>p.2.op,by rw[dQ];rfl⟩)) λc us hm hl=>AV.nil ?_);·exact Tm.abN ha _ (h1▸gK hp)
 ·rw[lU,aN];exact bG (mO p.2.two) (by decide)
 ·have um:∀u∈us,∃x,V.str x=u:=λu h=>by refine aq (bt.mp ((hm u).mp h)) λp o aC=>?_;rw[←aC];exact⟨_,rfl⟩
  refine CV.NF .str 0 .set (λu h=>by obtain⟨x,rfl⟩:=um u h;exact⟨cZ,rfl⟩) (λu h=>by obtain⟨x,rfl⟩:=um u h;exactλz=>by contradiction) (l3 0x402a281210113f2a02 pl fl hl) λd vs hp=>?_;obtain⟨ns,rfl⟩:=NH λv hv=>um v (hp.mem_iff.mp hv);have sm:∀x,x∈ns↔V.str x∈us:=λx=>⟨λh=>hp.mem_iff.mp (gK h),λh=>by refine aq (bt.mp (hp.mem_iff.mpr h)) λy hy e=>?_;exact V.str.inj e▸hy⟩;refine .mid (G:=[_,_,_]) (M:=[]) (hR _ _ ⟨d,ns,rfl,λx=>(sm x).trans (((hm _).trans ?_).trans (vm x)),?_,rfl⟩);·
   constructor;·intro h;refine aq (bt.mp h) λp hp e=>?_;exact bt.mpr ⟨p,hp,V.str.inj e⟩
   ·intro h;refine aq (bt.mp h) λp hp e=>?_;exact bt.mpr ⟨p,hp,aO V.str e⟩
  ·have:=hp.length_eq;rw[aN]at this;have pz:ps.length=t.sz:=by rw[←aN (f:=λp:ag V×Tm=>p.2),h1];rfl
   exact l5 0x437413233021101 fl hl this pz
end
section
abbrev Su:=aI->d6 aa
noncomputable def Ev(R:Rel)(σ:Su):Tm->aa->Prop|.lf o,c=>(isVar (.lf o)=ai/\σ o=af c)\/(isVar (.lf o)=aD/\R o [] c)|.un o p,c=>∃k,Ev R σ p k/\R o [k] c|.bi o p q,c=>∃k,Ev R σ p k/\∃j,Ev R σ q j/\R o [k,j] c
noncomputable def c6(R:Rel)(σ:Su):ag Tm->ag aa->Prop|[],cs=>cs=[]|t::ts,cs=>∃c ds,cs=c::ds/\Ev R σ t c/\c6 R σ ts ds
section
variable{R R':Rel}{σ τ:Su}{t:Tm}{c:aa}
def Ev.var(h:isVar t=ai):Ev R σ t c↔σ t.op=af c:=by induction t using Tm.casesOn with|lf o=>exact⟨λz=>z.elim ahz λz=>(by have:=h.symm.trans z.1;contradiction),λz=>.inl (dD h z)⟩|un o p=>contradiction|bi o p q=>contradiction
def Ev.app(h:isVar t=aD):Ev R σ t c↔∃cs,c6 R σ t.kids cs/\R t.op cs c:=by induction t using Tm.casesOn with|lf o=>exact⟨λz=>z.elim (λz=>(by have:=h.symm.trans z.1;contradiction)) λz=>(aA ([]) rfl z.2),λzf=>aq zf λcs e z=>.inr ⟨h,(e:cs=[])▸z⟩⟩|un o p=>exact⟨λzf=>aq zf λk a b=>(aA ([k]) (bZ k ([]) rfl a rfl) b),λzf=>by obtain⟨cs,⟨k,ds,e,a,e2⟩,b⟩:=zf;exact(aA k a (by rw[e,(e2:ds=[])]at b;exact b))⟩|bi o p q=>exact⟨λzf=>aq zf λk a bg=>aq bg λj b d=>(aA ([k,j]) (bZ k ([j]) rfl a (bZ j ([]) rfl b rfl)) d),λzf=>by refine aq zf λcs bQ d=>?_;obtain⟨k,ds,e,a,j,es,e2,b,e3⟩:=bQ;exact(aA k a (aA j b (by rw[e,e2,(e3:es=[])]at d;exact d)))⟩
def Ev.mono(h:∀o cs c,R o cs c->R' o cs c):∀{t:Tm}{c:aa},Ev R σ t c->Ev R' σ t c:=by intro t;induction t with|lf o=>exactλz=>z.imp id λz=>⟨z.1,h _ _ _ z.2⟩|un o p ih=>exactλzf=>aq zf λk a b=>(aA k (ih a) (h _ _ _ b))|bi o p q i1 i2=>exactλzf=>aq zf λk a bg=>aq bg λj b d=>(aA k (i1 a) (aA j (i2 b) (h _ _ _ d)))
def c6.mono(h:∀o cs c,R o cs c->R' o cs c):∀{ts:ag Tm}{cs:ag aa},c6 R σ ts cs->c6 R' σ ts cs:=by intro ts;induction ts with|nil=>exactλe=>e|cons t ts ih=>exactλzf=>ba zf λc ds e a b=>(bZ c ds e (Ev.mono h a) (ih b))
def c6.snoc:∀{ts:ag Tm}{cs:ag aa}{t:Tm}{c:aa},c6 R σ ts cs->Ev R σ t c->c6 R σ (ts++[t]) (cs++[c]):=by intro ts;induction ts with|nil=>intro cs t c e h;rw[(e:cs=[])];exact(bZ c ([]) rfl h rfl)|cons u ts ih=>intro cs t c⟨k,ds,e,a,b⟩h;exact e▸((bZ k (ds++[c]) rfl a (ih b h)))
def c6.cut:∀{ts us:ag Tm}{cs:ag aa},c6 R σ (ts++us) cs->∃as bs,cs=as++bs/\c6 R σ ts as/\c6 R σ us bs:=by intro ts;induction ts with|nil=>intro us cs h;exact(bZ ([]) cs rfl rfl h)|cons t ts ih=>intro us cs zi;refine ba zi λc ds e a b=>?_;refine ba (ih b) λas bs e2 h1 h2=>?_;exact(bZ (c::as) bs (by rw[e,e2];rfl) (bZ c as rfl a h1) h2)
def Ev.fn(F:Fn R):∀{t:Tm}{c d:aa},Ev R σ t c->Ev R σ t d->c=d:=by
 intro t;induction t with
  |lf o=>
   rintro c d(⟨h1,h2⟩|⟨h1,h2⟩)(⟨h3,h4⟩|⟨h3,h4⟩);·exact bR (h2.symm.trans h4)
   ·exact by have:=h1.symm.trans h3;contradiction
   ·exact by have:=h1.symm.trans h3;contradiction
   ·exact F _ _ _ _ h2 h4|un o p ih=>rintro c d⟨k,a,b⟩⟨k',a',b'⟩;obtain rfl:=ih a a';exact F _ _ _ _ b b'|bi o p q i1 i2=>rintro c d⟨k,a,j,b,e⟩⟨k',a',j',b',e'⟩;obtain rfl:=i1 a a';obtain rfl:=i2 b b';exact F _ _ _ _ e e'
end
def Nd(g:HG):Rel:=λo ms m=>m<g.n/\g.nd m=(o,ms)
def Nd.fn(I:HI g T ex):Fn (Nd g):=λo cs c c' h h'=>I.dist c c' h.1 h'.1 (h.2.trans h'.2.symm)
def Nd.grow(G:Grow g g')(o:aI)(cs:ag aa)(c:aa)(h:Nd g o cs c):Nd g' o cs c:=⟨bj h.1 G.le,(G.nd c h.1).trans h.2⟩
def c6.fn:∀{ts:ag Tm}{cs ds:ag aa},c6 (Nd g) σ ts cs->c6 (Nd g) σ ts ds->HI g T ex->cs=ds:=by intro ts;induction ts with|nil=>intro cs ds h k _;exact(h:cs=[]).trans (k:ds=[]).symm|cons t ts ih=>intro cs ds⟨c,as,e,a,b⟩⟨c',CB,e',a',b'⟩I;rw[e,e',Ev.fn (Nd.fn I) a a',ih b b' I]
def Tm.wt(ω:aI->aa):Tm->aa|.lf o=>if isVar (.lf o)then 0 else ω o|.un o p=>ω o+p.wt ω|.bi o p q=>ω o+(p.wt ω+q.wt ω)
noncomputable def Wt(g:HG)(ω:aI->aa):aa:=((bS g.n).map λi=>ω (g.nd i).1).sum
def sL(g:HG)(b j k:aa):Prop:=∃ex:ag aa,ex.length<=k/\(j<b\/j∈ex)/\∀m∈ex,m<g.n/\∀i∈(g.nd m).2,i<b\/i∈ex
def sL.grow(G:Grow g g')(h:sL g b j k)(hk:k<=k'):sL g' b j k':=by refine bL h λex h1 h2 h3=>?_;exact(bH ex (bG h1 hk) h2 (λm hm=>⟨bj (h3 m hm).1 G.le,by rw[G.nd m (h3 m hm).1];exact(h3 m hm).2⟩))
def Tm.w0(h:isVar t=aD):t.wt ω=ω t.op+(t.kids.map (Tm.wt ω)).sum:=by induction t using Tm.casesOn with|lf o=>exact(aX (by exact h▸fH)).trans (R7 _).symm|un o p=>rfl|bi o p q=>rfl
noncomputable abbrev one:aI->aa:=λu=>1
noncomputable def iJ(φ:aa->aa)(σ:Su):Su:=λx=>(σ x).map φ
structure nA(g:HG)(T:aa)(σ:Su)(p:Tm)(m:aa)(g':HG):Prop where
 hi:HI g' T []
 gr:Grow g g'
 lt:m<g'.n
 ev:Ev (Nd g') σ p m
 ct:∀ω,Wt g' ω<=Wt g ω+p.wt ω
 same:∀m0,Ev (Nd g) σ p m0->g'=g
 lift:∀R φ,Fn R->dZ g R φ->∀z,Ev R (iJ φ σ) p z->∃φ',dZ g' R φ'/\(∀i,i<g.n->φ' i=φ i)/\φ' m=z
 ko:∀b,(∀x k,σ x=af k->k<b)->sL g' b m (p.wt one)/\∀j,g.n<=j->j<g'.n->sL g' b j (p.wt one)
structure ox(g:HG)(T:aa)(σ:Su)(ps:ag Tm)(ms:ag aa)(g':HG):Prop where
 hi:HI g' T []
 gr:Grow g g'
 lt:∀m∈ms,m<g'.n
 ev:c6 (Nd g') σ ps ms
 ct:∀ω,Wt g' ω<=Wt g ω+(ps.map (Tm.wt ω)).sum
 same:∀mD,c6 (Nd g) σ ps mD->g'=g
 lift:∀R φ,Fn R->dZ g R φ->∀zs,c6 R (iJ φ σ) ps zs->∃φ',dZ g' R φ'/\(∀i,i<g.n->φ' i=φ i)/\ms.map φ'=zs
 ko:∀b,(∀x k,σ x=af k->k<b)->(∃ex:ag aa,ex.length<=(ps.map (Tm.wt one)).sum/\(∀m∈ms,m<b\/m∈ex)/\∀m∈ex,m<g'.n/\∀i∈(g'.nd m).2,i<b\/i∈ex)/\∀j,g.n<=j->j<g'.n->sL g' b j (ps.map (Tm.wt one)).sum
def ox.nil(I:HI g T []):ox g T σ [] [] g:=⟨I,.refl,λu h=>(nomatch h),rfl,λu=>bq _,λu u=>rfl,λR φ u H zs e=>(bH φ H (λu u=>rfl) ((e:zs=[]).symm)),λb u=>⟨(bH ([]) (bq _) (λu h=>(nomatch h)) (λu h=>(nomatch h))),λj h1 h2=>bA h1 (agx h2)⟩⟩
def ox.snoc{g g1 g2:HG}{T:aa}{σ:Su}{ps:ag Tm}{ms:ag aa}{p:Tm}{m:aa}(hs:∀x k,σ x=af k->k<g.n)(A:ox g T σ ps ms g1)(B:nA g1 T σ p m g2):ox g T σ (ps++[p]) (ms++[m]) g2:=by
 have sm:∀ω,((ps++[p]).map (Tm.wt ω)).sum=(ps.map (Tm.wt ω)).sum+p.wt ω:=λω=>by rw[cy,nF];rfl
 refine⟨B.hi,A.gr.trans B.gr,λk hk=>?_,(A.ev.mono (Nd.grow B.gr)).snoc B.ev,λω=>?_,λmD h=>?_,λR φ F H zs h=>?_,λb hb=>?_⟩;·
  rcases cw.mp hk with hk|hk;·exact bj (A.lt k hk) B.gr.le
  ·exact bU.mp hk▸B.lt
 ·rw[sm,←xE];exact bG (B.ct ω) (Aa (A.ct ω) _)
 ·refine ba (c6.cut h) λas bs u h1 bg=>ba bg λc ds u h2 u=>?_;have e:=A.same as h1;rw[←e]at h2;exact(B.same c h2).trans e
 ·refine ba (c6.cut h) λas bs aC h1 bg=>ba bg λc ds zk6 h2 h3=>?_;rw[aC];rw[zk6];refine bL (A.lift R φ F H as h1) λφ1 H1 a1 b1=>?_;have e:iJ φ1 σ=iJ φ σ:=vQ λx=>by delta iJ;cases q:σ x with|none=>rfl|some k=>exact aO af (a1 k (hs x k q))
  refine bL (B.lift R φ1 F H1 c (e▸h2)) λφ2 H2 a2 b2=>?_;refine(bH φ2 H2 (λi hi=>(a2 i (bj hi A.gr.le)).trans (a1 i hi)) ?_);rw[cy,gL λk hk=>a2 k (A.lt k hk),b1,(h3:ds=[])];show as++[φ2 m]=_;rw[b2]
 ·obtain⟨⟨wA,l1,c1,d1⟩,o1⟩:=A.ko b hb;obtain⟨⟨yv,l2,c2,d2⟩,o2⟩:=B.ko b hb;rw[sm];refine⟨(bH (wA++yv) (by rw[bD];exact vJ l1 l2) (λk hk=>?_) (λk hk=>?_)),λj h1 h2=>?_⟩;·
   rcases cw.mp hk with hk|hk;·exact(c1 k hk).imp id (de _)
   ·exact bU.mp hk▸c2.imp id (bC _)
  ·rcases cw.mp hk with hk|hk;·have:=d1 k hk;exact⟨bj this.1 B.gr.le,λi hi=>(this.2 i (B.gr.nd k this.1▸hi)).imp id (de _)⟩
   ·exact⟨(d2 k hk).1,λi hi=>((d2 k hk).2 i hi).imp id (bC _)⟩
  ·by_cases q:j<g1.n;·exact(o1 j h1 q).grow B.gr (dE ..)
   ·exact(o2 j (sZ q) h2).grow .refl (ie ..)
end
section
section
variable{g g1 g2:HG}{T m:aa}{σ:Su}{p:Tm}{ms:ag aa}{v:V}
def nA.var(I:HI g T [])(h:isVar p=ai)(hs:σ p.op=af m)(hm:m<g.n):nA g T σ p m g:=by refine⟨I,.refl,hm,(Ev.var h).mpr hs,λu=>dE ..,λu u=>rfl,λR φ u H z e=>(bH φ H (λu u=>rfl) ?_),λb hb=>⟨(bH ([]) (cF _) (.inl (hb _ _ hs)) (λu h=>by contradiction)),λj h1 h2=>bA h1 (agx h2)⟩⟩;have:=(Ev.var h).mp e;unfold iJ at this;rw[hs]at this;exact bR this
def Wt.add:Wt (g.gY o l ws ds) ω=Wt g ω+ω o:=by show((bS (g.n+1)).map λi=>ω (upd g.nd g.n (o,l) i).1).sum=_;rw[IC,cy,nF];show _+(ω (upd g.nd g.n (o,l) g.n).1+0)=_;rw[dH,R7,gL λi hi=>by rw[eZ (cV (dT.mp hi))]];rfl
def Wt.abO(h:Tame g g2):Wt g2 ω=Wt g ω:=by delta Wt;rw[h.eq,gL λi hi=>by rw[h.nd i (dT.mp hi)]]
def Grow.gY(I:HI g T []):Grow g (g.gY o l ws ds):=by refine⟨kE _,λi hi=>eZ (cV hi),λi j hi hj e=>?_⟩;refine(?_:upd g.rt g.n g.n i=upd g.rt g.n g.n j);rw[eZ (cV hi),eZ (cV hj),e]
def ox.add(hp:isVar p=aD)(A:ox g T σ p.kids ms g1)(h:y5 g1 T p.op ms v g2):∃m,v=nv m/\nA g T σ p m g2:=by
 have G7:=λω=>Tm.w0 (ω:=ω) hp▸ie ..;induction h with
  |old m hm e hv hg=>
   rw[hg];refine⟨m,hv,A.hi,A.gr,hm,(Ev.app hp).mpr (bH ms A.ev hm e),λω=>bG (A.ct ω) (vu (G7 ω) _),λm0 h=>?_,λR φ F H z h=>?_,λb hb=>?_⟩;·refine aq ((Ev.app hp).mp h) λcs h1 u=>?_;exact A.same cs h1
   ·refine aq ((Ev.app hp).mp h) λcs h1 h2=>?_;refine bL (A.lift R φ F H cs h1) λφ' H' a b=>?_;have:=H'.1 m hm;rw[e,b]at this;exact(bH φ' H' a (F _ _ _ _ this h2))
   ·obtain⟨⟨ex,l1,c1,d1⟩,o1⟩:=A.ko b hb;refine⟨(bH (m::ex) ?_ (.inr aR) (λk hk=>?_)),λj h1 h2=>(o1 j h1 h2).grow .refl (G7 one)⟩;·rw[Tm.w0 hp];exact bG (mO l1) (e9 (rC _ 1))
    ·rcases cg.mp hk with rfl|hk;·exact⟨hm,λi hi=>(c1 i (by rw[e]at hi;exact hi)).imp id (bK _)⟩
     ·exact⟨(d1 k hk).1,λi hi=>((d1 k hk).2 i hi).imp id (bK _)⟩|new ws ds hn hv lk=>
   obtain⟨_,I,tm,_⟩:=lk;have G2:=(.gY A.hi:Grow g1 (g1.gY p.op ms ws ds)).trans tm.toGrow;have en:=tm.eq;have hm:g1.n<g2.n:=en▸f9 _;have e:=(tm.nd g1.n (f9 _)).trans dH;refine⟨g1.n,hv,I,A.gr.trans G2,hm,(Ev.app hp).mpr (bH ms (A.ev.mono (Nd.grow G2)) hm e),λω=>?_,λm0 h=>?_,λR φ F H z h=>?_,λb hb=>?_⟩;·have:=A.ct ω;rw[Wt.abO tm,Wt.add,Tm.w0 hp];exact l4 0x23919309721901 this
   ·refine aq ((Ev.app hp).mp h) λcs h1 h2=>?_;obtain rfl:=A.same cs h1;exact bA h2.2 ((c6.fn A.ev h1 A.hi)▸hn m0 h2.1)
   ·refine aq ((Ev.app hp).mp h) λcs h1 h2=>?_;refine bL (A.lift R φ F H cs h1) λφ' H' a b=>?_;exact(bH _ (tm.qO R _ F (H'.gY (ws:=ws) (ds:=ds) A.hi A.lt (z:=z) (by exact b▸h2))) (λi hi=>(eZ (cV (bj hi A.gr.le))).trans (a i hi)) dH)
   ·obtain⟨⟨ex,l1,c1,d1⟩,o1⟩:=A.ko b hb;have cv:sL g2 b g1.n (p.wt one):=by
     refine(bH (g1.n::ex) ?_ (.inr aR) (λk hk=>?_));·rw[Tm.w0 hp];exact bG (mO l1) (e9 (rC _ 1))
     ·rcases cg.mp hk with rfl|hk;·exact⟨hm,λi hi=>(c1 i (by rw[e]at hi;exact hi)).imp id (bK _)⟩
      ·have:=d1 k hk;exact⟨bj this.1 G2.le,λi hi=>(this.2 i (G2.nd k this.1▸hi)).imp id (bK _)⟩
    refine⟨cv,λj h1 h2=>?_⟩;by_cases q:j<g1.n;·exact(o1 j h1 q).grow G2 (G7 one)
    ·have:j=g1.n:=l3 0x1291261000220101d03010 en h2 q;exact this▸cv
end
end
section
def abP:FnAt 546 (sB 22 0) ["self","heap"]:=.of2
def abQ:FnAt 551 (sB 22 1) ["self","pattern","table"]:=.pF
def abR(P:bh):ey (KK P) 566 "heap":=.of (by kernel_rfl)
def abS(P:bh):eN (KK P) 566 "heap"=ai:=by kernel_rfl
def y7(P:bh):dN (KK P) 566 "put" 551:=.of (by kernel_rfl)
def NV:Sp 1 546 [.ref x,h] (Is .none [(x,.inst 566 dx),(dx,.attrs [("heap",h)])]) [(x,.inst 566 dx),(dx,.attrs [])]:=Sp.intro abP (WS.cons (W1.attr (EV.use PE.name (EV.use PE.name ⟨0,1,abS,rfl,rfl,rfl,WS.nil ⟨rfl,rfl⟩⟩))))
abbrev Tab:=ag (aI×aa)
def d0(τ:Tab):ag (V×V):=τ.map λp=>(.str p.1,nv p.2)
noncomputable abbrev su(τ:Tab):Su:=λx=>τ.lookup x
def y9:eM (d0 τ) (.str x):=⟨rfl,λp hp=>by refine aq (bt.mp hp) λi u aC=>?_;rw[←aC];rfl⟩
def w3:∀{τ:Tab},cj (d0 τ) (.str x)=(τ.lookup x).map nv:=by
 intro τ;induction τ with
  |nil=>rfl|cons p τ ih=>
   unfold cj d0 at ih⊢;rw[jk,An,lj];by_cases q:p.1=x;·rw[c7 (aO V.str q),beq_iff_eq.mpr q.symm];rfl
   ·rw[dS λz=>q (V.str.inj z),beq_eq_false_iff_ne.mpr λz=>q z.symm];exact ih
def oy(p:Tm):Prop:=∀s∈p.subs,qP s.op=ai/\(isVar s=aD->oo s.op)
def Tm.CC(p:Tm):p∈p.subs:=by rw[Tm.uR];exact aR
def Tm.CD{p k s:Tm}(h:k∈p.kids)(hs:s∈k.subs):s∈p.subs:=by rw[Tm.uR];exact bK _ (mN.mpr ⟨k,h,hs⟩)
def Tm.abT{p k:Tm}(h:k∈p.kids)(hx:x∈k.vars):x∈p.vars:=by refine aq (bt.mp hx) λs hs aC=>?_;rw[←aC];obtain⟨h1,h2⟩:=gM.mp hs;exact gK (gM.mpr ⟨Tm.CD h h1,h2⟩)
def Wt.one:Wt g one=g.n:=by delta Wt;induction g.n with|zero=>rfl|succ n ih=>rw[IC,cy,nF,ih];rfl
def uS(a dx d h:aa)(τ:Tab):Cells:=[(a,.inst 566 dx),(dx,.attrs [("heap",.ref h)]),(d,.dict (d0 τ))]
inductive NW(h:aa)(K:Cells)(g:HG)(T:aa)(σ:Su)(p:Tm)(v:V)(L:Cells):Prop|mk(H:HA)(g':HG)(m:aa):H.a=h->v=nv m->nA g T σ p m g'->L=K++aJ H g'->NW h K g T σ p v L
def abU{K X:Cells}:(x::(K++X)).Perm ((X++[x])++K):=((b6 (l₁:=K) (l₂:=X)).cons x).trans (lT.symm.trans (.of_eq (bW X [x] K).symm))
inductive NX(p:Tm)(h:aa)(g:HG)(T:aa)(σ:Su)(rest ys:ag V)(b:HA×HG):Prop|mk(done todo:ag Tm)(ms:ag aa):b.1.a=h->p.kids=done++todo->rest=todo.map aS->ys=ms.map nv->ox g T σ done ms b.2->ms.length=done.length->NX p h g T σ rest ys b
def CE:∀(p:Tm){D a dx d T:aa}{H:HA}{g:HG}{τ:Tab},p.dep<=D->oy p->HI g T []->(∀x∈p.vars,∃k,τ.lookup x=af k)->(∀x k,τ.lookup x=af k->k<g.n)->g.n+p.wt one<1000->Sp (D+8) 551 [.ref a,aS p,.ref d] (NW H.a (uS a dx d H.a τ) g T (su τ) p) (uS a dx d H.a τ++aJ H g):=by
 intro p;induction p using Tm.ind with
  |h p ih=>
   intro D a dx d T H g τ hd hp I hv hs hz;refine dh (sU (jY (bj p.ny hd))) λD bQ=>?_;subst bQ;obtain⟨o1,o2⟩:=hp p p.CC;have kz:(p.kids.map aS).length<1000:=by rw[aN];exact br p.two (by decide)
   have te:aS p=.tup (.str p.op::p.kids.map aS):=lO p;have nl:(V.str p.op::p.kids.map aS).length<=16777216:=bF (bj (xA kz) (by decide));refine Sp.eE abQ λR hR=>?_;have vp:∀{b},isVar p=b->PT (.fn (sB 22 1) 551) (sv (dG (b1 (sB 22 1)))) (D+8) (Lc.of ["self","pattern","table"] [.ref a,aS p,.ref d]) (uS a dx d H.a τ++aJ H g) b:=λh=>h▸PT.of (EV.fn (AV.p1 PE.name (CP.call (Cz o1) (.refl _) (dF.mpr ((i8 _))))));by_cases q:isVar p=ai;·obtain⟨k,hk⟩:=hv p.op (gK (gM.mpr (dD p.CC q)));exact WS.cons (W1.jy (vp q) rfl (WS.ret (EV.use (PE.sH 2 PE.name (PE.oj (PE.name (aO af te)) (PE.nat 0) rfl nl) y9 (w3.trans (by rw[hk];rfl))) (hR _ _ ⟨H,g,k,rfl,rfl,.var I q hk (hs _ _ hk),rfl⟩))))
   ·have q:isVar p=aD:=mL.mpr q;refine WS.cons (W1.fF (vp q) rfl (WS.nil (WS.ret (EV.drop (EV.m (PE.self 0 1 abR) (Mt.inst 3 4 NP) (AV.cons (EV.use (PE.oj (PE.name (aO af te)) (PE.nat 0) rfl nl) (AV.cons (EV.comp (EV.use (PE.tail (PE.name (aO af te)) (df kz (by decide))) ?_))))))))));refine⟨λb:HA×HG=>uS a dx d H.a τ++aJ b.1 b.2,NX p H.a g T (su τ),(H,g),.tup,⟨[],p.kids,[],rfl,rfl,rfl,rfl,.nil I,rfl⟩,rfl,λv rest ys b z=>⟨cZ,?_⟩,λys b z=>⟨cZ,λl=>?_⟩,.inl (d8 _ _ rfl)⟩;·
     obtain⟨H1,g1⟩:=b;obtain⟨done,todo,ms,ea,e0,e1,rfl,A,el⟩:=z;have ea:H1.a=H.a:=ea;induction todo using b7 with
      |nil=>nomatch e1|cons k todo=>
       obtain⟨rfl,rfl⟩:=cq e1;have dM:k∈p.kids:=e0▸bC _ aR;have A:ox g T (su τ) done ms g1:=A;have cz:g1.n+k.wt one<1000:=by have h1:=A.ct one;simp only[Wt.one,Wt.one]at h1;have h2:=Tm.w0 (ω:=one) q;simp only[e0,cy,nF,vK]at h2;exact l7 0x3e83a5298659394914309213e83a1092 hz h1 h2
       refine(aA _ (.name _ _ rfl rfl) (ia.nil ((a0 rfl).mpr ?_)));have ih:=ih k dM (D:=D) (a:=a) (dx:=dx) (d:=d) (H:=H1) (by have:=Tm.pL dM;exact nE (bj this hd)) (λs h=>hp s (Tm.CD dM h)) A.hi (λx hx=>hv x (Tm.abT dM hx)) (λx k h=>bj (hs x k h) A.gr.le) cz;rw[ea]at ih;refine EV.m PE.name (Mt.inst 0 1 y7) (AV.p2 PE.name PE.name (CV.call (M:=[]) ih (by rw[bN]) (λv L z=>?_) (dF.mpr ((bq _)))));obtain⟨H2,g2,m,y6,rfl,B,rfl⟩:=z;have C:=ox.snoc hs A B;have ml:(ms++[m]).length=(done++[k]).length:=by simp only[bD,bD,el];rfl
       refine(dD ?_ (aA ((H2,g2)) ⟨done++[k],todo,ms++[m],y6,by rw[e0,bW];rfl,rfl,by rw[cy];rfl,C,ml⟩ (by rw[bN])));have:=p.two;rw[e0,bD,lU]at this;rw[aN];exact l3 0x10000007a082b2d191103 el this
    ·obtain⟨H1,g1⟩:=b;obtain⟨done,todo,ms,ea,e0,e1,rfl,A,el⟩:=z;have ea:H1.a=H.a:=ea;obtain rfl:=f6.mp e1.symm;rw[bN]at e0;have A:ox g T (su τ) p.kids ms g1:=e0▸A;have ml:ms.length<=2:=el.trans (aO xI e0.symm)▸p.two;have cz:g1.n+1<1000:=by have h1:=A.ct one;rw[Wt.one,Wt.one]at h1;have h2:=Tm.w0 (ω:=one) q;have h2:p.wt one=1+(p.kids.map (Tm.wt one)).sum:=h2;lia
     have NY:=ND (H:=H1) (Lk:=[(l,.list (ms.map nv))]) (kv:=.ref l) A.hi cz (o2 q) (λL=>.list l (bC _ aR)) ml A.lt;rw[ea]at NY;refine AV.nil (CV.call (M:=uS a dx d H.a τ) NY ?_ (λv L z=>?_) (dF.mpr ((ie _ _))));·exact abU (K:=uS a dx d H.a τ)
     ·obtain⟨H2,g2,y6,z,rfl⟩:=z;refine aq (A.add q z) λm hv B=>?_;exact⟨uS a dx d H.a τ++aJ H2 g2,[],b6.trans (.of_eq (bN _).symm),hR _ _ ⟨H2,g2,m,y6,hv,B,rfl⟩⟩
end
section
noncomputable def k8(τ:Tab)(x:aI)(c:aa):d6 Tab:=match τ.lookup x with|ah=>af (τ++[(x,c)])|af k=>if k=c then af τ else ah
noncomputable def Ex(R:Rel):Tm->Tab->aa->Tab->Prop|.lf o,τ,c,τ'=>(isVar (.lf o)=ai/\k8 τ o c=af τ')\/(isVar (.lf o)=aD/\R o [] c/\τ'=τ)|.un o p,τ,c,τ'=>∃k,R o [k] c/\Ex R p τ k τ'|.bi o p q,τ,c,τ'=>∃k j,R o [k,j] c/\∃τ1,Ex R p τ k τ1/\Ex R q τ1 j τ'
noncomputable def fQ(R:Rel):ag Tm->ag aa->Tab->Tab->Prop|[],cs,τ,τ'=>cs=[]/\τ'=τ|p::ps,cs,τ,τ'=>∃c ds τ1,cs=c::ds/\Ex R p τ c τ1/\fQ R ps ds τ1 τ'
section
variable{R:Rel}{p:Tm}{τ τ':Tab}{c:aa}
def Ex.var(h:isVar p=ai):Ex R p τ c τ'↔k8 τ p.op c=af τ':=by induction p using Tm.casesOn with|lf o=>exact⟨λz=>z.elim ahz λz=>(by have:=h.symm.trans z.1;contradiction),λz=>.inl (dD h z)⟩|un o p=>contradiction|bi o p q=>contradiction
def Ex.app(h:isVar p=aD):Ex R p τ c τ'↔∃cs,R p.op cs c/\fQ R p.kids cs τ τ':=by
 induction p using Tm.casesOn with
  |lf o=>exact⟨λz=>z.elim (λz=>(by have:=h.symm.trans z.1;contradiction)) λz=>(bH ([]) z.2.1 rfl z.2.2),λzf=>bL zf λcs z e e2=>.inr (cM h (e▸z) e2)⟩|un o p=>
   constructor;·intro zi;refine aq zi λk a b=>?_;exact(aA ([k]) a (mX k ([]) τ' rfl b rfl rfl))
   ·intro zi;refine aq zi λcs a bg=>eS bg λk ds τ1 e b e2 e3=>?_;rw[e,e2]at a;exact(aA k a (e3▸b))|bi o p q=>
   constructor;·intro zi;refine eR zi λk j a bg=>aq bg λτ1 b d=>?_;exact(aA ([k,j]) a (rK k ([j]) τ1 rfl b (mX j ([]) τ' rfl d rfl rfl)))
   ·intro zi;refine aq zi λcs a bg=>fX bg λk ds τ1 e b zr1=>eS zr1 λj es τ2 e2 d e3 e4=>?_;rw[e,e2,e3]at a;exact(eK k j a (aA τ1 b (e4▸d)))
def fQ.snoc:∀{ps:ag Tm}{cs:ag aa}{τ τ1 τ2:Tab}{p:Tm}{c:aa},fQ R ps cs τ τ1->Ex R p τ1 c τ2->fQ R (ps++[p]) (cs++[c]) τ τ2:=by intro ps;induction ps with|nil=>intro cs τ τ1 τ2 p c⟨e,e2⟩h;exact e.symm▸e2▸((mX c ([]) τ2 rfl h rfl rfl))|cons q ps ih=>intro cs τ τ1 τ2 p c⟨k,ds,τ3,e,a,b⟩h;exact e▸((rK k (ds++[c]) τ3 rfl a (ih b h)))
def fQ.cut:∀{ps:ag Tm}{cs:ag aa}{τ τ2:Tab}{p:Tm}{c:aa},ps.length=cs.length->fQ R (ps++[p]) (cs++[c]) τ τ2->∃τ1,fQ R ps cs τ τ1/\Ex R p τ1 c τ2:=by intro ps;induction ps with|nil=>intro cs τ τ2 p c hl h;obtain rfl:=vn hl.symm;refine eS h λk ds τ3 e a e2 e3=>?_;clear e2;obtain⟨rfl,rfl⟩:=cq e;exact(aA τ (dD rfl rfl) (e3▸a))|cons q ps ih=>intro cs τ τ2 p c hl h;induction cs using b7 with|nil=>contradiction|cons k cs=>refine fX h λk' ds τ3 e a b=>?_;obtain⟨rfl,rfl⟩:=cq e;refine aq (ih (iC hl) b) λτ1 h1 h2=>?_;exact(aA τ1 (rK k cs τ3 rfl a h1) h2)
end
def CF{τ:Tab}:(τ++[(x,c)]).lookup y=(τ.lookup y).or (if y=x then af c else ah):=by
 induction τ with
  |nil=>
   refine(?_:(match y==x with|ai=>af c|aD=>ah)=_);by_cases q:y=x;·rw[a0 q,beq_iff_eq.mpr q];rfl
   ·rw[aX q,beq_eq_false_iff_ne.mpr q];rfl|cons p τ ih=>rw[List.cons_append,lj,lj,ih];cases y==p.1<;>rfl
structure oA(τ τ':Tab)(vs:ag aI):Prop where
 keep:∀x k,τ.lookup x=af k->τ'.lookup x=af k
 jC:∀x,(τ'.lookup x).isSome=ai↔(τ.lookup x).isSome=ai\/x∈vs
 nd:(τ.map (·.1)).Nodup->(τ'.map (·.1)).Nodup
 len:τ'.length<=τ.length+vs.length
def abV(h:k8 τ x c=af τ'):oA τ τ' [x]/\τ'.lookup x=af c:=by
 delta k8 at h;cases q:τ.lookup x with
  |none=>
   rw[q]at h;rw[←bR h];refine⟨⟨λy k e=>?_,λy=>?_,λnd=>?_,by exact bD▸(bq _)⟩,?_⟩;·rw[CF,e];rfl
   ·rw[CF];by_cases z:y=x;·rw[z];rw[q,a0 rfl];exact⟨λ_=>.inr (iB _),λ_=>rfl⟩
    ·rw[aX z,agn];exact⟨.inl,λw=>w.resolve_right λw=>z (bU.mp w)⟩
   ·rw[cy];refine gA.mpr ⟨nd,iZ.mpr ⟨rj,.nil⟩,λa ha b hb e=>?_⟩;refine aq (bt.mp ha) λp hp aC=>?_;subst aC;have:=List.lookup_eq_none_iff.mp q p hp;exact bne_iff_ne.mp this ((bU.mp hb).symm.trans e.symm)
   ·rw[CF,q,a0 rfl];rfl|some k=>
   rw[q]at h;have h:(if k=c then af τ else ah)=af τ':=h;split at h;·next e=>rw[←bR h];rw[←e];refine⟨⟨λ_ _ e=>e,λy=>⟨.inl,λw=>w.elim id λw=>by rw[bU.mp w,q];rfl⟩,id,dE ..⟩,q⟩
   ·nomatch h
def oA.trans(A:oA τ τ1 vs)(B:oA τ1 τ2 ws):oA τ τ2 (vs++ws):=⟨λx k e=>B.keep x k (A.keep x k e),λx=>by rw[B.jC,A.jC,cw,or_assoc],λn=>B.nd (A.nd n),by rw[bD,←xE];exact bG B.len (Aa A.len _)⟩
def oA.refl:oA τ τ []:=⟨λu u e=>e,λu=>⟨.inl,λw=>w.elim id λw=>(by contradiction)⟩,id,bq _⟩
def Tm.qR(h:isVar p=aD):p.vars=p.kids.flatMap Tm.vars:=by delta Tm.vars;rw[Tm.uR,rq,aX (by exact h▸fH),List.filter_flatMap,List.map_flatMap]
def Tm.w4(h:isVar p=ai):p.vars=[p.op]:=by induction p using Tm.casesOn with|lf o=>delta Tm.vars Tm.subs;rw[rq,a0 h];rfl|un o p=>contradiction|bi o p q=>contradiction
def c6.sub(ih:∀p∈ps,∀c,Ev R σ p c->Ev R τ p c):∀{cs:ag aa},c6 R σ ps cs->c6 R τ ps cs:=by induction ps with|nil=>exactλe=>e|cons p ps h=>exactλzf=>ba zf λc ds e a b=>(bZ c ds e (ih p aR c a) (h (λp hp=>ih p (bK _ hp)) b))
def Ev.sub:∀{p:Tm}{c:aa},(∀x∈p.vars,∀k,σ x=af k->τ x=af k)->Ev R σ p c->Ev R τ p c:=by
 intro p;induction p using Tm.ind with
  |h p ih=>
   intro c h e;by_cases q:isVar p=ai;·exact(Ev.var q).mpr (h _ (by rw[Tm.w4 q];exact iB _) _ ((Ev.var q).mp e))
   ·have q:=mL.mpr q;refine aq ((Ev.app q).mp e) λcs h1 h2=>?_;exact(Ev.app q).mpr (aA cs (c6.sub (λk hk c=>ih k hk λx hx=>h x (by rw[Tm.qR q];exact mN.mpr (aA k hk hx))) h1) h2)
def fQ.NZ{N8:ag Tm}(ih:∀p∈N8,∀{τ τ':Tab}{c:aa},Ex R p τ c τ'->oA τ τ' p.vars/\Ev R (su τ') p c):∀{ps:ag Tm}{cs:ag aa}{τ:Tab},(∀k∈ps,k∈N8)->fQ R ps cs τ τ'->oA τ τ' (ps.flatMap Tm.vars)/\c6 R (su τ') ps cs:=by intro ps;induction ps with|nil=>intro cs τ _ h;refine bx h λe e2=>?_;exact⟨e2▸.refl,e⟩|cons k ps G8=>intro cs τ hk h;refine fX h λc ds τ1 e a b=>?_;refine bx (ih k (hk k aR) a) λg1 v1=>?_;refine bx (G8 (λk h=>hk k (bK _ h)) b) λg2 v2=>?_;exact(dD (by exact g1.trans g2) (bZ c ds e (Ev.sub (λx u k h=>g2.keep x k h) v1) v2))
def Ex.sound:∀{p:Tm}{τ τ':Tab}{c:aa},Ex R p τ c τ'->oA τ τ' p.vars/\Ev R (su τ') p c:=by
 intro p;induction p using Tm.ind with
  |h p ih=>
   intro τ τ' c h;by_cases q:isVar p=ai;·obtain⟨h1,h2⟩:=abV ((Ex.var q).mp h);exact⟨by rw[Tm.w4 q];exact h1,(Ev.var q).mpr h2⟩
   ·have q:=mL.mpr q;refine aq ((Ex.app q).mp h) λcs h1 h2=>?_;refine bx (fQ.NZ ih (λu h=>h) h2) λg v=>?_;exact⟨by rw[Tm.qR q];exact g,(Ev.app q).mpr (aA cs v h1)⟩
def fQ.sound(h:fQ R ps cs τ τ'):oA τ τ' (ps.flatMap Tm.vars)/\c6 R (su τ') ps cs:=fQ.NZ (λp u=>Ex.sound) (λu h=>h) h
def Ex.complete:∀{p:Tm}{τ:Tab}{c:aa},Ev R σ p c->(∀x k,τ.lookup x=af k->σ x=af k)->∃τ',Ex R p τ c τ'/\∀x k,τ'.lookup x=af k->σ x=af k:=by
 intro p;induction p using Tm.ind with
  |h p ih=>
   intro τ c h a;by_cases q:isVar p=ai;·
    have hs:=(Ev.var q).mp h;cases z:τ.lookup p.op with
     |none=>
      refine(aA (τ++[(p.op,c)]) ((Ex.var q).mpr (by delta k8;rw[z])) (λx k e=>?_));rw[CF]at e;by_cases w:x=p.op;·subst w;rw[z,a0 rfl]at e;exact hs.trans e
      ·rw[aX w,agn]at e;exact a x k e|some k=>have:k=c:=bR ((a _ _ z).symm.trans hs);exact(aA τ ((Ex.var q).mpr (by delta k8;exact z▸(a0 this))) a)
   ·have q:=mL.mpr q;refine aq ((Ev.app q).mp h) λcs h1 h2=>?_;have key:∀{ps:ag Tm}{cs:ag aa}{τ:Tab},(∀k∈ps,k∈p.kids)->c6 R σ ps cs->(∀x k,τ.lookup x=af k->σ x=af k)->∃τ',fQ R ps cs τ τ'/\∀x k,τ'.lookup x=af k->σ x=af k:=by intro ps;induction ps with|nil=>intro cs τ _ e a;exact(aA τ ⟨e,rfl⟩ a)|cons k ps G8=>intro cs τ hk⟨c,ds,e,u,v⟩a;refine aq (ih k (hk k aR) u a) λτ1 x1 a1=>?_;refine aq (G8 (λk h=>hk k (bK _ h)) v a1) λτ2 x2 a2=>?_;exact(aA τ2 (rK c ds τ1 e x1 x2) a2)
    refine aq (key (λo h=>h) h1 a) λτ' x a'=>?_;exact(aA τ' ((Ex.app q).mpr (aA cs h2 x)) a')
end
section
def abW:FnAt 221 (sB 13 0) ["self","heap"]:=.of2
def abX:FnAt 226 (sB 13 1) ["self","table","c","pattern"]:=.Ce
def abY:FnAt 233 (sB 13 2) ["self","c","pattern"]:=.pF
def abZ:FnAt 238 (sB 13 3) ["self","pattern"]:=.of2
def G9(P:bh):ey (KK P) 241 "heap":=.of (by kernel_rfl)
def ab0(P:bh):eN (KK P) 241 "heap"=ai:=by kernel_rfl
def N9(P:bh):dN (KK P) 241 "extended" 226:=.of (by kernel_rfl)
def ab2(P:bh):dN (KK P) 501 "nodes_of" 479:=.of (by kernel_rfl)
def Oa:Sp 1 221 [.ref x,h] (Is .none [(x,.inst 241 dx),(dx,.attrs [("heap",h)])]) [(x,.inst 241 dx),(dx,.attrs [])]:=Sp.intro abW (WS.cons (W1.attr (EV.use PE.name (EV.use PE.name ⟨0,1,ab0,rfl,rfl,rfl,WS.nil ⟨rfl,rfl⟩⟩))))
noncomputable def du(a dx h:aa):Cells:=[(a,.inst 241 dx),(dx,.attrs [("heap",.ref h)])]
def uT(a dx d h:aa)(τ:Tab)(X:Cells):Cells:=du a dx h++((d,.dict (d0 τ))::X)
structure fk(P:Tab->Prop)(B:aa)(as:ag (aa×Tab))(L:Cells):Prop where
 sound:∀p∈as,(p.1,aV.dict (d0 p.2))∈L/\P p.2
 all:∀τ,P τ->∃a,(a,τ)∈as
 len:as.length<=B
noncomputable abbrev c9(as:ag (aa×Tab)):ag V:=as.map λp=>V.ref p.1
def iz(d:aa)(τ:Tab):aa×aV:=(d,.dict (d0 τ))
inductive za(P:Tab->Prop)(B a dx d h:aa)(τ:Tab)(X:Cells)(v:V)(L:Cells):Prop|mk(b:aa)(as:ag (aa×Tab))(N:Cells):v=.ref b->L=(b,.list (c9 as))::(du a dx h++((N++[iz d τ])++X))->fk P B as (N++[iz d τ])->za P B a dx d h τ X v L
def G':StrKeys (d0 τ):=λp hp=>by refine aq (bt.mp hp) λq u aC=>?_;exact aC▸((gE _ rfl))
def CG{es:ag (V×V)}(h:cj es k=ah):dt es k v=es++[(k,v)]:=by delta dt;rw[qm.mp h]
def Ob{es:ag (V×V)}(h:cj es k=af v):dt es k v=es:=by
 delta dt;rw[rU]at h;refine aq (zZ.mp h) λi hi h=>?_;refine aq (lR.mp h) λp hp aC=>?_;rw[←aC];refine dh (qk hi) λv' hv=>?_;rw[bR (hp.symm.trans hv)];rw[hi];apply Dz;intro j;rw[af5];by_cases q:i=j;·subst q;rw[hv];refine(?_:af (if i=i then _ else _)=_);rw[a0 rfl]
 ·cases es[j]? with|none=>rfl|some p=>exact aO af (aX q)
def Oc(h:k8 τ x c=af τ'):dt (d0 τ) (.str x) (nv c)=d0 τ':=by
 delta k8 at h;cases q:τ.lookup x with
  |none=>rw[q]at h;rw[←bR h];rw[CG (w3.trans (by rw[q];rfl))];delta d0;rw[cy];rfl|some k=>
   rw[q]at h;have h2:(if k=c then af τ else ah)=af τ':=h;split at h2;·next z=>rw[←bR h2];exact Ob (w3.trans (by rw[q,z];rfl))
   ·nomatch h2
def CV.ab3{es:ag (V×V)}{L:Cells}(i:aa)(hs:StrKeys es)(hz:es.length<=16777216)(k:∀b,Q (.ref b) ((b,.dict es)::L))(x:aB (L[i]?=af (d,.dict es)) tR):CV r (.type "dict") [.ref d] Q L:=λX w env l st R=>Wy (R.at i x) hs hz λb hb=>⟨_,R.new _ hb,k b⟩
abbrev Od(a d c:aa)(p:Tm):Lc:=.cons "self" (.ref a) (.cons "table" (.ref d) (.cons "c" (nv c) (.cons "pattern" (aS p) (.cons "op" (.str p.op) .nil))))
def ab4(hz:τ.length<1000)(hB:1<=B)(hp:isVar p=ai)(hR:∀v M,za (Ex R p τ c) B a dx d h τ X v M->Rv v M):WS (.fn (sB 13 1) 226) (b1 (dG (b1 (sB 13 1)).tail)) (r+1) Rv N (Od a d c p) (uT a dx d h τ X):=by
 have tz:(d0 τ).length<=16777216:=by rw[aN];exact bG (bF hz) (by decide)
 refine WS.cons (W1.set (EV.bi (.type "dict") kt (AV.p1 PE.name (CV.ab3 2 G' tz λb=>?_))));refine WS.cons (W1.put (EV.use PE.name (EV.use PE.name (EV.use PE.name (km.dict 0 rfl y9 tz rfl ?_)))));have one:∀{τ'},k8 τ p.op c=af τ'->∀l:aa,Drop Rv (.ref l) ((l,.list [V.ref b])::((b,.dict (d0 τ'))::uT a dx d h τ X)):=λ{τ'}e l=>⟨(l,.list [V.ref b])::(du a dx h++(([iz b τ']++[iz d τ])++X)),[],.cons _ (((lT (l₁:=du a dx h)).symm).trans (.of_eq (bN _).symm)),hR _ _ ⟨l,[(b,τ')],[(b,_)],rfl,rfl,⟨λa ha=>by exact(bU.mp ha)▸(⟨aR,(Ex.var hp).mpr e⟩),λτ2 h=>⟨b,bR (e.symm.trans ((Ex.var hp).mp h))▸iB _⟩,hB⟩⟩⟩;cases q:τ.lookup p.op with
  |none=>
   have e:k8 τ p.op c=af (τ++[(p.op,c)]):=by delta k8;rw[q]
   have hg:((cj (d0 τ) (.str p.op)).getD (nv c))=nv c:=by rw[w3,q];rfl
   rw[Oc e];exact WS.ret (EV.drop (EV.jy (PT.cmp .Eq (EV.m PE.name (Mt.dict 3 pV pK) (AV.p2 PE.name PE.name (hg▸CP.pJ 3 y9))) PE.name) (c7 rfl) (EV.list (AV.p1 PE.name ⟨aL rfl,one e⟩))))|some k=>
   have hg:((cj (d0 τ) (.str p.op)).getD (nv c))=nv k:=by rw[w3,q];rfl
   by_cases z:k=c;·
    subst z;have e:k8 τ p.op k=af τ:=by unfold k8;rw[q];exact a0 rfl
    rw[Oc e];exact WS.ret (EV.drop (EV.jy (PT.cmp .Eq (EV.m PE.name (Mt.dict 3 pV pK) (AV.p2 PE.name PE.name (hg▸CP.pJ 3 y9))) PE.name) (c7 rfl) (EV.list (AV.p1 PE.name ⟨aL rfl,one e⟩))))
   ·refine WS.ret (EV.drop (EV.fF (PT.cmp .Eq (EV.m PE.name (Mt.dict 3 pV pK) (AV.p2 PE.name PE.name (hg▸CP.pJ 3 y9))) PE.name) (dS z) (EV.list (AV.p0 ⟨cF _,λl=>⟨(l,.list [])::uT a dx d h τ X,[_],.cons _ (b6 (l₁:=[_])),hR _ _ ⟨l,[],[],rfl,rfl,⟨λu h=>(by contradiction),λτ2 h=>?_,cF _⟩⟩⟩⟩))));exact nomatch(by unfold k8;rw[q];exact aX z:k8 τ p.op c=ah).symm.trans ((Ex.var hp).mp h)
end
section
def ab5{W K Pl X M:Cells}(h:Pl.Perm (p::M)):(W++(K++(Pl++X))).Perm ((K++(p::X))++(W++M)):=by refine b6.trans ?_;have h1:(K++(Pl++X)).Perm (K++((p::X)++M)):=((h.append_right X).trans (.cons p b6)).append_left K;refine(h1.append_right W).trans ?_;rw[←bW,bW _ M W];exact(b6 (l₁:=M)).append_left _
def ab6{W K Pl X M N:Cells}(h:Pl.Perm (p::M)):((q::(K++((N++[p])++X)))++(W++M)).Perm (q::(W++(K++((N++Pl)++X)))):=by
 refine .cons q ?_;refine .trans ?_ b6.symm;have h3:(K++((N++Pl)++X)).Perm ((K++((N++[p])++X))++M):=by refine(((((h.append_left N).trans (.of_eq (bW N [p] M).symm)).append_right X).trans ?_).append_left K).trans (.of_eq (bW K _ M).symm);rw[bW (N++[p]) M X,bW (N++[p]) X M];exact b6.append_left _
 refine .trans ?_ (h3.append_right W).symm;rw[bW _ M W];exact b6.append_left _
def ab7{α:Type}{x:α}{l:ag α}(h:x∈l):∃m,l.Perm (x::m):=by refine qh (agc h) λs t aC=>?_;rw[aC];exact⟨s++t,lT⟩
def fk.sub(h:fk P B as L)(k:∀q∈L,q∈L'):fk P B as L':=⟨λp hp=>⟨k _ (h.sound p hp).1,(h.sound p hp).2⟩,h.all,h.len⟩
def fk.grow(h:fk P B as L):fk P B as (M++L):=h.sub λu=>bC _
def fk.mono(h:fk P B as L)(e:∀τ,P τ↔P' τ)(hB:B<=B'):fk P' B' as L:=⟨λp hp=>⟨(h.sound p hp).1,(e _).mp (h.sound p hp).2⟩,λτ z=>h.all τ ((e τ).mpr z),bG h.len hB⟩
def fk.app(h:fk P B as L)(k:fk P' B' bs L):fk (λτ=>P τ\/P' τ) (B+B') (as++bs) L:=⟨λp hp=>(cw.mp hp).elim (λhp=>⟨(h.sound p hp).1,.inl (h.sound p hp).2⟩) λhp=>⟨(k.sound p hp).1,.inr (k.sound p hp).2⟩,λτ z=>z.elim (λz=>(h.all τ z).imp λu=>de _) λz=>(k.all τ z).imp λu=>bC _,by exact bD▸(vJ h.len k.len)⟩
def fk.nil:fk (λu=>dv) 0 [] L:=⟨λu h=>(by contradiction),λu h=>h.elim,bq _⟩
abbrev zb(a d c f tb:aa)(p:Tm)(x:Node):Lc:=.cons "self" (.ref a) (.cons "table" (.ref d) (.cons "c" (nv c) (.cons "pattern" (aS p) (.cons "op" (.str p.op) (.cons "found" (.ref f) (.cons "node" (cH x) (.cons "tables" (.ref tb) .nil)))))))
abbrev Oe:cG:=dG (b1 (sB 13 1)).tail.tail.tail
abbrev Of:cG:=dG (b1 (dG (b1 Oe))).tail
inductive zd(P:aa×Tab->Tab->Prop)(B:aa)(ts:ag (aa×Tab))(Pl:Cells)(rest ys:ag V)(N:Cells):Prop|mk(dn rs as:ag (aa×Tab)):ts=dn++rs->rest=c9 rs->ys=c9 as->fk (λτ=>∃p∈dn,P p τ) (dn.length*B) as (N++Pl)->zd P B ts Pl rest ys N
def zd.next(e:ts=dn++p::rs)(A:fk (λτ=>∃p∈dn,P p τ) (dn.length*B) as (N++Pl))(C:fk (P p) B bs (M++(N++Pl))):zd P B ts Pl (c9 rs) (c9 as++c9 bs) (M++N):=by
 refine⟨dn++[p],rs,as++bs,by rw[e,bW];rfl,rfl,cy.symm,((by rw[bW];exact A.grow:fk (λτ=>∃p∈dn,P p τ) (dn.length*B) as ((M++N)++Pl)).app (by rw[bW];exact C)).mono (λτ=>⟨λz=>?_,λz=>?_⟩) (by rw[bD,DL];exact e9 (by rw[pW,I4]))⟩;·
  rcases z with⟨q,hq,z⟩|z;·exact(aA q (de _ hq) z)
  ·exact(aA p (bC _ (iB _)) z)
 ·refine aq z λq hq z=>?_;rcases cw.mp hq with hq|hq;·exact .inl (aA q hq z)
  ·exact .inr (bU.mp hq▸z)
section
variable{a dx d h c f tb r q B:aa}{p k:Tm}{kc:aa}{x:Node}{R:Rel}{X:Cells}{fs:ag V}{ts:ag (aa×Tab)}{Pl:Cells}{Rv:V->Cells->Prop}{N:Lc->Cells->Prop}
def ab8(hc:∀(d:aa)(τ:Tab),τ.length+k.vars.length<1000->Sp q 226 [.ref a,.ref d,nv kc,aS k] (za (Ex R k τ kc) B a dx d h τ X) (uT a dx d h τ X))(hq:g9 q r=ai)(ht:∀p∈ts,iz p.1 p.2∈Pl/\p.2.length+k.vars.length<1000)(htl:ts.length<1000000)(hl:ts.length*B<1000000)(hB:B<1000000)(hN:∀(kA:aa)(as:ag (aa×Tab))(M:Cells),fk (λτ=>∃p∈ts,Ex R k p.2 kc τ) (ts.length*B) as (M++Pl)->N ((zb a d c f kA p x).mA ["kid","part"] [nv kc,aS k]) ((kA,.list (c9 as))::((tb,.list (c9 ts))::((f,.list fs)::(du a dx h++((M++Pl)++X)))))):W1 (.fn (sB 13 1) 226) (dG (b1 Of)) r Rv N ((zb a d c f tb p x).mA ["kid","part"] [nv kc,aS k]) ((tb,.list (c9 ts))::((f,.list fs)::(du a dx h++(Pl++X)))):=by
 refine W1.Ca (EV.use PE.name ⟨λM:Cells=>(tb,.list (c9 ts))::((f,.list fs)::(du a dx h++((M++Pl)++X))),zd (λp τ=>Ex R k p.2 kc τ) B ts Pl,[],.list aR (by rw[aN];exact(bF (df htl (by decide)))),⟨[],ts,[],rfl,rfl,rfl,(fk.nil (L:=[]++Pl)).mono (λτ=>⟨λz=>z.elim,λzf=>aq zf λu z u=>(by cases z)⟩) (cF _)⟩,rfl,λv rest ys M z=>⟨aR,?_⟩,λys M z=>⟨aR,λkA=>?_⟩,.inl (d8 _ _ rfl)⟩);·
  obtain⟨dn,rs,as,e,er,rfl,A⟩:=z;induction rs using b7 with
   |nil=>nomatch er|cons p1 rs=>
    obtain⟨rfl,rfl⟩:=cq er;refine bx (ht p1 (e▸bC _ aR)) λm1 m2=>?_;obtain⟨M1,pp⟩:=ab7 (bC M m1);refine(aA _ (.name _ _ rfl rfl) (ia.nil ((a0 rfl).mpr ⟨λy hy=>?_,EV.drop (EV.m PE.name (Mt.inst 2 3 N9) (AV.p3 PE.name PE.name PE.name (CV.call (hc p1.1 p1.2 m2) (ab5 (W:=[(tb,.list (c9 ts)),(f,.list fs)]) (K:=du a dx h) (X:=X) pp) (λv L z=>?_) hq)))⟩)));·rw[bU.mp hy];rfl
    ·obtain⟨b,bs,N',rfl,rfl,C⟩:=z;have mb:(b,aV.list (c9 bs))∈(tb,aV.list (c9 ts))::((f,.list fs)::(du a dx h++(((((b,.list (c9 bs))::N')++M)++Pl)++X))):=bK _ (bK _ (bC _ (de _ aR)));refine⟨(tb,.list (c9 ts))::((f,.list fs)::(du a dx h++(((((b,.list (c9 bs))::N')++M)++Pl)++X))),[],?_,?_⟩;·rw[bN,bW _ M Pl];exact(ab6 (W:=[(tb,.list (c9 ts)),(f,.list fs)]) (K:=du a dx h) (X:=X) pp).trans ((lT (l₁:=[(tb,aV.list (c9 ts)),(f,.list fs)])).symm.trans (lT.symm.append_left [_,_]))
     ·have al:=br A.len (br (pX B (by rw[e,bD];exact dE ..)) hl);refine⟨λu:kK=>(tb,.list (c9 ts))::((f,.list fs)::(du a dx h++(((((b,.list (c9 bs))::N')++M)++Pl)++X))),λrest ys u=>∃ze uU,bs=ze++uU/\rest=c9 uU/\ys=c9 as++c9 ze,(),.list mb (by rw[aN];exact bF (br C.len (df hB (by decide)))),(bZ ([]) bs rfl rfl ((bN _).symm)),rfl,λv rest ys u z=>⟨mb,?_⟩,λys u z=>⟨mb,?_⟩,.inl (d8 _ _ rfl)⟩;·refine ba z λze uU e2 CH iF=>?_;rw[iF];induction uU using b7 with|nil=>nomatch CH|cons p2 uU=>obtain⟨rfl,rfl⟩:=cq CH;refine(aA _ (.name _ _ rfl rfl) (ia.nil ((a0 rfl).mpr (EV.use PE.name (dD ?_ (aA (()) (bZ (ze++[p2]) uU (by rw[e2,bW];rfl) rfl (by rw[bW];exact aO (c9 as++·) (cy (l₂:=[p2])).symm)) rfl))))));have:=C.len;rw[e2,bD]at this;simp only[bD,aN];exact l4 0x10000007a219803291f42405a12f42405a02 hB al this
      ·refine ba z λze uU e2 CH iF=>?_;rw[iF];obtain rfl:=f6.mp CH.symm;rw[bN]at e2;rw[←e2];exact(aA _ (zd.next e A (C.sub λq hq=>(cw.mp hq).elim (λhq=>de _ (bK _ hq)) λhq=>bC _ (bU.mp hq▸bC M m1))) rfl)
 ·obtain⟨dn,rs,as,e,er,rfl,A⟩:=z;obtain rfl:=f6.mp er.symm;rw[bN]at e;subst e;exact hN kA as M A
end
end
section
def Tm.bd(n:aa):Tm->aa|.lf o=>if isVar (.lf o)then 1 else n|.un _ t=>n*t.bd n|.bi _ t u=>n*(t.bd n*u.bd n)
def gx(n:aa)(ks:ag Tm):aa:=(ks.map (Tm.bd n)).foldr (·*·) 1
def Ha:gx n (ks++ls)=gx n ks*gx n ls:=by induction ks with|nil=>exact(I4 _).symm|cons k ks ih=>exact(aO (k.bd n*·) ih).trans (RW _ _ _).symm
def ab9:gx n [k]=k.bd n:=I6 _
def Tm.aca(h:isVar t=aD):t.bd n=n*gx n t.kids:=by induction t using Tm.casesOn with|lf o=>exact(aX (by exact h▸fH)).trans (I6 n).symm|un o t=>exact aO (n*·) (I6 _).symm|bi o t u=>refine(?_:n*(t.bd n*u.bd n)=n*(t.bd n*(u.bd n*1)));rw[I6]
def Tm.Hb(hn:0<n){t:Tm}:0<t.bd n:=by induction t with|lf o=>refine(?_:0<if isVar (.lf o)then 1 else n);split;exact xC;exact hn|un o t ih=>exact I5 hn ih|bi o t u i1 i2=>exact I5 hn (I5 i1 i2)
def CI(hn:0<n):∀{ks:ag Tm},0<gx n ks:=by intro ks;induction ks with|nil=>exact xC|cons k ks ih=>exact I5 (Tm.Hb hn) ih
inductive Og(R:Rel)(n:aa)(kids:ag Tm)(cs:ag aa)(τ:Tab)(Pl:Cells)(rest:ag (V×V))(b:aa×ag (aa×Tab)×Cells):Prop|mk(dc rc:ag aa)(dk rk:ag Tm):cs=dc++rc->kids=dk++rk->dk.length=dc.length->rest=(rc.map nv).zip (rk.map aS)->fk (fQ R dk dc τ) (gx n dk) b.2.1 (b.2.2++Pl)->Og R n kids cs τ Pl rest b
def fQ.step{dc:ag aa}(hl:dk.length=dc.length):(∃τ1,fQ R dk dc τ τ1/\Ex R k τ1 c τ2)↔fQ R (dk++[k]) (dc++[c]) τ τ2:=⟨λzf=>aq zf λu h1 h2=>h1.snoc h2,λh=>h.cut hl⟩
section
variable{a dx d h c f tb r q n:aa}{p:Tm}{cs:ag aa}{R:Rel}{X:Cells}{fs:ag V}{Pl:Cells}{Rv:V->Cells->Prop}{N:Lc->Cells->Prop}{τ:Tab}
def acb(hc:∀k∈p.kids,∀kc∈cs,∀(d:aa)(τ:Tab),τ.length+k.vars.length<1000->Sp q 226 [.ref a,.ref d,nv kc,aS k] (za (Ex R k τ kc) (k.bd n) a dx d h τ X) (uT a dx d h τ X))(hq:g9 q r=ai)(hn:0<n)(m5:p.kids.length=cs.length)(hd:iz d τ∈Pl)(hv:τ.length+(p.kids.flatMap Tm.vars).length<1000)(hB:gx n p.kids<1000000)(hN:∀(kA:aa)(as:ag (aa×Tab))(M:Cells),fk (fQ R p.kids cs τ) (gx n p.kids) as (M++Pl)->N (zb a d c f kA p (p.op,cs)) ((kA,.list (c9 as))::((f,.list fs)::(du a dx h++((M++Pl)++X))))):W1 (.fn (sB 13 1) 226) Of r Rv N (zb a d c f tb p (p.op,cs)) ((tb,.list (c9 [(d,τ)]))::((f,.list fs)::(du a dx h++(Pl++X)))):=by
 refine W1.zip ["kid","part"] (AV.p2 (PE.tail (u:=.str p.op) (us:=cs.map nv) PE.name (by rw[aN,←m5];exact br p.two (by decide))) (PE.tail (u:=.str p.op) (PE.name (aO af (lO p))) (by rw[aN];exact br p.two (by decide):(p.kids.map aS).length<16777216)) ⟨λb:aa×ag (aa×Tab)×Cells=>zb a d c f b.1 p (p.op,cs),λb=>(b.1,.list (c9 b.2.1))::((f,.list fs)::(du a dx h++((b.2.2++Pl)++X))),Og R n p.kids cs τ Pl,(tb,[(d,τ)],[]),.uu,by simp only[aN,m5],⟨[],cs,[],p.kids,rfl,rfl,rfl,rfl,⟨λz hz=>by rw[bU.mp hz];exact(cM hd rfl rfl),λτ' z=>⟨d,z.2▸iB _⟩,bq _⟩⟩,rfl,rfl,λu v rest b z=>⟨cZ,?_⟩,λb z=>⟨cZ,?_⟩⟩);·
  obtain⟨Hc,as,M⟩:=b;obtain⟨dc,rc,dk,rk,ec,ek,el,er,A⟩:=z;induction rc using b7 with
   |nil=>nomatch er|cons kc rc=>
    induction rk using b7 with
     |nil=>nomatch er|cons k rk=>
      obtain⟨e1,rfl⟩:=cq er;obtain⟨rfl,rfl⟩:=RV e1;have dM:k∈p.kids:=ek▸bC _ aR;have cin:kc∈cs:=ec▸bC _ aR;have A:fk (fQ R dk dc τ) (gx n dk) as (M++Pl):=A;have b1:gx n dk*(k.bd n*gx n rk)=gx n p.kids:=by rw[ek,Ha];rfl
      have b2:gx n dk*k.bd n<=gx n p.kids:=by rw[←b1,←RW];exact Q8 _ (CI hn)
      have b3:k.bd n<=gx n p.kids:=bG (Ra _ (CI hn)) b2;have b4:gx n dk<=gx n p.kids:=bG (Q8 _ (Tm.Hb hn)) b2;have al:=A.len;refine WS.cons (ab8 (hc k dM kc cin) hq (λz hz=>⟨(A.sound z hz).1,?_⟩) (l3 0xf42405a28121011f42405a02 hB b4 al) (br (bG (pX _ al) b2) hB) ((br b3 hB)) λkA CB M' C=>?_);·have g:=((A.sound z hz).2.sound).1.len;simp only[ek,Dx,Ah,bD]at hv;exact l5 0x3e83a30983e83a4392919221901 g hv
      ·refine WS.keep (M:=(kA,.list (c9 CB))::((f,.list fs)::(du a dx h++(((M'++M)++Pl)++X)))) (G:=[(Hc,.list (c9 as))]) ?_ (WS.fin (bH ((kA,CB,M'++M)) rfl rfl ⟨dc++[kc],rc,dk++[k],rk,by simp only[ec,bW];rfl,by simp only[ek,bW];rfl,by simp only[bD,bD,el];rfl,rfl,?_⟩) rfl);·rw[bW M' M Pl];exact .cons _ (b6 (l₁:=[_]))
       ·have C:fk (λτ2=>∃z∈as,Ex R k z.2 kc τ2) (as.length*k.bd n) CB ((M'++M)++Pl):=by rw[bW];exact C
        have g1:∀τ2,(∃z∈as,Ex R k z.2 kc τ2)↔∃τ1,fQ R dk dc τ τ1/\Ex R k τ1 kc τ2:=λτ2=>⟨λw=>by refine aq w λz hz hx=>?_;exact(aA z.2 ((A.sound z hz).2) hx),λw=>by refine aq w λτ1 h1 h2=>?_;refine dh (A.all τ1 h1) λa1 ha=>?_;exact(aA ((a1,τ1)) ha h2)⟩;exact C.mono (λτ2=>(g1 τ2).trans (fQ.step el)) (by rw[Ha,ab9];exact pX _ al)
 ·obtain⟨Hc,as,M⟩:=b;obtain⟨dc,rc,dk,rk,ec,ek,el,er,A⟩:=z;have h1:rc.length=rk.length:=by have:=m5;rw[ec,ek,bD,bD,el]at this;exact l3 79759478932 this
  have h2:rk=[]:=by induction rk using b7 with|nil=>rfl|cons k rk=>induction rc using b7 with|nil=>contradiction|cons c rc=>contradiction
  subst h2;obtain rfl:=vn h1;rw[bN]at ec ek;subst ec;exact hN Hc as M (ek▸A)
end
end
section
section
variable{E:EF}{e:aT}{r:aa}{l:Lc}{b c:bw}{B:bw->Cells->Prop}{L:Cells}
def TV.sG(h:TV E (a1 e) r (λb M=>if b then TV E (a2 e) r B l M else B aD M) l L)(he:aB (e=.BoolOp .And [a1 e,a2 e] e.pos) tR):TV E e r B l L:=λX w a st R=>by rw[he];refine JT (WT.mono (h X w a st R) λb ak z=>?_);obtain⟨L,R',z⟩:=z;induction b with|false=>exact⟨_,R',z⟩|true=>refine(a0 rfl).mpr (JT (WT.mono (z X w a ak R') λb ak z=>?_));obtain⟨L,R',z⟩:=z;induction b with|false=>exact⟨_,R',z⟩|true=>exact(a0 rfl).mpr (Um ⟨_,R',z⟩)
def PT.and(h:PT E (a1 e) r l L b)(k:PT E (a2 e) r l L c)(he:aB (e=.BoolOp .And [a1 e,a2 e] e.pos) tR):PT E e r l L (b&&c):=TV.sG (TV.use h (by clear h;induction b with|true=>exact(a0 rfl).mpr k|false=>exact(aX fH).mpr ⟨rfl,rfl⟩)) he
end
inductive Hd(P:Node->Tab->Prop)(B:aa)(ns:ag Node)(bl:aa)(t:aa×aV)(rest:ag V)(b:ag (aa×Tab)×Cells):Prop|mk(dn rs:ag Node):ns=dn++rs->rest=rs.map cH->(bl,aV.list (ns.map cH))∈b.2->fk (λτ=>∃x∈dn,P x τ) (dn.length*B) b.1 (b.2++[t])->Hd P B ns bl t rest b
abbrev Oh(a d c f:aa)(p:Tm):Lc:=.cons "self" (.ref a) (.cons "table" (.ref d) (.cons "c" (nv c) (.cons "pattern" (aS p) (.cons "op" (.str p.op) (.cons "found" (.ref f) .nil)))))
def acd(hn:0<n)(h:k∈ks):k.bd n<=gx n ks:=by refine qh (agc h) λs t aC=>?_;rw[aC];rw[Ha];exact bG (Q8 _ (CI hn)) (Ra (k.bd n*gx n t) (CI hn (ks:=s)))
def fQ.len:∀{ps:ag Tm}{cs:ag aa}{τ τ':Tab},fQ R ps cs τ τ'->ps.length=cs.length:=by intro ps;induction ps with|nil=>intro cs τ τ' h;exact(aO xI h.1).symm|cons p ps ih=>intro cs τ τ' h;refine fX h λc ds τ1 bT h1 h2=>?_;rw[bT];exact aO (·+1) (ih h2)
def ace:c9 (as++bs)=c9 as++c9 bs:=cy
def acf{α:Type}{P:α->Tab->Prop}{A:Tab->Prop}{dn:ag α}{x:α}(h:∀τ,A τ↔P x τ)(τ:Tab):((∃y∈dn,P y τ)\/A τ)↔∃y∈dn++[x],P y τ:=by
 constructor;·
  intro z;rcases z with z|z;·refine aq z λy h1 h2=>?_;exact(aA y (de _ h1) h2)
  ·exact(aA x (bC _ (iB _)) ((h τ).mp z))
 ·intro z;refine aq z λy h1 h2=>?_;rcases cw.mp h1 with h1|h1;·exact .inl (aA y h1 h2)
  ·exact .inr ((h τ).mpr (bU.mp h1▸h2))
def acg:∀(p:Tm){D a dx d T c:aa}{H:HA}{g:HG}{τ:Tab},p.dep<=D->oy p->HI g T []->c<g.n->g.rt c=c->g.n<63->τ.length+p.vars.length<1000->p.bd g.n<1000000->Sp (D+5) 226 [.ref a,.ref d,nv c,aS p] (za (Ex (bY g) p τ c) (p.bd g.n) a dx d H.a τ (aJ H g)) (uT a dx d H.a τ (aJ H g)):=by
 intro p;induction p using Tm.ind with
  |h p ih=>
   intro D a dx d T c H g τ hd hp I hc hr hn hv hB;refine dh (sU (jY (bj p.ny hd))) λD bQ=>?_;subst bQ;obtain⟨o1,o2⟩:=hp p p.CC;have kz:(p.kids.map aS).length<1000:=by rw[aN];exact br p.two (by decide)
   have te:aS p=.tup (.str p.op::p.kids.map aS):=lO p;have nl:(V.str p.op::p.kids.map aS).length<=16777216:=bF (bj (xA kz) (by decide));have n0:0<g.n:=br (cF _) hc;refine Sp.eE abX λR hR=>?_;refine WS.cons (W1.set (EV.use (PE.oj (PE.name (aO af te)) (PE.nat 0) rfl nl) ?_));have vp:∀{b},isVar p=b->PT (.fn (sB 13 1) 226) (sv (dG (b1 (sB 13 1)).tail)) (D+1+4) (Od a d c p) (uT a dx d H.a τ (aJ H g)) b:=λh=>h▸PT.of (EV.fn (AV.p1 PE.name (CP.call (Cz o1) (.refl _) (dF.mpr ((i8 _))))));by_cases q:isVar p=ai;·
    have hvl:p.vars.length=1:=by rw[Tm.w4 q];rfl
    have b1:1<=p.bd g.n:=Tm.Hb n0;exact WS.cons (W1.jy (vp q) rfl (ab4 ((br (dE _ _) hv)) b1 q hR))
   ·have q:isVar p=aD:=mL.mpr q;have eb:=Tm.aca (n:=g.n) q;have hv2:τ.length+(p.kids.flatMap Tm.vars).length<1000:=by rw[←Tm.qR q];exact hv
    have bk:gx g.n p.kids<=p.bd g.n:=by rw[eb];exact Ra _ n0
    refine WS.cons (W1.fF (vp q) rfl (WS.nil (WS.cons (W1.set (EV.list (AV.p0 ⟨cF _,λf=>?_⟩))))));refine WS.cons (W1.for (EV.drop (EV.m (PE.self 1 2 G9) (Mt.inst 4 5 ab2) (AV.p1 PE.name (CV.call (abp (H:=H) I hc hn) (b6 (l₁:=[_,_,_,_])) (λv L z=>?_) (dF.mpr ((ie _ _))))))) (.inl (d8 _ _ rfl)));obtain⟨bl,ns,rfl,mj,He,rfl⟩:=z;refine⟨(f,.list [])::(du a dx H.a++(([(bl,.list (ns.map cH))]++[iz d τ])++aJ H g)),[],?_,?_⟩;·rw[bN];exact b6.trans (.cons _ (.cons _ (.cons _ (.swap ..))))
    refine⟨.list (vs:=ns.map cH) (bK _ (bC _ aR)) (by rw[aN];exact bG (bF (br He hn)) (aL rfl)),λb:ag (aa×Tab)×Cells=>Oh a d c f p,λb=>(f,.list (c9 b.1))::(du a dx H.a++((b.2++[iz d τ])++aJ H g)),Hd (λx τ'=>x.1=p.op/\fQ (bY g) p.kids x.2 τ τ') (gx g.n p.kids) ns bl (iz d τ),([],[(bl,.list (ns.map cH))]),⟨[],ns,rfl,rfl,iB _,?_⟩,rfl,rfl,λv rest b z=>?_,λb z=>?_⟩;·refine fk.mono (P:=λu=>dv) (B:=0) fk.nil (λτ'=>⟨λz=>z.elim,?_⟩) (cF _);intro z;refine aq z λx hx u=>?_;exact by cases hx
    ·obtain⟨as,M⟩:=b;obtain⟨dn,rs,en,er,uV,A⟩:=z;induction rs using b7 with
      |nil=>contradiction|cons x rs=>
       obtain⟨rfl,rfl⟩:=cq er;have uV:(bl,aV.list (ns.map cH))∈M:=uV;have A:fk (λτ'=>∃x∈dn,x.1=p.op/\fQ (bY g) p.kids x.2 τ τ') (dn.length*gx g.n p.kids) as (M++[iz d τ]):=A;have fN:x∈ns:=en▸bC _ aR;refine bL ((mj x).mp fN) λm hm em cm=>?_;have xl:(x.2.map nv).length<1000:=by rw[aN,←cm];show((g.nd m).2.map g.rt).length<1000;rw[aN];exact br (I.iy m hm).1 (by decide)
       have xz:(V.str x.1::x.2.map nv).length<=16777216:=bF (bj (xA xl) (by decide));refine(dD (bK _ (bC _ (de _ (de _ uV)))) (aA _ (.name _ _ rfl rfl) ?_));have test:PT (.fn (sB 13 1) 226) (sv (dG (b1 Oe))) (D+1+4) ((Oh a d c f p).put "node" (cH x)) ((f,.list (c9 as))::(du a dx H.a++((M++[iz d τ])++aJ H g))) (decide (x.1=p.op)&&decide ((x.2.map nv).length+1=(p.kids.map aS).length+1)):=PT.and (PT.wO (PE.oj (us:=.str x.1::x.2.map nv) PE.name (PE.nat 0) rfl xz) PE.name) (PT.cmp .Eq (EV.bi (.builtin "len") kb (AV.p1 PE.name (CP.Gv (us:=.str x.1::x.2.map nv) xz))) (EV.bi (.builtin "len") kb (AV.p1 (PE.name (aO af te)) (CP.Gv nl))));by_cases z:x.1=p.op/\(x.2.map nv).length+1=(p.kids.map aS).length+1;·
        have tt:(decide (x.1=p.op)&&decide ((x.2.map nv).length+1=(p.kids.map aS).length+1))=ai:=by rw[c7 z.1,c7 z.2];rfl
        obtain⟨xo,cs⟩:=x;obtain⟨z1,z2⟩:=z;obtain rfl:xo=p.op:=z1;have cl:p.kids.length=cs.length:=by rw[aN,aN]at z2;exact iC z2.symm
        have cin:∀kc∈cs,kc<g.n/\g.rt kc=kc:=λkc hk=>by have e:(g.nd m).2.map g.rt=cs:=aO lW cm;rw[←e]at hk;refine aq (bt.mp hk) λk Bt aC=>?_;subst aC;have kn:=I.kids hm k Bt;exact⟨br (I.wY k kn) kn,I.gX k kn⟩
        refine WS.cons (W1.jy test tt (WS.cons (W1.set (EV.list (AV.p1 PE.name ⟨aL rfl,λtb=>?_⟩)))));refine WS.cons (acb (q:=D+5) (n:=g.n) (R:=bY g) (h:=H.a) (dx:=dx) (τ:=τ) (Pl:=M++[iz d τ]) (λk dM kc hk d τ hl=>?_) (dF.mpr ((bq _))) n0 cl (bC _ (iB _)) hv2 (br bk hB) λkA bs M' C=>?_);·have b1:=acd n0 dM;exact ih k dM (by have:=Tm.pL dM;exact l3 79190695169 hd this) (λs h=>hp s (Tm.CD dM h)) I (cin kc hk).1 (cin kc hk).2 hn hl (br (bG b1 bk) hB)
        ·have al:=A.len;have bl2:=C.len;have dl:dn.length+1<=g.n:=by have:=aO xI en;rw[bD,lU]at this;exact l4 331450453868801 He this
         have m1:dn.length*gx g.n p.kids+gx g.n p.kids<=p.bd g.n:=by rw[eb,←Ax];exact pX _ dl
         have ab:=br (bG (vJ al bl2) m1) hB;have nx:Hd (λx τ'=>x.1=p.op/\fQ (bY g) p.kids x.2 τ τ') (gx g.n p.kids) ns bl (iz d τ) (rs.map cH) (as++bs,(kA,.list (c9 bs))::(M'++M)):=by refine⟨dn++[(p.op,cs)],rs,by rw[en,bW];rfl,rfl,bK _ (bC _ uV),?_⟩;have A2:fk _ _ as (((kA,.list (c9 bs))::(M'++M))++[iz d τ]):=A.sub λq hq=>bK _ (by show q∈(M'++M)++[iz d τ];rw[bW];exact bC _ hq);have C2:fk _ _ bs (((kA,.list (c9 bs))::(M'++M))++[iz d τ]):=C.sub λq hq=>bK _ (by show q∈(M'++M)++[iz d τ];rw[bW];exact hq);exact(A2.app C2).mono (acf λτ'=>⟨λw=>(dD rfl w),λw=>w.2⟩) (by rw[bD,DL];exact e9 (by rw[pW,I4]))
         refine WS.cons (W1.expr (EV.m PE.name (Mt.list 1 Dr B4) (AV.p1 PE.name (CV.extend (vs:=c9 as) (us:=c9 bs) 1 0 ?_ (by rw[aN,aN];exact bF (bj ab (by decide)))))));refine WS.keep (M:=(f,.list (c9 (as++bs)))::(du a dx H.a++((((kA,.list (c9 bs))::(M'++M))++[iz d τ])++aJ H g))) (G:=[]) ?_ (WS.nil (WS.fin (bH ((as++bs,(kA,.list (c9 bs))::(M'++M))) rfl rfl nx) rfl));rw[bN,ace,←bW M' M];exact(vF ..).trans (.cons _ (lT (l₁:=du a dx H.a)).symm)
       ·have tt:(decide (x.1=p.op)&&decide ((x.2.map nv).length+1=(p.kids.map aS).length+1))=aD:=by rw[←Bool.decide_and];exact dS z
        refine WS.cons (W1.fF test tt (WS.nil (WS.fin (bH ((as,M)) rfl rfl ⟨dn++[x],rs,by rw[en,bW];rfl,rfl,uV,?_⟩) rfl)));refine A.mono (λτ'=>⟨λw=>?_,λw=>?_⟩) (pX _ (by rw[bD];exact dE ..));·refine aq w λy h1 h2=>?_;exact⟨y,de _ h1,h2⟩
        ·refine aq w λy h1 h2=>?_;rcases cw.mp h1 with h1|h1;·exact⟨y,h1,h2⟩
         ·obtain rfl:=bU.mp h1;exact(z ⟨h2.1,by rw[aN,aN,h2.2.len]⟩).elim
    ·obtain⟨as,M⟩:=b;obtain⟨dn,rs,en,er,uV,A⟩:=z;obtain rfl:=f6.mp er.symm;rw[bN]at en;subst en;refine⟨bK _ (bC _ (de _ (de _ uV))),WS.ret (EV.use PE.name (hR _ _ ⟨f,as,M,rfl,rfl,A.mono (λτ'=>?_) (by rw[eb];exact pX _ He)⟩))⟩;refine ahy ⟨λw=>?_,λw=>?_⟩ (Ex.app q).symm;·obtain⟨x,h1,h2,h3⟩:=w;obtain⟨m,hm,em,cm⟩:=(mj x).mp h1;exact⟨x.2,⟨m,hm,cm.trans (jq h2 rfl),em.trans hr⟩,h3⟩
     ·obtain⟨cs,h1,h3⟩:=w;obtain⟨m,hm,cm,em⟩:=h1;exact⟨_,(mj _).mpr ⟨m,hm,em.trans hr.symm,cm⟩,rfl,h3⟩
end
section
section
variable{r a d:aa}{es:ag (V×V)}{Q:V->Cells->Prop}{L:Cells}
def CV.items(i:aa)(hs:StrKeys es)(k:∀b,Q (.ref b) ((b,.items d)::L))(x:aB (L[i]?=af (d,.dict es)) tR):CV r (.builtin "dict.items") [.ref d] Q L:=λX w env l st R=>WB (R.at i x) hs λb hb=>⟨_,R.new _ hb,k b⟩
def CV.sortI(sh:Sh)(i j:aa)(hk:StrKeys es)(hs:∀u∈es.map λp=>V.tup [p.1,p.2],ej sh u/\bO 7 u=ai)(hz:es.length<64)(k:∀(b:aa)(vs:ag V),r8 (es.map λp=>V.tup [p.1,p.2]) vs->Q (.ref b) ((b,.list vs)::L))(x:aB (L[i]?=af (a,.items d)) tR)(y:aB (L[j]?=af (d,.dict es)) tR):CV (r+1) (.builtin "sorted") [.ref a] Q L:=λX w env l st R=>yk (sh:=sh) (jx.items (R.at i x) (R.at j y) hk (bG (bF hz) (by decide))) hs (λo u hu=>by refine aq (bt.mp hu) λp o aC=>?_;rw[←aC];exactλz=>by have:=V.tup.inj z;contradiction) (by rw[aN];exact hz) λb vs hb hs=>⟨_,R.new _ hb,k b vs hs⟩
end
abbrev fg(p:aI×aa):V:=.tup [.str p.1,nv p.2]
def e6(s:Tab):V:=.tup (s.map fg)
noncomputable def zg:Sh:=.tup λi=>if i=0 then .str else .int
def mE(p:aI×aa):ej zg (fg p):=fZ.mk cZ (fZ.mk cZ (fZ.nil _))
def ach(p:aI×aa):bO 7 (fg p)=ai:=rfl
def Hf(h:fg p=fg q):p=q:=by obtain⟨h1,h2⟩:=cq (V.tup.inj h);exact jq (V.str.inj h1) (Ap (V.int.inj (cq h2).1))
def map_inj{α:Type}{f:α->V}(hf:∀x y,f x=f y->x=y):∀{xs ys:ag α},xs.map f=ys.map f->xs=ys:=by intro xs;induction xs with|nil=>intro ys h;exact(f6.mp h.symm).symm|cons x xs ih=>intro ys h;induction ys using b7 with|nil=>contradiction|cons y ys=>exact List.cons_eq_cons.mpr ⟨hf _ _ (cq h).1,ih (cq h).2⟩
def Oi(h:e6 s=e6 t):s=t:=map_inj (λu u=>Hf) (V.tup.inj h)
def jD(s:Tab):Prop:=(s.map fg).Pairwise λa b=>eX b a=aD
def jD.uniq(hs:jD s)(ht:jD t)(h:s.Perm t):s=t:=map_inj (λu u=>Hf) (aiq (le:=λa b=>eX b a=aD) (λa b ha hb h1 h2=>by refine aq (bt.mp ha) λp u aC=>?_;subst aC;refine aq (bt.mp hb) λq u aC=>?_;subst aC;exact(wo zg).tot _ _ (mE p) (mE q) h2 h1) hs ht (h.map _))
def r8.row(h:r8 ((d0 τ).map λp=>V.tup [p.1,p.2]) vs):∃s:Tab,vs=s.map fg/\s.Perm τ/\jD s:=by
 obtain⟨h1,h2⟩:=h;have e:(d0 τ).map (λp=>V.tup [p.1,p.2])=τ.map fg:=dQ ..;rw[e]at h1;have h3:∀v∈vs,∃p,v=fg p:=λv hv=>by refine aq (bt.mp (h1.mem_iff.mp hv)) λp u aC=>?_;exact aC▸(⟨p,rfl⟩)
 obtain⟨s,rfl⟩:∃s:Tab,vs=s.map fg:=by clear h1 h2;induction vs with|nil=>exact⟨[],rfl⟩|cons v vs ih=>obtain⟨s,rfl⟩:=ih λv hv=>h3 v (bK _ hv);obtain⟨p,rfl⟩:=h3 v aR;exact⟨p::s,rfl⟩
 refine(bH s rfl ?_ h2);have h:=h1.map λv=>Ii λq:aI×aa=>fg q=v;rwa [dQ,dQ,(vQ λp=>Hf (afD (p:=λq=>fg q=fg p) ⟨p,rfl⟩):(λv=>Ii λq:aI×aa=>fg q=v)∘fg=id),qb,qb]at h
end
section
noncomputable def yes{α:Type}(f:α->V)(ms:ag α):ag (V×V):=ms.map λx=>(f x,.bool ai)
def Oj{α:Type}{f:α->V}(h:vs.Perm ys):∀ms:ag α,ys=ms.map f->∃cA:ag α,vs=cA.map f/\cA.Perm ms:=by
 induction h with
  |nil=>exactλms e=>(aA ms e (.refl _))|cons x h ih=>intro ms e;induction ms using b7 with|nil=>contradiction|cons m ms=>obtain⟨rfl,e1⟩:=cq e;refine aq (ih ms e1) λcA bQ p=>?_;rw[bQ];exact(aA (m::cA) rfl (p.cons m))
  |swap x y l=>intro ms e;induction ms using b7 with|nil=>contradiction|cons m ms=>obtain⟨rfl,e1⟩:=cq e;induction ms using b7 with|nil=>contradiction|cons n ms=>obtain⟨rfl,rfl⟩:=cq e1;exact(aA (n::m::ms) rfl (.swap ..))
  |trans h1 h2 FN ph=>intro ms e;refine aq (ph ms e) λms1 e1 p1=>?_;refine aq (FN ms1 e1) λzj e2 p2=>?_;exact(aA zj e2 (p2.trans p1))
section
variable{α:Type}{f:α->V}{ms:ag α}{x:α}{sh:Sh}{r a:aa}{Q:V->Cells->Prop}{L:Cells}
def Ol(h:∀y∈ms,f y≠f x):cj (yes f ms) (f x)=ah:=qm.mpr (rV.mpr λp hp=>by refine aq (bt.mp hp) λx hx aC=>?_;rw[←aC];exact h x hx)
def Om(h:x∈ms):cj (yes f ms) (f x)=af (.bool ai):=by cases q:cj (yes f ms) (f x)with|none=>exact bA rfl (rV.mp (qm.mp q) (f x,.bool ai) (bt.mpr (aA x h rfl)))|some v=>rw[rU]at q;refine aq (zZ.mp q) λi hi q=>?_;refine aq (lR.mp q) λp hp aC=>?_;rw[←aC];refine aq (bt.mp (e8 hp)) λy u aC=>?_;clear hp;subst aC;rfl
def CJ(hf:∀x y,f x=f y->x=y):(cj (yes f ms) (f x)).isSome=ai↔x∈ms:=by
 by_cases q:x∈ms;·rw[Om q];exact⟨λu=>q,λu=>rfl⟩
 ·rw[Ol λy hy e=>q (hf y x e▸hy)];exact⟨λz=>(rA z),λz=>bA z q⟩
inductive Oo(f:α->V)(ms:ag α)(x:α)(es:ag (V×V)):Prop|mk(cA:ag α):es=yes f cA->(ms.Nodup->cA.Nodup)->(∀y,y∈cA↔y∈ms\/y=x)->cA.length<=ms.length+1->Oo f ms x es
def zm(hf:∀x y,f x=f y->x=y):Oo f ms x (dt (yes f ms) (f x) (.bool ai)):=by
 by_cases q:x∈ms;·rw[Ob (Om q)];exact⟨ms,rfl,id,λy=>⟨.inl,λz=>z.elim id λe=>e▸q⟩,kE _⟩
 ·rw[CG (Ol λy hy e=>q (hf y x e▸hy))];refine⟨ms++[x],?_,λn=>?_,λy=>?_,e9 (by rw[bD];rfl)⟩;·delta yes;rw[cy];rfl
  ·exact gA.mpr ⟨n,iZ.mpr ⟨rj,.nil⟩,λa ha b hb e=>q (by rw[bU.mp hb]at e;exact e▸ha)⟩
  ·rw[cw,bU]
def sM(hs:∀x,ej sh (f x)/\bO 7 (f x)=ai):eM (yes f ms) (f x):=⟨(hs x).2,λp hp=>by refine aq (bt.mp hp) λy u aC=>?_;rw[←aC];exact Lp sh (hs y).1 (hs x).1⟩
def sO:(yes f ms).length=ms.length:=aN ..
def w5:(yes f ms).map (·.1)=ms.map f:=dQ ..
def CV.Hg(i:aa)(hs:∀x,ej sh (f x)/\bO 7 (f x)=ai)(ff:2<=ms.length->∀x∈ms,f x≠.tup [])(hz:ms.length<64)(k:∀(b:aa)(cA:ag α),cA.Perm ms->Q (.ref b) ((b,.list (cA.map f))::L))(y:aB (L[i]?=af (a,.dict (yes f ms))) tR):CV (r+1) (.builtin "sorted") [.ref a] Q L:=λX w env l st R=>yk (sh:=sh) (jx.dict (R.at i y) (by rw[sO];exact bG (bF hz) (by decide))) (λu hu=>by rw[w5]at hu;refine aq (bt.mp hu) λx o aC=>?_;rw[←aC];exact hs x) (λh2 u hu=>by rw[w5]at hu h2;rw[aN]at h2;refine aq (bt.mp hu) λx hx aC=>?_;rw[←aC];exact ff h2 x hx) (by rw[w5,aN];exact hz) λb vs hb hv=>by refine aq (Oj hv.1 ms w5) λcA bQ p=>?_;rw[bQ];exact⟨_,R.new _ hb,k b cA p⟩
def CV.Oq(i:aa)(hs:∀x,ej sh (f x)/\bO 7 (f x)=ai)(ff:2<=xs.length->∀x∈xs,f x≠.tup [])(hz:xs.length<64)(k:∀(b:aa)(cA:ag α),cA.Perm xs->Q (.ref b) ((b,.list (cA.map f))::L))(y:aB (L[i]?=af (a,.list (xs.map f))) tR):CV (r+1) (.builtin "sorted") [.ref a] Q L:=λX w env l st R=>yk (sh:=sh) (jx.list (R.at i y) (by rw[aN];exact bG (bF hz) (by decide))) (λu hu=>by refine aq (bt.mp hu) λx o aC=>?_;subst aC;exact hs x) (λh2 u hu=>by rw[aN]at h2;refine aq (bt.mp hu) λx hx aC=>?_;rw[←aC];exact ff h2 x hx) (by rw[aN];exact hz) λb vs hb hv=>by refine aq (Oj hv.1 xs rfl) λcA bQ p=>?_;rw[bQ];exact⟨_,R.new _ hb,k b cA p⟩
end
def Ot:Sh:=.tup λu=>zg
def Hh(s:Tab):ej Ot (e6 s)/\bO 7 (e6 s)=ai:=by
 refine⟨λi v e=>?_,?_⟩;·refine aq (bt.mp (e8 e)) λp u aC=>?_;rw[←aC];exact mE p
 ·induction s with|nil=>rfl|cons p s ih=>exact bM.mpr ⟨rfl,ih⟩
def FR(g:HG)(p:Tm)(c:aa)(s:Tab):Prop:=jD s/\∃τ,s.Perm τ/\Ex (bY g) p [] c τ
inductive Ou(P:Tab->Prop)(X:Cells)(v:V)(L:Cells):Prop|mk(b:aa)(ms:ag Tab):v=.ref b->ms.Nodup->(∀s,s∈ms↔P s)->L=(b,.list (ms.map e6))::X->Ou P X v L
def aci:kH (.builtin "dict.items")=pure (.type "method_descriptor"):=by rfl
def Ov(P:bh):dN (KK P) 241 "found_in" 233:=.of (by kernel_rfl)
def FR.ne(h:FR g p c s)(h':FR g p c' t)(e:e6 s=.tup []):t=s:=by obtain rfl:=f6.mp (V.tup.inj e);refine bx h λu bg=>aq bg λτ h1 h2=>?_;refine bx h' λu bg=>aq bg λτ' h3 h4=>?_;obtain rfl:=h1.symm.eq_nil;induction τ' using b7 with|nil=>exact h3.eq_nil|cons q τ'=>have k2:=(h2.sound.1.jC q.1).mpr ((h4.sound.1.jC q.1).mp (by rw[afV];rfl));contradiction
abbrev fiL(a c sb:aa)(p:Tm):Lc:=.cons "self" (.ref a) (.cons "c" (nv c) (.cons "pattern" (aS p) (.cons "substs" (.ref sb) .nil)))
inductive Ow(as:ag (aa×Tab))(rest:ag V)(ms:ag Tab):Prop|mk(dn rs:ag (aa×Tab)):as=dn++rs->rest=c9 rs->ms.Nodup->(∀s∈ms,jD s/\∃q∈dn,s.Perm q.2)->(∀q∈dn,∃s∈ms,s.Perm q.2)->Ow as rest ms
def acj{K X:Cells}:(x::y::(K++X)).Perm ((K++(x::X))++[y]):=.trans ((vF ..).trans (.cons _ lT.symm)) (b6 (l₁:=[y]))
def Hi{K Pl X Y:Cells}:(x::(Y++(K++(Pl++X)))).Perm ((x::(K++X))++(Y++Pl)):=by refine .cons _ ?_;refine(((b6.append_left K).trans (.of_eq (bW ..).symm)).append_left Y).trans (b6.trans ?_);rw[bW (K++X)];exact b6.append_left _
def Ox(hd:p.dep<=D)(hp:oy p)(I:HI g T [])(hc:c<g.n)(hn:g.n<63)(hv:p.vars.length<64)(hB:p.bd g.n<1000000)(hK:∀ms:ag Tab,ms.Nodup->(∀s∈ms,FR g p (g.rt c) s)->ms.length<64):Sp (D+6) 233 [.ref a,nv c,aS p] (Ou (FR g p (g.rt c)) (du a dx H.a++aJ H g)) (du a dx H.a++aJ H g):=by
 refine Sp.eE abY λR hR=>WS.cons (W1.set (EV.om λsb=>?_));refine WS.cons (W1.for (EV.drop (EV.m PE.name (Mt.inst 1 2 N9) (AV.cons (EV.om λd=>AV.p2 (EV.m (PE.self 2 3 G9) (Mt.inst 4 5 jA) (AV.p1 PE.name (CP.call (jB I.ok hc) (b6 (l₁:=[_,_,_,_])) (dF.mpr ((ie _ _)))))) PE.name (CV.call (M:=[(sb,.dict [])]) (acg (H:=H) (d:=d) (dx:=dx) p hd hp I (I.eO hc) (I.gX c hc) hn (τ:=[]) (br (e9 (oZ _)) (df hv (by decide))) hB) acj (λv L z=>?_) (dF.mpr ((bq _)))))))) (.inl (d8 _ _ rfl)));obtain⟨l,as,N,rfl,rfl,A⟩:=z;refine⟨(sb,.dict (yes e6 []))::((l,.list (c9 as))::(du a dx H.a++((N++[iz d []])++aJ H g))),[],b6.trans (.of_eq (bN _).symm),?_⟩;have fr:∀{ms:ag Tab}{dn:ag (aa×Tab)},(∀q∈dn,q∈as)->(∀s∈ms,jD s/\∃q∈dn,s.Perm q.2)->∀s∈ms,FR g p (g.rt c) s:=λ{ms dn}hq h s hs=>by refine bx (h s hs) λh1 bg=>aq bg λq h2 h3=>?_;exact⟨h1,q.2,h3,(A.sound q (hq q h2)).2⟩
 refine⟨.list (vs:=c9 as) (bK _ aR) (by rw[aN];exact bF (br A.len (df hB (by decide)))),λo:ag Tab=>fiL a c sb p,λms=>(sb,.dict (yes e6 ms))::((l,.list (c9 as))::(du a dx H.a++((N++[iz d []])++aJ H g))),Ow as,[],⟨[],as,rfl,rfl,.nil,λo h=>(by contradiction),λo h=>(by contradiction)⟩,rfl,rfl,λv rest ms z=>?_,λms z=>?_⟩;·
  obtain⟨dn,rs,e,er,nd,sn,cv⟩:=z;induction rs using b7 with
   |nil=>nomatch er|cons q rs=>
    obtain⟨rfl,rfl⟩:=cq er;refine(dD (bK _ aR) (aA _ (.name _ _ rfl rfl) ?_));have qin:q∈as:=e▸bC _ aR;refine bx (A.sound q qin) λmq xq=>?_;obtain⟨i,hi⟩:=oP.mp (bK (sb,aV.dict (yes e6 ms)) (bK (l,aV.list (c9 as)) (bC (du a dx H.a) (de (aJ H g) mq))));have ql:q.2.length<64:=by have:=xq.sound.1.len;exact l2 0x402a1800b911402a02 hv this
    have mz:=hK ms nd (fr (λo h=>e▸de _ h) sn);refine WS.cons (W1.put (EV.use (PE.bool ai) (EV.use PE.name (EV.bi (.type "tuple") kt (AV.cons (EV.bi (.builtin "sorted") kb (AV.cons (EV.m PE.name (Mt.dict i afE aci hi) (AV.p0 (CV.items i G' (λvw=>AV.nil (CV.sortI zg 0 (i+1) G' ?_ ?_ (λb vs hs=>AV.nil ?_) rfl hi)) hi))))))))));·intro u hu;refine aq (bt.mp hu) λx hx aC=>?_;rw[←aC];refine aq (bt.mp hx) λy o aC=>?_;rw[←aC];exact⟨mE y,ach y⟩
    ·rw[aN];exact ql
    ·refine bL (r8.row hs) λs bQ hp hr=>?_;rw[bQ];refine CP.to (CP.wN 0 (by rw[aN,hp.length_eq];exact bF (bj ql (aL rfl)))) (km.dict 2 rfl (sM (f:=e6) (x:=s) Hh) (by rw[sO];exact bF (bj mz (aL rfl))) rfl ?_);obtain⟨cA,e',n',m',l'⟩:=zm (f:=e6) (ms:=ms) (x:=s) λo o=>Oi;refine WS.keep (M:=(sb,.dict (yes e6 cA))::((l,.list (c9 as))::(du a dx H.a++((N++[iz d []])++aJ H g)))) (G:=[(b,.list (s.map fg)),(vw,.items q.1)]) ?_ (WS.fin ⟨cA,rfl,rfl,dn++[q],rs,by rw[e,bW];rfl,rfl,n' nd,λt ht=>?_,λt ht=>?_⟩ rfl);·exact e'▸b6 (l₁:=[_,_])
     ·rcases(m' t).mp ht with ht|rfl;·refine bx (sn t ht) λh1 bg=>aq bg λt' h2 h3=>?_;exact⟨h1,t',de _ h2,h3⟩
      ·exact⟨hr,q,bC _ (iB _),hp⟩
     ·rcases cw.mp ht with ht|ht;·refine aq (cv t ht) λt' h1 h2=>?_;exact(aA t' ((m' t').mpr (.inl h1)) h2)
      ·rw[bU.mp ht];exact(aA s ((m' s).mpr (.inr rfl)) hp)
 ·obtain⟨dn,rs,e,er,nd,sn,cv⟩:=z;obtain rfl:=f6.mp er.symm;rw[bN]at e;subst e;have fr:=fr (λo h=>h) sn;refine⟨bK _ aR,WS.ret (EV.drop (EV.bi (.builtin "sorted") kb (AV.p1 PE.name (CV.Hg 0 Hh (λh2 x hx e=>?_) (hK ms nd fr) λb cA pm=>⟨(b,.list (cA.map e6))::(du a dx H.a++aJ H g),[(sb,.dict (yes e6 ms)),(l,.list (c9 as))]++(N++[iz d []]),Hi (x:=(b,.list (cA.map e6))) (Y:=[(sb,.dict (yes e6 ms)),(l,.list (c9 as))]) (K:=du a dx H.a) (X:=aJ H g),hR _ _ ⟨b,cA,rfl,pm.symm.nodup nd,λs=>⟨λhs=>fr s (pm.mem_iff.mp hs),λhs=>?_⟩,rfl⟩⟩))))⟩;·
   have h1:∀t∈ms,t=x:=λt ht=>FR.ne (fr x hx) (fr t ht) e;have h2:ms.length<=1:=by induction ms using b7 with|nil=>exact cF _|cons m ms=>induction ms using b7 with|nil=>exact bq _|cons k ms=>exact((iZ.mp nd).1 (by rw[h1 m aR,←h1 k (bK _ aR)];exact aR)).elim
   exact l1 43402724017 ‹_› h2
  ·refine bx hs λh1 bg=>aq bg λτ h2 h3=>?_;obtain⟨b',hb⟩:=A.all τ h3;refine aq (cv _ hb) λs' h4 h5=>?_;rw[jD.uniq h1 (sn s' h4).1 (h2.trans h5.symm)];exact pm.mem_iff.mpr h4
end
section
inductive Oy{α:Type}(xs:ag α)(ys:ag V)(f g:α->V)(rest zs:ag V):Prop|mk(dn rs:ag α):xs=dn++rs->rest=rs.map f->zs=ys++dn.map g->Oy xs ys f g rest zs
def cT.add{α:Type}{xs:ag α}{Fin:ag V->Cells->Prop}(f g:α->V)(it:jR L u (xs.map f) G)(hg:G L)(hl:ys.length+xs.length<16777216)(ot:lA t)(h:∀x∈xs,∃l',FC E t (f x) l l'/\PE E elt r l' L (g x))(k:Fin (ys++xs.map g) L):cT E t [] r ys (PL E elt r) Fin l u L:=by
 refine⟨λo:kK=>L,λrest zs o=>Oy xs ys f g rest zs,(),it,⟨[],xs,rfl,rfl,(bN _).symm⟩,rfl,λv rest zs o z=>⟨hg,?_⟩,λzs o z=>⟨hg,?_⟩,ot⟩;·obtain⟨dn,rs,e,er,rfl⟩:=z;induction rs using b7 with|nil=>nomatch er|cons x rs=>obtain⟨rfl,rfl⟩:=cq er;refine aq (h x (e▸bC _ aR)) λl' h1 h2=>?_;refine(aA l' h1 (ia.nil ((a0 rfl).mpr (EV.use h2 ⟨?_,(),⟨dn++[x],rs,by simp only[e,bW];rfl,rfl,by rw[bW,cy];rfl⟩,rfl⟩))));simp only[e,bD]at hl;rw[bD,aN];exact l3 0x10000007a109810000007a2d19092 hl
 ·obtain⟨dn,rs,e,er,rfl⟩:=z;obtain rfl:=f6.mp er.symm;rw[bN]at e;subst e;exact k
abbrev cI:=aa×Tab
def cU(q:cI):V:=.tup [nv q.1,e6 q.2]
def ack:Sh:=.tup λi=>if i=0 then .int else Ot
def CK(q:cI):ej ack (cU q)/\bO 7 (cU q)=ai:=by refine⟨fZ.mk cZ (fZ.mk (Hh q.2).1 (fZ.nil _)),?_⟩;show(ai&&(bO 6 (e6 q.2)&&ai))=ai;induction q.2 with|nil=>rfl|cons p s ih=>exact bM.mpr ⟨rfl,ih⟩
def Hj(h:cU p=cU q):p=q:=by obtain⟨h1,h2⟩:=cq (V.tup.inj h);exact jq (Ap (V.int.inj h1)) (Oi (cq h2).1)
def FM(g:HG)(p:Tm)(q:cI):Prop:=q.1<g.n/\g.rt q.1=q.1/\FR g p q.1 q.2
inductive Hk(P:cI->Prop)(X:Cells)(v:V)(L:Cells):Prop|mk(b:aa)(ms:ag cI):v=.ref b->ms.Nodup->(∀q,q∈ms↔P q)->L=(b,.list (ms.map cU))::X->Hk P X v L
def acm(P:bh):dN (KK P) 501 "classes" 467:=.of (by kernel_rfl)
def HI.Oz(I:HI g T ex)(hi:i<g.n):g.up i=i↔g.rt i=i:=by refine⟨I.root.top i hi,λe=>?_⟩;have h1:=I.root.le i hi;have h2:=I.wY (g.up i) (br h1 hi);rw[←I.root.step i hi,e]at h2;exact s7 h1 h2
inductive OA(P:cI->Prop)(cs rest ys:ag V)(M:Cells):Prop|mk(dn rs:ag aa)(ms:ag cI):cs=(dn++rs).map nv->rest=rs.map nv->ys=ms.map cU->ms.Nodup->(∀q,q∈ms↔q.1∈dn/\P q)->ms.length<=64*dn.length->OA P cs rest ys M
def acn{dn:ag aa}{ms:ag cI}{ss:ag Tab}(h1:c∉dn)(h2:ms.Nodup)(h3:ss.Nodup)(h4:∀q∈ms,q.1∈dn):(ms++ss.map λs=>(c,s)).Nodup:=by
 refine gA.mpr (cM h2 ?_ (λq hq q' kB e=>?_));·exact jX.mpr (h3.imp λ{a b}h e=>h (RX.mp e).2)
 ·refine aq (bt.mp kB) λs u aC=>?_;subst aC;exact h1 (by have:=h4 q hq;rw[e]at this;exact this)
def aco(hd:p.dep<=D)(hp:oy p)(I:HI g T [])(hn:g.n<63)(hv:p.vars.length<64)(hB:p.bd g.n<1000000)(hK:∀c,c<g.n->∀ms:ag Tab,ms.Nodup->(∀s∈ms,FR g p c s)->ms.length<64):Sp (D+7) 238 [.ref a,aS p] (Hk (FM g p) (du a dx H.a++aJ H g)) (du a dx H.a++aJ H g):=by
 refine Sp.eE abZ λR hR=>WS.ret (EV.drop (EV.Ca (EV.drop (EV.m (PE.self 0 1 G9) (Mt.inst 2 3 acm) (AV.p0 (CV.call (aa0 (H:=H) I.ok) (b6 (l₁:=[_,_])) (λv L z=>?_) (dF.mpr ((ie _ _)))))))));obtain⟨cl,rfl,rfl⟩:=z;have cs:∀c,c∈(bS g.n).filter (λi=>decide (g.up i=i))->c<g.n/\g.rt c=c:=λc hc=>by refine bx (gM.mp hc) λh1 h2=>?_;have h1:=dT.mp h1;exact⟨h1,(I.Oz h1).mp (gD h2)⟩
 have cn:((bS g.n).filter (λi=>decide (g.up i=i))).Nodup:=Ak.filter _;have ca:∀c,c<g.n->g.rt c=c->c∈(bS g.n).filter (λi=>decide (g.up i=i)):=λc h1 h2=>gM.mpr ⟨dT.mpr h1,c7 ((I.Oz h1).mpr h2)⟩;have cz:((bS g.n).filter (λi=>decide (g.up i=i))).length<63:=br (Du ..) (by exact iR▸hn);generalize(bS g.n).filter (λi=>decide (g.up i=i))=xs at cs cn ca cz⊢;refine⟨(cl,.list (xs.map nv))::(du a dx H.a++([]++aJ H g)),[],?_,?_⟩;·simp only[bN];exact .cons _ b6
 refine⟨λM:Cells=>(cl,.list (xs.map nv))::(du a dx H.a++(M++aJ H g)),OA (FM g p) (xs.map nv),[],.list aR (by rw[aN];exact bG (bF cz) (by decide)),⟨[],xs,[],rfl,rfl,rfl,.nil,λq=>⟨λz=>(by contradiction),λz=>(by cases z.1)⟩,bq _⟩,rfl,λv rest ys M z=>⟨aR,?_⟩,λys M z=>⟨aR,λb=>?_⟩,.inl (d8 _ _ rfl)⟩;·
  obtain⟨dn,rs,ms,e,er,rfl,nd,mi,ml⟩:=z;have e:=map_inj (λu u=>iw) e;induction rs using b7 with
   |nil=>nomatch er|cons c rs=>
    obtain⟨rfl,rfl⟩:=cq er;refine bx (cs c (e▸bC _ aR)) λc1 c2=>?_;refine(aA _ (.name _ _ rfl rfl) (ia.nil ((a0 rfl).mpr ⟨λy hy=>?_,EV.drop (EV.m PE.name (Mt.inst 1 2 Ov) (AV.p2 PE.name PE.name (CV.call (M:=(cl,.list (xs.map nv))::M) (Ox (H:=H) (dx:=dx) hd hp I c1 hn hv hB (c2.symm▸hK c c1)) ?_ (λv L z=>?_) (dF.mpr ((bq _))))))⟩)));·rw[bU.mp hy];rfl
    ·refine(Ry _ ((b6.append_left _).trans (.of_eq (bW ..).symm))).trans ?_;exact lT.symm
    ·rw[c2]at z;obtain⟨b,ss,rfl,OB,si,rfl⟩:=z;have sl:=hK c c1 ss OB λs hs=>(si s).mp hs;have mb:(b,aV.list (ss.map e6))∈(cl,aV.list (xs.map nv))::(du a dx H.a++(((b,aV.list (ss.map e6))::M)++aJ H g)):=bK _ (bC _ aR);have dl:dn.length<63:=by rw[e,bD]at cz;exact br (dE _ _) cz
     refine⟨_,[],?_,cT.add (ys:=ms.map cU) e6 (λs=>cU (c,s)) (.list mb (by rw[aN];exact bG (bF sl) (by decide))) mb (by rw[aN];lia) (.inl (d8 _ _ rfl)) (λs hs=>(aA _ (.name _ _ rfl rfl) (EV.tuple (AV.p2 PE.name PE.name ⟨aL rfl,rfl,rfl⟩)))) (aA ((b,.list (ss.map e6))::M) ⟨dn++[c],rs,ms++ss.map λs=>(c,s),?_,rfl,?_,acn (λh=>(gA.mp (e▸cn)).2.2 c h c aR rfl) nd OB λq hq=>((mi q).mp hq).1,λq=>?_,?_⟩ rfl)⟩;·simp only[bN];exact(Hi (Y:=[(cl,aV.list (xs.map nv))]) (K:=du a dx H.a)).symm.trans ((vF ..).trans (.cons _ (lT (l₁:=du a dx H.a)).symm))
     ·rw[e,bW];rfl
     ·simp only[cy,dQ];rfl
     ·rw[cw,cw,bU,mi];refine⟨λh=>?_,λh=>?_⟩;·
       rcases h with h|h;·exact⟨.inl h.1,h.2⟩
       ·refine aq (bt.mp h) λs hs aC=>?_;rw[←aC];exact⟨.inr rfl,c1,c2,(si s).mp hs⟩
      ·obtain⟨h1,h2⟩:=h;rcases h1 with h1|h1;·exact .inl ⟨h1,h2⟩
       ·obtain⟨c',s⟩:=q;obtain rfl:c'=c:=h1;exact .inr (bt.mpr (aA s ((si s).mpr h2.2.2) rfl))
     ·simp only[bD,bD,aN,pW];exact l3 0x1d402c2097402a221402c01 ml sl
 ·obtain⟨dn,rs,ms,e,er,rfl,nd,mi,ml⟩:=z;have e:=map_inj (λu u=>iw) e;obtain rfl:=f6.mp er.symm;rw[bN]at e;subst e;exact⟨(b,.list (ms.map cU))::(du a dx H.a++aJ H g),[(cl,.list (xs.map nv))]++M,Hi (x:=(b,.list (ms.map cU))) (Y:=[(cl,.list (xs.map nv))]) (K:=du a dx H.a) (X:=aJ H g),hR _ _ ⟨b,ms,rfl,nd,λq=>(mi q).trans ⟨λh=>h.2,λh=>⟨ca _ h.1 h.2.1,h⟩⟩,rfl⟩⟩
end
section
def acp:FnAt 259 (sB 14 0) ["self","heap"]:=.of2
def acq:FnAt 264 (sB 14 1) ["self","mark"]:=.of2
def acr:FnAt 269 (sB 14 2) ["self","classes","steps"]:=.pF
def acs:FnAt 274 (sB 14 3) ["self","match"]:=.of2
def acu:FnAt 279 (sB 14 4) ["self","pattern"]:=.of2
def oB(P:bh):ey (KK P) 289 "heap":=.of (by kernel_rfl)
def acv(P:bh):ey (KK P) 289 "walker":=.of (by kernel_rfl)
def OC(P:bh):ey (KK P) 289 "seen":=.of (by kernel_rfl)
def OD(P:bh):ey (KK P) 289 "marks":=.of (by kernel_rfl)
def CL(P:bh):eN (KK P) 289 "heap"=ai/\eN (KK P) 289 "walker"=ai/\eN (KK P) 289 "seen"=ai/\eN (KK P) 289 "marks"=ai:=⟨by kernel_rfl,by kernel_rfl,by kernel_rfl,by kernel_rfl⟩
def zo(P:bh):dN (KK P) 501 "size" 396:=.of (by kernel_rfl)
section
variable{E:EF}{e:aT}{r a d:aa}{l:Lc}{L:Cells}{Q:V->Cells->Prop}{b:bw}
def PT.ge(h1:PE E (e1 e) r l L (nv a))(h2:PE E (e2 e) r l L (nv d))(h:decide (a>=d)=b)(he:aB (e=.Compare (e1 e) [.GtE] [e2 e] e.pos) tR)(hm:aB (i7 .GtE (e2 e)=aD) tF):PT E e r l L b:=TV.cmp .GtE (EV.use h1 (EV.use h2 λX w env l st R=>Ut ⟨_,R,b,aO V.bool ((decide_eq_decide.mpr (R8 (m:=d) (n:=a))).trans h),rfl,rfl⟩)) he hm
def CV.acw(k:∀b,Q (.ref b) ((b,.range (m:aa) (n:aa))::L)):CV r (.type "range") [nv m,nv n] Q L:=λX w env l st R=>WH λb hb=>⟨_,R.new _ hb,k b⟩
end
inductive OE{α β:Type}(xs:ag α)(f:α->V)(k:α->β)(h:β->V)(rest:ag V)(es:ag (V×V)):Prop|mk(dn rs:ag α)(ms:ag β):xs=dn++rs->rest=rs.map f->es=yes h ms->ms.Nodup->(∀y,y∈ms↔∃x∈dn,k x=y)->ms.length<=dn.length->OE xs f k h rest es
def cT.yes{α β:Type}{xs:ag α}(f:α->V)(k:α->β)(h:β->V)(it:jR L u (xs.map f) G)(hg:G L)(hl:xs.length<16777216)(hi:∀x y,h x=h y->x=y)(hs:∀y,ej sh (h y)/\bO 7 (h y)=ai)(ot:lA t)(st:∀x∈xs,∃l',FC E t (f x) l l'/\PE E kx (r+1) l' L (h (k x))/\PE E vx (r+1) l' L (.bool ai))(fin:∀b(ms:ag β),ms.Nodup->(∀y,y∈ms↔∃x∈xs,k x=y)->ms.length<=xs.length->Q (.ref b) ((b,.dict (yes h ms))::L)):cT E t [] (r+1) [] (PD E kx vx (r+1)) (newD Q) l u L:=by
 refine⟨λo:kK=>L,λrest es o=>OE xs f k h rest es,(),it,⟨[],xs,[],rfl,rfl,rfl,.nil,λy=>⟨λz=>(nomatch z),λzf=>aq zf λo z o=>(nomatch z)⟩,bq _⟩,rfl,λv rest es o z=>⟨hg,?_⟩,λes o z=>⟨hg,λb=>?_⟩,ot⟩;·
  obtain⟨dn,rs,ms,e,er,rfl,nd,mi,ml⟩:=z;induction rs using b7 with
   |nil=>nomatch er|cons x rs=>
    obtain⟨rfl,rfl⟩:=cq er;refine bL (st x (e▸bC _ aR)) λl' h1 h2 h3=>?_;obtain⟨cA,e',n',m',l2⟩:=zm (f:=h) (ms:=ms) (x:=k x) hi;refine(aA l' h1 (ia.nil ((a0 rfl).mpr (EV.use h2 (EV.use h3 ⟨by rw[sO];exact bF (br ml (by rw[e,bD]at hl;exact br (dE _ _) hl)),sM hs,(),⟨dn++[x],rs,cA,by simp only[e,bW];rfl,rfl,e',n' nd,λy=>?_,by rw[bD];exact l3 2003347575041 ml l2⟩,rfl⟩)))));rw[m',mi];refine⟨λz=>?_,λz=>?_⟩;·
     rcases z with z|z;·refine aq z λx' h1 h2=>?_;exact(aA x' (de _ h1) h2)
     ·exact(aA x (bC _ (iB _)) z.symm)
    ·refine aq z λx' h1 h2=>?_;rcases cw.mp h1 with h1|h1;·exact .inl (aA x' h1 h2)
     ·exact .inr (bU.mp h1▸h2.symm)
 ·obtain⟨dn,rs,ms,e,er,rfl,nd,mi,ml⟩:=z;obtain rfl:=f6.mp er.symm;rw[bN]at e;subst e;exact fin b ms nd mi ml
structure CA where
 (c dc w dw sn mr:aa)
noncomputable def gH(C:CA)(h:aa):Cells:=[(C.c,.inst 289 C.dc),(C.dc,.attrs [("heap",.ref h),("walker",.ref C.w),("seen",.ref C.sn),("marks",.ref C.mr)])]
def eF(C:CA)(h:aa)(es ms:ag (V×V)):Cells:=gH C h++(du C.w C.dw h++[(C.sn,.dict es),(C.mr,.dict ms)])
inductive OF(c h:aa)(v:V)(L:Cells):Prop|mk(C:CA):v=.none->C.c=c->L=eF C h [] []->OF c h v L
def acx{c dc h:aa}:Sp 3 259 [.ref c,.ref h] (OF c h) [(c,.inst 289 dc),(dc,.attrs [])]:=by refine Sp.eE acp λR hR=>WS.cons (W1.attr (EV.use PE.name (EV.use PE.name ⟨0,1,λP=>(CL P).1,rfl,rfl,rfl,?_⟩)));refine WS.cons (W1.attr (EV.fn (AV.p1 PE.name (CV.make λy dy=>Sp.frame (L:=[_,_]) Oa λv L z=>?_))));obtain⟨rfl,rfl⟩:=z;refine⟨rfl,EV.use PE.name ⟨2,3,λP=>(CL P).2.1,rfl,rfl,rfl,?_⟩⟩;refine WS.cons (W1.attr (EV.om λd3=>EV.use PE.name ⟨3,4,λP=>(CL P).2.2.1,rfl,rfl,rfl,?_⟩));refine WS.cons (W1.attr (EV.om λd4=>EV.use PE.name ⟨4,5,λP=>(CL P).2.2.2,rfl,rfl,rfl,?_⟩));exact WS.perm (M:=eF ⟨c,dc,y,dy,d3,d4⟩ h [] []) ((b6 (l₁:=[_,_,_,_])).trans (((b6 (l₁:=[_,_])).trans (((vF ..)).append_left [_,_])).append_left [_,_])) (WS.nil (hR _ _ ⟨_,rfl,rfl,rfl⟩))
end
section
def qS(n:aa):ej .int (nv n)/\bO 7 (nv n)=ai:=⟨cZ,rfl⟩
def OG(n:aa):nv n≠.tup []:=λh=>nomatch h
def w6{ms:ag aa}(h:ms.Nodup)(k:∀c∈ms,c<n):ms.length<=n:=by have:=sV h (l₂:=bS n) λm hm=>dT.mpr (k m hm);rwa [iR]at this
def acy(m n:aa):t9 (m:aa) (n:aa)=(ahd m (n-m)).map nv:=by delta t9;rw[(by lia:((n:bp)-(m:bp)).toNat=n-m),List.range'_eq_map_range,dQ];exact gL λi u=>rfl
inductive OH(P:aa->Prop)(X:Cells)(v:V)(L:Cells):Prop|mk(b:aa)(ms:ag aa):v=.ref b->ms.Nodup->(∀c,c∈ms↔P c)->L=(b,.list (ms.map nv))::X->OH P X v L
def qT(g:HG)(many edges c:aa):Prop:=(∃n,many<=n/\n<g.n/\g.rt n=c)\/∃j∈g.fs,edges<=j/\∃a b r,g.es[j]?=af (jT a b r)/\g.rt a=c
def OI(g:HG)(many edges:aa)(dn:ag aa)(c:aa):Prop:=(∃n,many<=n/\n<g.n/\g.rt n=c)\/∃j∈dn,edges<=j/\∃a b r,g.es[j]?=af (jT a b r)/\g.rt a=c
inductive OJ(g:HG)(many edges:aa)(rest:ag V)(ms:ag aa):Prop|mk(dn rs:ag aa):g.fs=dn++rs->rest=rs.map nv->ms.Nodup->(∀c,c∈ms↔OI g many edges dn c)->OJ g many edges rest ms
abbrev cgL(c many edges fd:aa):Lc:=.cons "self" (.ref c) (.cons "mark" (.tup [nv many,nv edges]) (.cons "many" (nv many) (.cons "edges" (nv edges) (.cons "found" (.ref fd) .nil))))
def acz(I:HI g T [])(hn:g.n<63)(hm:many<1000000000):Sp 4 264 [.ref C.c,.tup [nv many,nv edges]] (OH (qT g many edges) (gH C H.a++aJ H g)) (gH C H.a++aJ H g):=by
 have eb:∀{a b:aa}{r:V}{a' b':aa}{r':V},jT a b r=jT a' b' r'->a=a':=λh=>iw (cq (V.tup.inj h)).1;refine Sp.eE acq λR hR=>WS.cons (W1.tup ["many","edges"] (EV.use PE.name ⟨rfl,?_⟩));refine WS.cons (W1.Cb (EV.bi (.type "range") kt (AV.p2 PE.name (EV.m (PE.self 0 1 oB) (Mt.inst 2 3 zo) (AV.p0 (CP.call (yT I.ok) (b6 (l₁:=[_,_]))))) (CV.acw λrb=>?_))));refine cT.yes (xs:=ahd many (g.n-many)) (G:=λu=>iD) nv g.rt nv (by rw[←acy];exact .range aR hm (df hn (by decide))) cZ (by rw[List.length_range'];exact l2 0x10000007a180113f2a02 hn jJ) (λu u=>iw) qS (.inl (d8 _ _ rfl)) (λx hx=>(bH _ (.name _ _ rfl rfl) (EV.m (PE.self 1 2 oB) (Mt.inst 3 4 jA) (AV.p1 PE.name (CP.call (jB I.ok (by have:=Rx.mp hx;lia)) (b6 (l₁:=[_,_,_]))))) (PE.bool ai))) λfd ms nd mi u=>?_;refine WS.keep (M:=(fd,.dict (yes nv ms))::(gH C H.a++aJ H g)) (G:=[(rb,.range (many:aa) (g.n:aa))]) (.cons _ (b6 (l₁:=[_]))) ?_;have fz:g.fs.length<=16777216:=by have:=I.uK;have:=I.small;exact l3 0x10000007a17021933f2a02 hn ‹_›
 have ez:g.es.length<=16777216:=by have:=I.qK;have:=I.small;have:=I.told;exact l4 0x10000007a17186a05a3203921913f2a02 hn ‹_› this
 have cz:∀{ms dn:ag aa},(∀j∈dn,j∈g.fs)->ms.Nodup->(∀c,c∈ms↔OI g many edges dn c)->ms.length<63:=λhd nd mi=>br (w6 nd λc hc=>by
  rcases(mi c).mp hc with z|z;·refine bL z λn u h2 bT=>?_;rw[←bT];exact I.eO h2
  ·refine bL z λj h1 u bg=>gN bg λa b r h3 gF=>?_;rw[←gF];refine gN (I.uO j (hd j h1)) λa' b' r' h4 h5=>?_;exact I.eO (eb (bR (h3.symm.trans h4))▸h5)) hn;refine WS.cons (W1.for (EV.use (PE.attr (PE.self 1 2 oB) 3 4 Nc) ⟨.list (bK _ (bC _ (de _ (.tail _ (.tail _ (.tail _ (.head _))))))) (by rw[aN];exact fz),λu:ag aa=>cgL C.c many edges fd,λms=>(fd,.dict (yes nv ms))::(gH C H.a++aJ H g),OJ g many edges,ms,⟨[],g.fs,rfl,rfl,nd,λc=>?_⟩,rfl,rfl,λv rest ms z=>?_,λms z=>?_⟩) (.inl (d8 _ _ rfl)));·
  rw[mi];refine⟨λz=>?_,λz=>?_⟩;·obtain⟨x,h1,h2⟩:=z;have:=Rx.mp h1;exact .inl (bH x (this.1) (by lia) h2)
  ·rcases z with z|z;·refine bL z λn h1 h2 h3=>?_;exact(aA n (Rx.mpr ⟨h1,l4 625657324310786 h2 kQ⟩) h3)
   ·refine aq z λj h1 u=>?_;exact by contradiction
 ·obtain⟨dn,rs,e,er,nd,mi⟩:=z;induction rs using b7 with
   |nil=>contradiction|cons j rs=>
    obtain⟨rfl,rfl⟩:=cq er;refine⟨bK _ (bC _ (de _ (.tail _ (.tail _ (.tail _ (.head _)))))),_,.name _ _ rfl rfl,?_⟩;refine gN (I.uO j (e▸bC _ aR)) λa b r hj an=>?_;have dj:∀i∈dn,i∈g.fs:=λi hi=>e▸de _ hi;have mz:=cz dj nd mi;by_cases q:j>=edges;·
     refine WS.cons (W1.jy (PT.ge PE.name PE.name (c7 q)) rfl (WS.cons (W1.put (EV.use (PE.bool ai) (EV.use PE.name (EV.m (PE.self 1 2 oB) (Mt.inst 3 4 jA) (AV.p1 (PE.oj (us:=[nv a,nv b,r]) (PE.item 5 (PE.attr (PE.self 1 2 oB) 3 4 Co) PE.name hj ez) (PE.nat 0) rfl (aL rfl)) (CP.to (CP.call (jB I.ok an) (b6 (l₁:=[_,_,_]))) (km.dict 0 rfl (sM (f:=nv) qS) (by rw[sO];exact bF (bj mz (aL rfl))) rfl ?_)))))))));obtain⟨cA,e',n',m',l'⟩:=zm (f:=nv) (ms:=ms) (x:=g.rt a) λu u=>iw;rw[e'];refine WS.nil (WS.fin ⟨cA,rfl,rfl,dn++[j],rs,by rw[e,bW];rfl,rfl,n' nd,λc=>?_⟩ rfl);rw[m',mi];refine⟨λz=>?_,λz=>?_⟩;·
      rcases z with(z|z)|z;·exact .inl z
      ·exact .inr (z.imp λi h=>⟨de _ h.1,h.2⟩)
      ·exact .inr (bH j (bC _ (iB _)) q (tj a b r hj z.symm))
     ·rcases z with z|z;·exact .inl (.inl z)
      ·refine bL z λi h1 h2 bg=>gN bg λa' b' r' h3 h4=>?_;rcases cw.mp h1 with h1|h1;·exact .inl (.inr (bH i h1 h2 (tj a' b' r' h3 h4)))
       ·obtain rfl:=bU.mp h1;exact .inr (eb (bR (hj.symm.trans h3))▸h4.symm)
    ·refine WS.cons (W1.fF (PT.ge PE.name PE.name (dS q)) rfl (WS.nil (WS.fin ⟨ms,rfl,rfl,dn++[j],rs,by rw[e,bW];rfl,rfl,nd,λc=>?_⟩ rfl)));rw[mi];refine⟨λz=>?_,λz=>?_⟩;·exact z.imp id λz=>z.imp λi h=>⟨de _ h.1,h.2⟩
     ·refine z.imp id λz=>?_;refine aq z λi h1 h2=>?_;rcases cw.mp h1 with h1|h1;·exact⟨i,h1,h2⟩
      ·exact bA (bU.mp h1▸h2.1) q
 ·obtain⟨dn,rs,e,er,nd,mi⟩:=z;obtain rfl:=f6.mp er.symm;rw[bN]at e;subst e;exact⟨bK _ (bC _ (de _ (.tail _ (.tail _ (.tail _ (.head _)))))),WS.ret (EV.drop (EV.bi (.builtin "sorted") kb (AV.p1 PE.name (CV.Hg 0 qS (λu u u=>OG _) (df (cz (λu h=>h) nd mi) (by decide)) λb cA pm=>⟨(b,.list (cA.map nv))::(gH C H.a++aJ H g),[_],.cons _ (b6 (l₁:=[_])),hR _ _ ⟨b,cA,rfl,pm.symm.nodup nd,λc=>pm.mem_iff.trans (mi c),rfl⟩⟩))))⟩
end
section
section
variable{E:EF}{e:aT}{r d:aa}{l:Lc}{L:Cells}{ds:ag (V×V)}{v:V}{b:bw}
def PT.Hl(i:aa)(h1:PE E (e1 e) (r+1) l L v)(h2:PE E (e2 e) (r+1) l L (.ref d))(q:eM ds v)(hb:(!(cj ds v).isSome)=b)(x:aB (L[i]?=af (d,.dict ds)) tR)(he:aB (e=.Compare (e1 e) [.NotIn] [e2 e] e.pos) tR)(hm:aB (i7 .NotIn (e2 e)=aD) tF):PT E e (r+1) l L b:=TV.cmp .NotIn (EV.use h1 (EV.use h2 λX w env l st R=>Vn (R.at i x) q ⟨_,R,_,rfl,hb,rfl⟩)) he hm
end
def EV.Cb(h:EV (.fn sd fa) (g1 e).iter (r+1) (cT (.jP e sd fa) (g1 e).target (g1 e).ifs (r+1) [] (PD (.jP e sd fa) (e1 e) (e2 e) (r+1)) (newD Q) (l.cut (jO e))) l L)(he:aB (dc e) tR)(ok:aB (wM sd fa e) tE)(hf:aB (nf (g1 e).iter) tG):EV (.fn sd fa) e (r+1) Q l L:=by intro X w a st R;exact he▸(V0 (pos:=e.pos) (cT.top (a:=a) (N':=gU Q) (emb:=aV.dict) (Put':=λenv=>wd pw w (KW w) (r+1) env (e1 e) (e2 e)) h R (λa=>PD.go) λy st L R h b hb=>⟨_,R.new _ hb,h b⟩) (ok a) (hf _))
def OK:∀{fr ks:ag aa},fr.Nodup->(∀c∈fr,c∈ks)->gv fr f<=gv ks f:=by intro fr;induction fr with|nil=>exactλu u=>cF _|cons c fr ih=>intro ks nd h;refine bx (iZ.mp nd) λn1 n2=>?_;rw[wX (vt (h c aR))];exact vu (ih n2 λd hd=>(z9 λe=>n1 (by exact e▸hd)).mpr (h d (bK _ hd))) _
def OL:gv (dn++[c]) f=gv dn f+(f c).length:=by delta gv;rw[cy,nF];rfl
def acA(P:bh):dN (KK P) 501 "users" 498:=.of (by kernel_rfl)
noncomputable def iK(g:HG)(P:aa->Prop):aa->aa->Prop|0,c=>P c|k+1,c=>iK g P k c\/∃m,m<g.n/\g.rt m=c/\∃i∈(g.nd m).2,iK g P k (g.rt i)
inductive OM(g:HG)(P:aa->Prop)(k:aa)(X:Cells)(v:V)(L:Cells):Prop|mk(b:aa)(ms:ag aa):v=.ref b->ms.Nodup->(∀c∈ms,c<g.n/\g.rt c=c)->(∀c,iK g P k c->c∈ms)->L=(b,.list (ms.map nv))::X->OM g P k X v L
inductive ON(g:HG)(P:aa->Prop)(steps:aa)(rest:ag V)(b:ag aa×aa×ag aa):Prop|mk(dn rs:ag aa):bS steps=dn++rs->rest=rs.map nv->b.1.Nodup->b.2.2.Nodup->(∀c∈b.1,c<g.n/\g.rt c=c)->(∀c∈b.2.2,c∈b.1)->(∀c,iK g P dn.length c->c∈b.1)->(∀c∈b.1,c∈b.2.2\/∀m,m<g.n->(∃i∈(g.nd m).2,g.rt i=c)->g.rt m∈b.1)->ON g P steps rest b
inductive OO(g:HG)(fr:ag aa)(rest ys:ag V)(M:Cells):Prop|mk(dn rs as:ag aa):fr=dn++rs->rest=rs.map nv->ys=as.map nv->(∀c∈as,c<g.n/\g.rt c=c)->(∀c∈dn,∀m∈g.abv c,g.rt m∈as)->as.length<=gv dn g.abv->OO g fr rest ys M
inductive OP(ms fr:ag aa)(rest:ag V)(cA:ag aa):Prop|mk(dn rs:ag aa):fr=dn++rs->rest=rs.map nv->cA.Nodup->(∀c,c∈cA↔c∈ms\/c∈dn)->OP ms fr rest cA
def acB{A B M:Cells}:(x::(B++(A++M))).Perm (A++(B++(x::M))):=(Ry x fj).trans (lT.symm.trans ((lT (l₁:=B)).symm.append_left A))
def acC{G1 K R:Cells}:(b::(G1++(K++(f::R)))).Perm ((K++(b::R))++(G1++[f])):=by classical exact gz.mpr λa=>by simp only[gB,ll];exact l5 0x30b9094291994329190999
abbrev CM(c cl steps fd fr:aa):Lc:=.cons "self" (.ref c) (.cons "classes" (.ref cl) (.cons "steps" (nv steps) (.cons "found" (.ref fd) (.cons "fresh" (.ref fr) .nil))))
def OQ(h:B7 xs ms):ms.length<=xs.length:=sV (h.1.imp cV) λm hm=>(h.2 m).mp hm
section
variable{C:CA}{H:HA}{g:HG}{T cl steps fd:aa}{cs:ag aa}{ms fr:ag aa}{fa rg j:aa}{R:V->Cells->Prop}{N:Lc->Cells->Prop}{l:Lc}
def acD(I:HI g T [])(hn:2*g.n<63)(f1:fr.Nodup)(f2:∀c∈fr,c<g.n/\g.rt c=c)(k:∀(b:aa)(as:ag aa),(∀c∈as,c<g.n/\g.rt c=c)->(∀c∈fr,∀m∈g.abv c,g.rt m∈as)->as.length<=2*g.n->WS (.fn (sB 14 2) 269) (b1 (dG (b1 (sB 14 2)).tail.tail)).tail 4 R N ((CM C.c cl steps fd fa).mA ["step","above"] [nv j,.ref b]) ((b,.list (as.map nv))::(rg,.range 0 (steps:aa))::(fd,.dict (yes nv ms))::(fa,.list (fr.map nv))::(gH C H.a++aJ H g))):WS (.fn (sB 14 2) 269) (b1 (dG (b1 (sB 14 2)).tail.tail)) 4 R N ((CM C.c cl steps fd fa).put "step" (nv j)) ((rg,.range 0 (steps:aa))::(fd,.dict (yes nv ms))::(fa,.list (fr.map nv))::(gH C H.a++aJ H g)):=by
 refine WS.cons (W1.Ca (EV.use PE.name ⟨λM:Cells=>(rg,.range 0 (steps:aa))::(fd,.dict (yes nv ms))::(fa,.list (fr.map nv))::(gH C H.a++(aJ H g++M)),OO g fr,[],.list (vs:=fr.map nv) (.tail _ (.tail _ (.head _))) (by rw[aN];exact bG (bF (by have:=w6 f1 λc hc=>(f2 c hc).1;exact l2 0x3f2a180113f2a021c2 hn this:fr.length<63)) (by decide)),⟨[],fr,[],rfl,rfl,rfl,λu h=>(nomatch h),λu h=>(nomatch h),bq _⟩,by rw[bN],λv rest ys M z=>⟨.tail _ (.tail _ (.head _)),?_⟩,λys M z=>⟨.tail _ (.tail _ (.head _)),λb=>?_⟩,.inl (d8 _ _ rfl)⟩));·
  obtain⟨dn,rs,as,e,er,rfl,a1,a2,a3⟩:=z;induction rs using b7 with
   |nil=>nomatch er|cons c rs=>
    obtain⟨rfl,rfl⟩:=cq er;obtain⟨c1,c2⟩:=f2 c (e▸bC _ aR);have ck:=I.kq c1;have al:=I.abs ck;refine(aA _ (.name _ _ rfl rfl) (ia.nil ((a0 rfl).mpr ⟨λy hy=>?_,EV.drop (EV.m (PE.self 3 4 oB) (Mt.inst 5 6 acA) (AV.p1 PE.name (CV.call (aaZ (H:=H) I.ok c1 ck ((br al hn))) (fj (A:=[_,_,_,_,_])) (λv L z=>?_))))⟩)));·rw[bU.mp hy];rfl
    ·clear c1;obtain⟨b,us,rfl,hu,rfl⟩:=z;rw[c2]at hu al;have ul:=OQ hu;have aal:as.length+us.length<=2*g.n:=by
      have h1:=I.yX;have h2:=OK (f:=g.abv) (fr:=dn++[c]) (ks:=g.ks) ?_ ?_;·rw[OL]at h2;exact l6 0x521c209743191521c41321101 a3 ul h1 h2
      ·rw[e,←List.singleton_append,←bW]at f1;exact(gA.mp f1).1
      ·intro d hd;have hd:d∈fr:=by
        rw[e];rcases cw.mp hd with hd|hd;·exact de _ hd
        ·exact bC _ (bU.mp hd▸aR)
       exact(I.mC d).mpr (f2 d hd)
     refine⟨(rg,.range 0 (steps:aa))::(fd,.dict (yes nv ms))::(fa,.list (fr.map nv))::(gH C H.a++(aJ H g++((b,.list (us.map nv))::M))),[],?_,cT.add (xs:=us) (ys:=as.map nv) nv (λm=>nv (g.rt m)) (.list (vs:=us.map nv) (.tail _ (.tail _ (.tail _ (bC _ (bC _ aR))))) (by rw[aN];exact l3 0x10000007a27121021c113f2a021c2 hn al ul)) (.tail _ (.tail _ (.tail _ (bC _ (bC _ aR))))) (by rw[aN];exact bj (br aal hn) (aL rfl)) (.inl (d8 _ _ rfl)) (λm hm=>(aA _ (.name _ _ rfl rfl) (EV.m (PE.self 3 4 oB) (Mt.inst 5 6 jA) (AV.p1 PE.name (CP.call (jB I.ok ?_) (fj (A:=[_,_,_,_,_]))))))) (aA ((b,.list (us.map nv))::M) ⟨dn++[c],rs,as++us.map g.rt,by simp only[e,bW];rfl,rfl,by simp only[cy,dQ];rfl,λd hd=>?_,λd hd m hm=>?_,?_⟩ rfl)⟩;·simp only[bN];exact acB (A:=[_,_,_,_,_])
     ·exact(I.uM c (c2▸ck) m ((hu.2 m).mp hm)).1
     ·rcases cw.mp hd with hd|hd;·exact a1 d hd
      ·refine aq (bt.mp hd) λm hm aC=>?_;rw[←aC];have mn:=(I.uM c (c2▸ck) m ((hu.2 m).mp hm)).1;exact⟨I.eO mn,I.gX m mn⟩
     ·rcases cw.mp hd with hd|hd;·exact de _ (a2 d hd m hm)
      ·clear al;obtain rfl:=bU.mp hd;exact bC _ (bt.mpr (aA m ((hu.2 m).mpr hm) rfl))
     ·rw[bD,aN,OL];exact vJ a3 ul
 ·obtain⟨dn,rs,as,e,er,rfl,a1,a2,a3⟩:=z;obtain rfl:=f6.mp er.symm;rw[bN]at e;subst e;refine WS.keep (M:=(b,.list (as.map nv))::(rg,.range 0 (steps:aa))::(fd,.dict (yes nv ms))::(fa,.list (fr.map nv))::(gH C H.a++aJ H g)) (G:=M) (.of_eq (bW ([_,_,_,_]++gH C H.a) (aJ H g) M).symm) (k b as a1 a2 (bG a3 (bG (OK f1 λc hc=>(I.mC c).mpr (f2 c hc)) I.yX)))
def OR{α:Type}{f:α->V}{ms:ag α}{x:α}(hf:∀x y,f x=f y->x=y) [SN (x∉ms)]:(!(cj (yes f ms) (f x)).isSome)=decide (x∉ms):=by
 by_cases q:x∈ms;·rw[(CJ hf).mpr q];exact(dS λz=>z q).symm
 ·rw[c7 q,mL.mpr λz=>q ((CJ hf).mp z)];rfl
def acE(I:HI g T [])(hn:2*g.n<63)(cn:cs.Nodup)(hc:∀c∈cs,c<g.n/\g.rt c=c)(hs:steps<1000):Sp 5 269 [.ref C.c,.ref cl,nv steps] (OM g (·∈cs) steps (gH C H.a++aJ H g)) ((cl,.list (cs.map nv))::(gH C H.a++aJ H g)):=by
 have cz:cs.length<63:=by have:=w6 cn λc h=>(hc c h).1;exact l2 0x3f2a180113f2a021c2 hn this
 have OS:(cs.map nv).length<=16777216:=by rw[aN];exact bF (bj cz (aL rfl))
 refine Sp.eE acr λR hR=>WS.cons (W1.set (EV.Cb (EV.use PE.name (cT.yes (xs:=cs) nv id nv (.list aR OS) aR ((lp _ cz)) (λu u=>iw) qS (.inl (d8 _ _ rfl)) (λx hx=>(bH _ (.name _ _ rfl rfl) PE.name (PE.bool ai))) λfd ms nd mi u=>?_))));have mi:∀c,c∈ms↔c∈cs:=λc=>(mi c).trans ⟨λzf=>aq zf λx h1 h2=>h2▸h1,λh=>(aA c h rfl)⟩;refine WS.cons (W1.set (EV.bi (.type "list") kt (AV.p1 PE.name (CV.Gw 1 OS λfa=>?_))));refine WS.cons (W1.for (EV.drop (EV.bi (.type "range") kt (AV.p1 PE.name (CV.range (λrg=>⟨(rg,.range 0 (steps:aa))::(fd,.dict (yes nv ms))::(fa,.list (cs.map nv))::(gH C H.a++aJ H g),[(cl,.list (cs.map nv))],.cons _ ((vF ..).trans (.cons _ (.cons _ (b6 (l₁:=[_]))))),?_⟩) (df hs (by decide)))))) (.inl (d8 _ _ rfl)));refine⟨.uC (n:=steps) aR (df hs (by decide)),λb:ag aa×aa×ag aa=>CM C.c cl steps fd b.2.1,λb=>(rg,.range 0 (steps:aa))::(fd,.dict (yes nv b.1))::(b.2.1,.list (b.2.2.map nv))::(gH C H.a++aJ H g),ON g (·∈cs) steps,(ms,fa,cs),⟨[],bS steps,rfl,rfl,nd,cn,λc h=>hc c ((mi c).mp h),λc h=>(mi c).mpr h,λc h=>(mi c).mpr h,λc h=>.inl ((mi c).mp h)⟩,rfl,rfl,λv rest b z=>⟨cZ,?_⟩,λb z=>⟨cZ,?_⟩⟩;·
  obtain⟨dn,rs,e,er,n1,n2,m1,m2,m3,m4⟩:=z;obtain⟨ms,fa,fr⟩:=b;induction rs using b7 with
   |nil=>nomatch er|cons j rs=>
    obtain⟨rfl,rfl⟩:=cq er;refine(aA _ (.name _ _ rfl rfl) (acD I hn n2 (λc hc=>m1 c (m2 c hc)) λab as a1 a2 al=>?_));have az:(as.map nv).length<=16777216:=by rw[aN];exact bG (bF (br al hn)) (aL rfl)
    have fz:(as.filter λc=>decide (c∉ms)).length<63:=br (Du ..) ((br al hn));refine WS.cons (W1.set (EV.bi (.builtin "sorted") kb (AV.cons (EV.bi (.type "set") kt (AV.cons (EV.comp (EV.use PE.name (cT.pure nv (λc=>decide (c∉ms)) nv (.list (vs:=as.map nv) aR az) aR ((bj (br al hn) (aL rfl))) (.inl (d8 _ _ rfl)) (λc hc=>(bH _ (.name _ _ rfl rfl) (ia.one (PT.Hl 2 PE.name PE.name (sM (f:=nv) qS) (OR λu u=>iw))) (λu=>PE.name))) λa2'=>AV.nil (CV.Gr (xs:=as.filter λc=>decide (c∉ms)) 0 fz λd us sn=>AV.nil (CV.Gs 0 sn (df fz (by decide)) λfb f2 hu=>?_))))))))));refine WS.keep (acC (G1:=[_,_,_]) (K:=[(rg,.range 0 (steps:aa)),(fd,.dict (yes nv ms))])) ?_;have Hm:∀c,c∈f2↔c∈as/\c∉ms:=λc=>(hu.2 c).trans (gM.trans (ahA λu=>decide_eq_true_iff));have f2l:=OQ hu;have key:∀c∈ms,∀m,m<g.n->(∃i∈(g.nd m).2,g.rt i=c)->g.rt m∈ms\/g.rt m∈f2:=λc hc m hm hi=>by
     rcases m4 c hc with h|h;·
      obtain⟨i,h1,rfl⟩:=hi;have h2:=a2 _ h m (I.yY m hm i h1);by_cases q:g.rt m∈ms;·exact .inl q
      ·exact .inr ((Hm _).mpr ⟨h2,q⟩)
     ·exact .inl (h m hm hi)
    refine WS.cons (W1.for (EV.use PE.name ⟨.list (vs:=f2.map nv) (.tail _ (.tail _ (.head _))) (by rw[aN];exact bG (bF (br f2l fz)) (aL rfl)),λu:ag aa=>CM C.c cl steps fd fb,λcA=>(rg,.range 0 (steps:aa))::(fd,.dict (yes nv cA))::(fb,.list (f2.map nv))::(gH C H.a++aJ H g),OP ms f2,ms,⟨[],f2,rfl,rfl,n1,λc=>⟨.inl,λz=>z.elim id λz=>(nomatch z)⟩⟩,rfl,rfl,λv rest cA z=>⟨.tail _ (.tail _ (.head _)),?_⟩,λcA z=>⟨.tail _ (.tail _ (.head _)),?_⟩⟩) (.inl (d8 _ _ rfl)));·
     obtain⟨dp,rp,ep,Hn,np,mp⟩:=z;induction rp using b7 with
      |nil=>contradiction|cons c rp=>
       obtain⟨rfl,rfl⟩:=cq Hn;have mz:cA.length<=g.n:=w6 np λc hc=>by
        rcases(mp c).mp hc with h|h;·exact(m1 c h).1
        ·exact(a1 c ((Hm c).mp (ep▸de _ h)).1).1
       refine(aA _ (.name _ _ rfl rfl) (WS.cons (W1.put (EV.use (PE.bool ai) (EV.use PE.name (EV.use PE.name (km.dict 1 rfl (sM (f:=nv) qS) (by rw[sO];exact l2 0x10000007a170113f2a021c2 hn mz) rfl ?_)))))));obtain⟨zj,e',n',m',l'⟩:=zm (f:=nv) (ms:=cA) (x:=c) λu u=>iw;rw[e'];refine WS.fin ⟨zj,rfl,rfl,dp++[c],rp,by rw[ep,bW];rfl,rfl,n' np,λd=>?_⟩ rfl;rw[m',mp,cw,bU,or_assoc]
    ·obtain⟨dp,rp,ep,Hn,np,mp⟩:=z;obtain rfl:=f6.mp Hn.symm;rw[bN]at ep;subst ep;refine WS.fin ⟨(cA,fb,f2),rfl,rfl,dn++[j],rs,by rw[e,bW];rfl,rfl,np,hu.1.imp cV,λc h=>?_,λc h=>(mp c).mpr (.inr h),λc h=>(mp c).mpr ?_,λc h=>?_⟩ rfl;·
      rcases(mp c).mp h with h|h;·exact m1 c h
      ·exact a1 c ((Hm c).mp h).1
     ·rw[bD]at h;rcases h with h|h;·exact .inl (m3 c h)
      ·refine bL h λm h1 aC bg=>aq bg λi h3 h4=>?_;subst aC;exact key _ (m3 _ h4) m h1 (aA i h3 rfl)
     ·rcases(mp c).mp h with h|h;·exact .inr λm hm hi=>(mp _).mpr (key c h m hm hi)
      ·exact .inl h
 ·obtain⟨dn,rs,e,er,n1,n2,m1,m2,m3,m4⟩:=z;obtain⟨ms,fa,fr⟩:=b;obtain rfl:=f6.mp er.symm;rw[bN]at e;have dl:dn.length=steps:=by rw[←e,iR]
  have mz:=w6 n1 λc h=>(m1 c h).1;exact WS.ret (EV.drop (EV.bi (.builtin "sorted") kb (AV.p1 PE.name (CV.Hg 1 qS (λu u u=>OG _) (br mz (l1 0x402a083f2a021c2 hn)) λb cA pm=>⟨(b,.list (cA.map nv))::(gH C H.a++aJ H g),[_,_,_],.cons _ (b6 (l₁:=[_,_,_])),hR _ _ ⟨b,cA,rfl,pm.symm.nodup n1,λc h=>m1 c (pm.mem_iff.mp h),λc h=>pm.mem_iff.mpr (m3 c (dl.symm▸h)),rfl⟩⟩))))
end
end
section
noncomputable def ja(g:HG)(q:cI):cI:=(g.rt q.1,q.2.map λp=>(p.1,g.rt p.2))
section
variable{C:CA}{H:HA}{g:HG}{T:aa}
def acF(I:HI g T [])(h1:q.1<g.n)(h2:∀p∈q.2,p.2<g.n)(hz:q.2.length<1000):i9 3 274 [.ref C.c,cU q] (cU (ja g q)) (gH C H.a++aJ H g):=by refine Sp.eE acs λR hR=>WS.cons (W1.tup ["c","subst"] (EV.use PE.name ⟨rfl,?_⟩));refine WS.ret (EV.drop (EV.tuple (AV.cons (EV.use (EV.m (PE.self 0 1 oB) (Mt.inst 2 3 jA) (AV.p1 PE.name (CP.call (jB I.ok h1) (b6 (l₁:=[_,_]))))) (AV.cons (EV.bi (.type "tuple") kt (AV.cons (EV.comp (EV.use PE.name (cT.B8 fg (λp=>fg (p.1,g.rt p.2)) .tup cZ (df hz (by decide)) (.inr (pd _ _ _ rfl)) (λp hp=>(aA _ (.tup _ _ ["name","part"] rfl (λu=>rfl) rfl rfl) (EV.tuple (AV.p2 PE.name (EV.m (PE.self 0 1 oB) (Mt.inst 2 3 jA) (AV.p1 PE.name (CP.call (jB I.ok (h2 p hp)) (b6 (l₁:=[_,_]))))) ⟨aL rfl,rfl,rfl⟩)))) λb=>AV.nil (CP.to (CP.wN (us:=q.2.map λp=>fg (p.1,g.rt p.2)) 0 (by rw[aN];exact bF (bj hz (aL rfl)))) (AV.nil ⟨aL rfl,gH C H.a++aJ H g,[_],b6 (l₁:=[_]),hR _ _ ⟨?_,rfl⟩⟩))))))))))));delta cU ja e6;rw[dQ];rfl
end
abbrev zt(c kn fr:aa)(p:Tm):Lc:=.cons "self" (.ref c) (.cons "pattern" (aS p) (.cons "known" (.ref kn) (.cons "fresh" (.ref fr) .nil)))
abbrev OT:cG:=dG (b1 (sB 14 4)).tail.tail.tail
inductive OU(ss:ag Tab)(mD ks:ag cI)(c:aa)(rest:ag V)(ms:ag cI):Prop|mk(dn rs:ag Tab):ss=dn++rs->rest=rs.map e6->ms.Nodup->(∀q,q∈ms↔q∈mD\/(q.1=c/\q.2∈dn/\q∉ks))->OU ss mD ks c rest ms
def acG{ss:ag Tab}{mD ks:ag cI}{Y:Cells}(nd:ss.Nodup)(h0:∀q∈mD,q.1≠c)(n0:mD.Nodup)(sz:ss.length<64)(mz:∀ms:ag cI,ms.Nodup->(∀q∈ms,q∈mD\/(q.1=c/\q.2∈ss))->ms.length<16777216)(k:∀ms:ag cI,ms.Nodup->(∀q,q∈ms↔q∈mD\/(q.1=c/\q.2∈ss/\q∉ks))->N ((zt cc kn fr p).put "c" (nv c)) ((b,.list (ss.map e6))::(fr,.list (ms.map cU))::(kn,.dict (yes cU ks))::Y)):B5 (.fn (sB 14 4) 279) (dG (b1 OT)) (r+1) R N ((zt cc kn fr p).put "c" (nv c)) (.ref b) ((b,.list (ss.map e6))::(fr,.list (mD.map cU))::(kn,.dict (yes cU ks))::Y):=by
 refine⟨.list (vs:=ss.map e6) aR (by rw[aN];exact bF (bj sz (aL rfl))),λu:ag cI=>(zt cc kn fr p).put "c" (nv c),λms=>(b,.list (ss.map e6))::(fr,.list (ms.map cU))::(kn,.dict (yes cU ks))::Y,OU ss mD ks c,mD,⟨[],ss,rfl,rfl,n0,λq=>⟨.inl,λz=>z.elim id λz=>(nomatch z.2.1)⟩⟩,rfl,rfl,λv rest ms z=>⟨aR,?_⟩,λms z=>⟨aR,?_⟩⟩;·
  obtain⟨dn,rs,e,er,nm,mi⟩:=z;induction rs using b7 with
   |nil=>nomatch er|cons s rs=>
    obtain⟨rfl,rfl⟩:=cq er;refine(aA _ (.name _ _ rfl rfl) ?_);have st:PT (.fn (sB 14 4) 279) (sv (dG (b1 (dG (b1 OT))))) (r+1) (((zt cc kn fr p).put "c" (nv c)).put "subst" (e6 s)) ((b,.list (ss.map e6))::(fr,.list (ms.map cU))::(kn,.dict (yes cU ks))::Y) (!(cj (yes cU ks) (cU (c,s))).isSome):=PT.Hl 2 (EV.tuple (AV.p2 PE.name PE.name ⟨aL rfl,rfl,rfl⟩)) PE.name (sM (f:=cU) (x:=(c,s)) CK) rfl;by_cases q:(c,s)∈ks;·
     refine WS.cons (W1.fF st (by rw[(CJ λu u=>Hj).mpr q];rfl) (WS.nil (WS.fin ⟨ms,rfl,rfl,dn++[s],rs,by rw[e,bW];rfl,rfl,nm,λx=>(mi x).trans (or_congr_right ⟨λh=>(cM h.1 (de _ h.2.1) h.2.2),λh=>(cM h.1 ?_ h.2.2)⟩)⟩ rfl)));rcases cw.mp h.2.1 with h1|h1;·exact h1
     ·obtain⟨c',s'⟩:=x;obtain rfl:c'=c:=h.1;obtain rfl:s'=s:=bU.mp h1;exact bA q h.2.2
    ·refine WS.cons (W1.jy st (by rw[mL.mpr λz=>q ((CJ λu u=>Hj).mp z)];rfl) (WS.cons (W1.expr (EV.m PE.name (Mt.list 1 lQ lJ) (AV.cons (EV.tuple (AV.p2 PE.name PE.name ⟨aL rfl,AV.nil (CV.append (us:=ms.map cU) 1 ?_ (by rw[aN];exact(mz ms nm λq hq=>((mi q).mp hq).imp id λh=>⟨h.1,e▸de _ h.2.1⟩)))⟩)))))));refine WS.nil (WS.fin ⟨ms++[(c,s)],rfl,by rw[cy];rfl,dn++[s],rs,by rw[e,bW];rfl,rfl,?_,λx=>?_⟩ rfl);·
      refine gA.mpr ⟨nm,iZ.mpr ⟨rj,.nil⟩,λx hx y hy ee=>?_⟩;rw[bU.mp hy]at ee;subst ee;rcases(mi _).mp hx with h|h;·exact h0 _ h rfl
      ·exact(λh=>(gA.mp (e▸nd)).2.2 s h s aR rfl) h.2.1
     ·rw[cw,cw,bU,bU,mi];refine⟨λh=>?_,λh=>?_⟩;·
       rcases h with(h|h)|h;·exact .inl h
       ·exact .inr (cM h.1 (.inl h.2.1) h.2.2)
       ·exact .inr (by rw[h];exact(cM rfl (.inr rfl) q))
      ·rcases h with h|⟨h1,h2|h2,h3⟩;·exact .inl (.inl h)
       ·exact .inl (.inr (cM h1 h2 h3))
       ·exact .inr (jq h1 h2)
 ·obtain⟨dn,rs,e,er,nm,mi⟩:=z;obtain rfl:=f6.mp er.symm;rw[bN]at e;subst e;exact k ms nm mi
end
section
def OX{X A B D H P:Cells}:(X++((A++(B++D))++(H++P))).Perm ((A++H)++(X++((B++D)++P))):=by classical exact gz.mpr λa=>by simp only[gB];exact l6 0x53299094199549329199099
def CN{X A B D H P:Cells}:(X++((A++(B++D))++(H++P))).Perm ((B++H)++(X++((A++D)++P))):=by classical exact gz.mpr λa=>by simp only[gB];exact l6 0x53199094299549329199099
def acH{A B D H P K:Cells}:((x::(A++H))++((K++[y])++((B++D)++P))).Perm ((K++(x::((A++(B++D))++(H++P))))++[y]):=by classical exact gz.mpr λa=>by simp only[gB,ll];exact l9 0x54928197690999399876995493992109999
def acJ{G K H P:Cells}:(x::y::(G++(K++(H++P)))).Perm ((x::(K++(H++(y::P))))++G):=by classical exact gz.mpr λa=>by simp only[gB,ll];exact l6 0x5439291999543291909999
def iK.mono(h:∀c,P c->P' c):∀{k c:aa},iK g P k c->iK g P' k c:=by
 intro k;induction k with
  |zero=>exactλz=>h _ z|succ k ih=>
   intro c z;rcases z with z|z;·exact .inl (ih z)
   ·refine bL z λm h1 h2 bg=>aq bg λi h3 h4=>?_;exact .inr (bH m h1 h2 (aA i h3 (ih h4)))
def CV.acK{f:α->V}{ms:ag α}{L:Cells}(i:aa)(hz:ms.length<=16777216)(k:∀b,Q (.ref b) ((b,.list (ms.map f))::L))(x:aB (L[i]?=af (a,.dict (yes f ms))) tR):CV r (.type "list") [.ref a] Q L:=CV.ZR i (by rw[sO];exact hz) (by exact w5.symm▸k) x
def OY(q:cI):cU q≠.tup []:=λh=>by have:=V.tup.inj h;contradiction
def acL(P:bh):dN (KK P) 289 "changed" 264:=.of (by kernel_rfl)
def acM(P:bh):dN (KK P) 289 "reached" 269:=.of (by kernel_rfl)
def acN(P:bh):dN (KK P) 289 "image" 274:=.of (by kernel_rfl)
inductive OZ(g:HG)(p:Tm)(cs:ag aa)(ks:ag cI)(rest:ag V)(ms:ag cI):Prop|mk(dn rs:ag aa):cs=dn++rs->rest=rs.map nv->ms.Nodup->(∀q,q∈ms↔q.1∈dn/\FR g p q.1 q.2/\q∉ks)->OZ g p cs ks rest ms
inductive O0(C:CA)(H:HA)(g:HG)(p:Tm)(many edges:aa)(old:ag cI)(es bV:ag (V×V))(Pl:Cells)(v:V)(L:Cells):Prop|mk(b sb:aa)(ms sl:ag cI):v=.ref b->ms.Nodup->(∀q∈ms,FM g p q)->(∀q,FM g p q->iK g (qT g many edges) (p.dep-1) q.1->q∈ms\/q∈old.map (ja g))->(∀q,q∈sl↔q∈ms\/q∈old.map (ja g))->sl.length<64->L=(b,.list (ms.map cU))::(eF C H.a (dt es (aS p) (.ref sb)) (dt bV (aS p) (.tup [nv g.n,nv g.es.length]))++(aJ H g++((sb,.list (sl.map cU))::Pl)))->O0 C H g p many edges old es bV Pl v L
def acO{es bV:ag (V×V)}{Pl:Cells}(hd:p.dep<=D)(hD:D<900)(hp:oy p)(I:HI g T [])(hn:2*g.n<63)(hv:p.vars.length<64)(hB:p.bd g.n<1000000)(hK:∀c,c<g.n->∀ms:ag Tab,ms.Nodup->(∀s∈ms,FR g p c s)->ms.length<64)(hm:(cj bV (aS p)).getD (.tup [nv 0,nv 0])=.tup [nv many,nv edges])(hmz:many<1000000000)(ho:∀lb,∃sb,(cj es (aS p)).getD (.ref lb)=.ref sb/\(sb,aV.list (old.map cU))∈(lb,aV.list [])::Pl)(h1:∀q∈old,q.1<g.n/\(∀x∈q.2,x.2<g.n)/\q.2.length<1000)(oz:old.length<64)(hM:∀ms:ag cI,ms.Nodup->(∀q∈ms,FM g p q\/q∈old.map (ja g))->ms.length<64)(k1:eM es (aS p))(k2:eM bV (aS p))(z1:es.length<=1000)(z2:bV.length<=1000):Sp (D+7) 279 [.ref C.c,aS p] (O0 C H g p many edges old es bV Pl) (eF C H.a es bV++(aJ H g++Pl)):=by
 have q3:g9 3 (D+6)=ai:=dF.mpr ((ie _ _));have q6:g9 5 (D+6)=ai:=dF.mpr ((ie _ _));have oz':(old.map cU).length<=16777216:=by rw[aN];exact bF (bj oz (aL rfl))
 refine Sp.eE acu λR hR=>WS.cons (W1.set (EV.m (PE.self 0 1 OD) (Mt.dict 5 pV pK) (AV.cons (EV.use PE.name (AV.cons (EV.tuple (AV.p2 (PE.nat 0) (PE.nat 0) ⟨aL rfl,AV.nil (CP.to (CP.pJ 5 k2) ?_)⟩)))))));rw[hm];refine WS.cons (W1.Cb (EV.m (PE.self 0 1 OC) (Mt.dict 4 pV pK) (AV.cons (EV.use PE.name (AV.cons (EV.list (AV.p0 ⟨cF _,λlb=>AV.nil (CP.to (CP.pJ 5 k1) ?_)⟩)))))));refine aq (ho lb) λsb e1 mb=>?_;rw[e1];have O3:(sb,aV.list (old.map cU))∈(lb,aV.list [])::(eF C H.a es bV++(aJ H g++Pl)):=by
  rcases cg.mp mb with h|h;·exact h▸aR
  ·exact bK _ (bC _ (bC _ h))
 refine cT.yes (xs:=old) cU (ja g) cU (.list O3 oz') O3 ((lp _ oz)) (λu u=>Hj) CK (.inl (d8 _ _ rfl)) (λq hq=>(bH _ (.name _ _ rfl rfl) (EV.m PE.name (Mt.inst 1 2 acN) (AV.p1 PE.name (CP.call (acF (C:=C) (H:=H) I (h1 q hq).1 (h1 q hq).2.1 (h1 q hq).2.2) (OX (X:=[_]) (A:=gH C H.a)) q3))) (PE.bool ai))) λkn ks nk mk lk=>?_;refine WS.cons (W1.set (EV.list (AV.p0 ⟨cF _,λfr=>?_⟩)));refine WS.cons (W1.for (EV.drop (EV.m PE.name (Mt.inst 3 4 acM) (AV.cons (EV.m PE.name (Mt.inst 3 4 acL) (AV.p1 PE.name (CV.call (acz (C:=C) (H:=H) I (l1 0x3f2a083f2a021c2 hn) hmz) (OX (X:=[_,_,_]) (A:=gH C H.a)) (λv L z=>?_) (dF.mpr ((ie _ _))))))))) (.inl (d8 _ _ rfl)));obtain⟨cb,cs,rfl,nc,mc,rfl⟩:=z;refine AV.p1 (PE.sub (EV.fn (AV.p1 PE.name (CP.call (abJ p (d:=D) hd) (.refl _) (dF.mpr (by lia))))) (PE.nat 1) (show p.dep=1+(p.dep-1)by have:=p.ny;exact l2 7400394964 (fY (l1 28770482 this)))) (CV.call (acE (C:=C) (H:=H) I hn nc (λc hc=>?_) (l3 0x3e83a280213843a12101 hd hD jJ)) (.refl _) (λv L z=>?_) q6);·
  rcases(mc c).mp hc with z|z;·refine bL z λn u h2 bT=>?_;subst bT;exact⟨I.eO h2,I.gX _ h2⟩
  ·refine bL z λj h1 u bg=>gN bg λa b r h3 gF=>?_;subst gF;refine gN (I.uO j h1) λa' b' r' h4 h5=>?_;have:a=a':=iw (cq (V.tup.inj (bR (h3.symm.trans h4)))).1;exact⟨I.eO (this▸h5),I.gX _ (this▸h5)⟩
 obtain⟨rb,rs,rfl,nr,r1,r2,rfl⟩:=z;have rz:rs.length<63:=by have:=w6 nr λc hc=>(r1 c hc).1;exact l2 0x3f2a180113f2a021c2 hn this
 have kz:ks.length<64:=(br lk oz);have fm:∀{dn:ag aa}{ms:ag cI},(∀c∈dn,c∈rs)->(∀q,q∈ms↔q.1∈dn/\FR g p q.1 q.2/\q∉ks)->∀q∈ms,FM g p q:=λ{dn ms}hd mi q hq=>by refine gf ((mi q).mp hq) λh1 h2 u=>?_;exact⟨(r1 _ (hd _ h1)).1,(r1 _ (hd _ h1)).2,h2⟩
 refine⟨(fr,.list [])::(kn,.dict (yes cU ks))::(rb,.list (rs.map nv))::(eF C H.a es bV++(aJ H g++Pl)),[(lb,.list [])],acH (K:=[_,_]) (A:=gH C H.a),?_⟩;refine⟨.list (vs:=rs.map nv) (.tail _ (.tail _ (.head _))) (by rw[aN];exact bF (bj rz (aL rfl))),λu:ag cI=>zt C.c kn fr p,λms=>(fr,.list (ms.map cU))::(kn,.dict (yes cU ks))::(rb,.list (rs.map nv))::(eF C H.a es bV++(aJ H g++Pl)),OZ g p rs ks,[],⟨[],rs,rfl,rfl,.nil,λq=>⟨λz=>(by contradiction),λz=>(by cases z.1)⟩⟩,rfl,rfl,λv rest ms z=>⟨.tail _ (.tail _ (.head _)),?_⟩,λms z=>⟨.tail _ (.tail _ (.head _)),?_⟩⟩;·
  obtain⟨dn,rt,e,er,nm,mi⟩:=z;induction rt using b7 with
   |nil=>contradiction|cons c rt=>
    obtain⟨rfl,rfl⟩:=cq er;obtain⟨c1,c2⟩:=r1 c (e▸bC _ aR);have cd:c∉dn:=λh=>(gA.mp (e▸nr)).2.2 c h c aR rfl;have dr:∀c∈dn,c∈rs:=λc h=>e▸de _ h;refine⟨_,.name _ _ rfl rfl,WS.cons (W1.for (EV.drop (EV.m (PE.self 3 4 acv) (Mt.inst 5 6 Ov) (AV.p2 PE.name PE.name (CV.call (Ox (H:=H) (a:=C.w) (dx:=C.dw) hd hp I c1 (l1 0x3f2a083f2a021c2 hn) hv hB (c2.symm▸hK c c1)) (CN (X:=[_,_,_]) (A:=gH C H.a) (B:=du C.w C.dw H.a)) (λv L z=>?_) (dF.mpr ((bq _))))))) (.inl ⟨_,_,rfl⟩))⟩;rw[c2]at z;obtain⟨b,ss,rfl,ns,si,rfl⟩:=z;refine⟨_,[],((CN (X:=[_,_,_]) (A:=gH C H.a) (B:=du C.w C.dw H.a)).symm.cons _).trans (.of_eq (bN _).symm),acG (Y:=(rb,.list (rs.map nv))::(eF C H.a es bV++(aJ H g++Pl))) ns (λq hq e=>cd (e▸((mi q).mp hq).1)) nm (hK c c1 ss ns λs hs=>(si s).mp hs) (λcA Ho h=>?_) λcA Ho mi'=>?_⟩;·
     refine bj (hM cA Ho λq hq=>.inl ?_) (by decide);rcases h q hq with h|h;·exact fm dr mi q h
     ·exact⟨h.1▸c1,by rw[h.1];exact c2,h.1▸(si _).mp h.2⟩
    ·refine WS.keep (G:=[(b,.list (ss.map e6))]) (b6 (l₁:=[_])) (WS.fin ⟨cA,rfl,rfl,dn++[c],rt,by rw[e,bW];rfl,rfl,Ho,λq=>?_⟩ rfl);rw[mi',mi,cw,bU];refine⟨λh=>?_,λh=>?_⟩;·
      rcases h with h|h;·exact⟨.inl h.1,h.2⟩
      ·exact⟨.inr h.1,h.1▸(si _).mp h.2.1,h.2.2⟩
     ·rcases h with⟨h|h,h2,h3⟩;·exact .inl ⟨h,h2,h3⟩
      ·exact .inr ⟨h,(si _).mpr (h▸h2),h3⟩
 ·obtain⟨dn,rt,e,er,nm,mi⟩:=z;obtain rfl:=f6.mp er.symm;rw[bN]at e;subst e;have fm:=fm (λu h=>h) mi;have mz:=hM ms nm λq hq=>.inl (fm q hq);have sz:=hM (ks++ms) (gA.mpr ⟨nk,nm,λa ha b hb e=>((mi b).mp hb).2.2 (e▸ha)⟩) λq hq=>by
   rcases cw.mp hq with h|h;·obtain⟨x,h1,h2⟩:=(mk q).mp h;exact .inr (bt.mpr ⟨x,h1,h2⟩)
   ·exact .inl (fm q h)
  have ez:g.es.length<=16777216:=by have:=I.qK;have:=I.small;have:=I.told;exact l4 0x10000007a17186a05a3203921913f2a021c2 hn ‹_› this
  refine WS.cons (W1.put (EV.tuple (AV.p2 (EV.m (PE.self 3 4 oB) (Mt.inst 9 10 zo) (AV.p0 (CP.call (yT (H:=H) I.ok) (fj (A:=[_,_,_,_,_,_,_,_,_])) (dF.mpr ((ie _ _)))))) (EV.bi (.builtin "len") kb (AV.p1 (PE.attr (PE.self 3 4 oB) 9 10 Co) (CP.len (us:=g.es) 11 rfl ez))) ⟨aL rfl,EV.use (PE.self 3 4 OD) (EV.use PE.name (km.dict 8 rfl k2 ((oR z2)) (dF.mpr ((i8 _))) ?_))⟩)));refine WS.cons (W1.put (EV.bi (.builtin "sorted") kb (AV.cons (EV.bin .Add (EV.bi (.type "list") kt (AV.p1 PE.name (CV.acK (f:=cU) (ms:=ks) 1 ((bF (bj kz (aL rfl)))) λlk=>EV.use PE.name (BV.pE (vs:=ks.map cU) (us:=ms.map cU) 0 1 (by rw[aN,aN];lia) λsl=>AV.nil (CV.Oq (f:=cU) (xs:=ks++ms) 0 CK (λu u u=>OY _) sz (λb cA pm=>EV.use (PE.self 6 7 OC) (EV.use PE.name (km.dict 10 rfl k1 ((oR z1)) (dF.mpr ((i8 _))) ?_))) (by rw[cy];rfl))))))))));refine WS.ret (EV.drop (EV.bi (.builtin "sorted") kb (AV.p1 PE.name (CV.Oq (f:=cU) (xs:=ms) 3 CK (λu u u=>OY _) mz (λb2 zj CO=>⟨_,[_,_,_,_,_],acJ (G:=[_,_,_,_,_]) (K:=eF C H.a (dt es (aS p) (.ref b)) (dt bV (aS p) (.tup [nv g.n,nv g.es.length]))),hR _ _ ⟨b2,b,zj,cA,rfl,CO.symm.nodup nm,λq hq=>fm q (CO.mem_iff.mp hq),λq h1 h2=>?_,λq=>?_,by rw[pm.length_eq];exact sz,rfl⟩⟩)))));·
   have h3:=r2 q.1 (h2.mono λc hc=>(mc c).mpr hc);by_cases k:q∈ks;·obtain⟨x,h1,h2⟩:=(mk q).mp k;exact .inr (bt.mpr ⟨x,h1,h2⟩)
   ·exact .inl (CO.mem_iff.mpr ((mi q).mpr ⟨h3,h1.2.2,k⟩))
  ·rw[pm.mem_iff,CO.mem_iff,cw,mk,bt,or_comm]
end
section
def acP:FnAt 179 (sB 11 10) ["self","n"]:=.of2
def CV.acQ(i:aa)(hz:ms.length<64)(k:∀(b:aa)(cA:ag aa),cA.Perm ms->cA.Pairwise (·<=·)->Q (.ref b) ((b,.list (cA.map nv))::L))(y:aB (L[i]?=af (a,.dict (yes nv ms))) tR):CV (r+1) (.builtin "sorted") [.ref a] Q L:=λX w env l st R=>Gp (xs:=ms) (w5 (f:=nv) (ms:=ms)▸jx.dict (R.at i y) (by rw[sO];exact bG (bF hz) (by decide))) hz λb cA hb h1 h2=>⟨_,R.new _ hb,k b cA h1 h2⟩
structure BeI(nd:aa->Node)(cl:ag aa)(n:aa)(b:ag aa×ag aa):Prop where
 sQ:b.1.Nodup
 sub:∀i∈b.1,i∈cl
 zu:∀i∈b.2,i∈b.1
 top:n∈b.1
 zv:∀i∈b.1,i∈b.2\/∀j∈(nd i).2,j∈b.1
 len:b.2.length<=b.1.length
noncomputable abbrev zw(cl:ag aa)(b:ag aa×ag aa):aa:=2*(cl.length-b.1.length)+b.2.length
def len_sub{xs ys:ag aa}(h:xs.Nodup)(k:∀i∈xs,i∈ys):xs.length<=ys.length:=sV h k
structure uW(nd:aa->Node)(cl:ag aa)(n m:aa)(b0 b:ag aa×ag aa)(dn:ag aa):Prop where
 sQ:b.1.Nodup
 sub:∀i∈b.1,i∈cl
 zu:∀i∈b.2,i∈b.1
 top:n∈b.1
 zv:∀i∈b.1,i∈b.2\/i=m\/∀j∈(nd i).2,j∈b.1
 len:b.2.length+1<=b.1.length
 CQ:∀i∈dn,i∈b.1
 O4:zw cl b<zw cl b0
def uW.skip(h:uW nd cl n m b0 b dn)(q:k∈b.1):uW nd cl n m b0 b (dn++[k]):={h with CQ:=λi hi=>(cw.mp hi).elim (h.CQ i) λhi=>bU.mp hi▸q}
def uW.put(h:uW nd cl n m b0 b dn)(q:k∉b.1)(hk:k∈cl)(n':cA.Nodup)(m':∀y,y∈cA↔y∈b.1\/y=k):uW nd cl n m b0 (cA,b.2++[k]) (dn++[k]):=by
 have s:=λi hi=>((m' i).mp hi).elim (h.sub i) λe=>e▸hk;have pl:cA.length=b.1.length+1:=by have:(b.1++[k]).Nodup:=gA.mpr ⟨h.sQ,iZ.mpr ⟨rj,.nil⟩,λx hx y hy e=>q (by rw[bU.mp hy]at e;exact e▸hx)⟩;have h1:=len_sub this (ys:=cA) λi hi=>(m' i).mpr ((cw.mp hi).imp id bU.mp);have h2:=len_sub n' (ys:=b.1++[k]) λi hi=>cw.mpr (((m' i).mp hi).imp id bU.mpr);rw[bD]at h1 h2;exact s7 h2 h1
 refine⟨n',s,λi hi=>?_,(m' _).mpr (.inl h.top),λi hi=>?_,?_,λi hi=>?_,?_⟩;·exact(m' i).mpr ((cw.mp hi).imp (h.zu i) bU.mp)
 ·clear q hk n' s;rcases(m' i).mp hi with hi|rfl;·
   rcases h.zv i hi with z|z|z;·exact .inl (de _ z)
   ·exact .inr (.inl z)
   ·exact .inr (.inr λj hj=>(m' j).mpr (.inl (z j hj)))
  ·exact .inl (bC _ (iB _))
 ·rw[bD,pl];exact mO h.len
 ·exact(m' i).mpr ((cw.mp hi).imp (h.CQ i) bU.mp)
 ·refine br ?_ h.O4;delta zw;rw[bD,pl];exact l5 0x4321c94d021c971392112021d093120 (fY (l3 2325489982724 pl (len_sub n' s))) kQ
section
variable{B:BA}{N n:aa}{nd:aa->Node}{ws ds:aa->bp}{fv:aa->V}{cl:ag aa}{R:V->Cells->Prop}
abbrev zy(a n bl st:aa):Lc:=.cons "self" (.ref a) (.cons "n" (nv n) (.cons "below" (.ref bl) (.cons "stack" (.ref st) .nil)))
inductive KdS(nd:aa->Node)(cl:ag aa)(n m:aa)(b0:ag aa×ag aa)(rest:ag V)(b:ag aa×ag aa):Prop|mk(dn rs:ag aa):(nd m).2=dn++rs->rest=rs.map nv->uW nd cl n m b0 b dn->KdS nd cl n m b0 rest b
def acR{bl st:aa}(hl:(zy B.a n bl st).In l)(hz:N<=16777216)(hk:∀i,i<N->(nd i).2.length<16777216)(hc:∀i∈cl,i<N/\∀j∈(nd i).2,j∈cl)(hn:n∈cl)(cz:cl.length<64)(k:∀b:ag aa,b.Nodup->(∀i∈b,i∈cl)->n∈b->(∀i∈b,∀j∈(nd i).2,j∈b)->Nx (zy B.a n bl st) ((st,.list [])::(bl,.dict (yes nv b))::gV B N nd ws ds)):W1 (.fn (sB 11 10) 179) (dG (b1 (sB 11 10)).tail) 1 R Nx l ((st,.list [nv n])::(bl,.dict (yes nv [n]))::gV B N nd ws ds):=by
 refine W1.loop (λu:ag aa×ag aa=>zy B.a n bl st) (λb=>(st,.list (b.2.map nv))::(bl,.dict (yes nv b.1))::gV B N nd ws ds) (zw cl) (BeI nd cl n) ([n],[n]) ⟨iZ.mpr ⟨rj,.nil⟩,λi hi=>bU.mp hi▸hn,λi hi=>hi,iB _,λi hi=>.inl hi,bq _⟩ (λb I=>?_) hl;obtain⟨bs,sk⟩:=b;have bz:=len_sub I.sQ I.sub;have sz:sk.length<=bs.length:=I.len;refine TV.use (PT.cmp .Gt (EV.bi (.builtin "len") kb (AV.p1 PE.name (CP.len (us:=sk.map nv) 0 (aN _) (l3 0x10000007a27121011402a02 cz bz sz)))) (PE.nat 0)) ?_;rcases afX sk with e|⟨zB,m,e⟩<;>try rw[afY]at e
 ·subst e;exact k bs I.sQ I.sub I.top λi hi=>(I.zv i hi).resolve_left λz=>by cases z
 ·subst e;have mb:m∈bs:=I.zu m (bC _ (iB _));refine bx (hc m (I.sub m mb)) λmn mk=>?_;simp only[bD,pW]at sz;rw[show decide ((zB++[m]).length>0)=ai from c7 (by rw[bD];exact i8 _)];refine WS.cons (W1.for (EV.m PE.name (Mt.inst 2 3 GD) (AV.cons (EV.m PE.name (Mt.list (vs:=(zB++[m]).map nv) 0 Ds GS) (AV.p0 (CV.pop (vs:=zB.map nv) (v:=nv m) 0 (AV.nil (CP.to (CP.call (GF hz mn (hk m mn)) (b6 (l₁:=[_,_]))) ?_)) (by rw[aN];exact l3 0x10000007a2812d1011402a02 cz bz sz) (by rw[cy];rfl)))))) (.inl (d8 _ _ rfl)));refine⟨.tup,λu:ag aa×ag aa=>zy B.a n bl st,λb=>(st,.list (b.2.map nv))::(bl,.dict (yes nv b.1))::gV B N nd ws ds,KdS nd cl n m (bs,zB++[m]),(bs,zB),⟨[],(nd m).2,rfl,rfl,I.sQ,I.sub,λi hi=>I.zu i (de _ hi),I.top,λi hi=>?_,sz,λu h=>(by cases h),?_⟩,rfl,rfl,λv rest b z=>⟨cZ,?_⟩,λb z=>⟨cZ,?_⟩⟩;·
   rcases I.zv i hi with z|z;·
    rcases cw.mp z with z|z;·exact .inl z
    ·exact .inr (.inl (bU.mp z))
   ·exact .inr (.inr z)
  ·unfold zw;rw[bD,pW];exact f9 _
  ·obtain⟨dn,rs,e,er,J⟩:=z;obtain⟨CR,CS⟩:=b;induction rs using b7 with
    |nil=>nomatch er|cons i rs=>
     obtain⟨rfl,rfl⟩:=cq er;have ic:=mk i (e▸bC _ aR);have jz:=len_sub J.sQ J.sub;have jl:=J.len;have ak:PT (.fn (sB 11 10) 179) (sv (dG (b1 (dG (b1 (dG (b1 (sB 11 10)).tail)))))) 1 ((zy B.a n bl st).put "kid" (nv i)) ((st,.list (CS.map nv))::(bl,.dict (yes nv CR))::gV B N nd ws ds) (decide (i∉CR)):=PT.Hl 1 PE.name PE.name (sM (f:=nv) (x:=i) qS) (OR λu u=>iw);refine(aA _ (.name _ _ rfl rfl) ?_);by_cases q:i∈CR;·exact WS.cons (W1.fF ak (dS λz=>z q) (WS.nil (WS.fin ⟨(CR,CS),rfl,rfl,dn++[i],rs,by rw[e,bW];rfl,rfl,J.skip q⟩ rfl)))
     ·refine WS.cons (W1.jy ak (c7 q) (WS.cons (W1.put (EV.use (PE.bool ai) (EV.use PE.name (EV.use PE.name (km.dict 1 rfl (sM (f:=nv) qS) (by rw[sO];exact bG (bF (br jz cz)) (aL rfl)) rfl ?_)))))));obtain⟨cA,e',n',m',l'⟩:=zm (f:=nv) (ms:=CR) (x:=i) λu u=>iw;rw[e'];refine WS.cons (W1.expr (EV.m PE.name (Mt.list 0 lQ lJ) (AV.p1 PE.name (CV.append (us:=CS.map nv) 0 ?_ (by rw[aN];exact l3 0x10000007a2812d1011402a02 cz jz jl)))));exact WS.nil (WS.fin ⟨(cA,CS++[i]),rfl,by rw[cy];rfl,dn++[i],rs,by rw[e,bW];rfl,rfl,J.put q ic (n' J.sQ) m'⟩ rfl)
  ·obtain⟨dn,rs,e,er,J⟩:=z;obtain rfl:=f6.mp er.symm;rw[bN]at e;refine WS.nil (rH b rfl rfl ⟨J.sQ,J.sub,J.zu,J.top,λi hi=>?_,Nat.le_of_succ_le J.len⟩ J.O4);rcases J.zv i hi with z|z|z;·exact .inl z
   ·exact .inr λj hj=>J.CQ j (e▸z▸hj)
   ·exact .inr z
def acS:(intD ks f).length=ks.length:=aN ..
inductive O5(ks:ag aa)(rest:ag V)(dn:ag aa):Prop|mk(rs:ag aa):ks=dn++rs->rest=rs.map nv->O5 ks rest dn
def acT(h:k∉dn):dt (intD dn fv) (nv k) (fv k)=intD (dn++[k]) fv:=by
 rw[CG];·delta intD;simp only[cy];rfl
 ·exact qm.mpr (rV.mpr λp hp e=>by refine aq (bt.mp hp) λx hx aC=>?_;clear hp;subst aC;exact h (iw e▸hx))
def acU(hz:N<=16777216)(hk:∀i,i<N->(nd i).2.length<16777216)(hb:∀i,i<N->∀j∈(nd i).2,j<i)(hc:∀i∈cl,i<N/\∀j∈(nd i).2,j∈cl)(hn:n∈cl)(cz:cl.length<64)(hf:∀k,k<N->V.tup (.str (nd k).1::(nd k).2.map fv)=fv k):i9 2 179 [.ref B.a,nv n] (fv n) (gV B N nd ws ds):=by
 refine Sp.eE acP λR hR=>WS.cons (W1.sE ["below","stack"] (EV.tuple (AV.cons (EV.Z2 (λd=>PE.name) (λd=>PE.bool ai) rfl λbl=>AV.cons (EV.list (AV.p1 PE.name ⟨aL rfl,λst=>AV.nil ⟨aL rfl,⟨rfl,?_⟩⟩⟩))))));refine WS.cons (acR (bl:=bl) (st:=st) rfl hz hk hc hn cz λb n1 n2 n3 n4=>?_);refine WS.cons (W1.set (EV.om λmd=>?_));have bz:=len_sub n1 n2;refine WS.cons (W1.for (EV.bi (.builtin "sorted") kb (AV.p1 PE.name (CV.acQ 2 (br bz cz) λso ks pm ho=>?_))) (.inl (d8 _ _ rfl)));have kz:ks.length<64:=by rw[pm.length_eq];exact br bz cz
 have kn:=pm.symm.nodup n1;refine⟨.list (vs:=ks.map nv) aR (by rw[aN];exact bF (bj kz (aL rfl))),λu:ag aa=>.cons "self" (.ref B.a) (.cons "n" (nv n) (.cons "made" (.ref md) .nil)),λdn=>(so,.list (ks.map nv))::(md,.dict (intD dn fv))::(st,.list [])::(bl,.dict (yes nv b))::gV B N nd ws ds,O5 ks,[],⟨ks,rfl,rfl⟩,rfl,rfl,λv rest dn z=>⟨aR,?_⟩,λdn z=>⟨aR,?_⟩⟩;·
  obtain⟨rs,e,er⟩:=z;induction rs using b7 with
   |nil=>contradiction|cons k rs=>
    obtain⟨rfl,rfl⟩:=cq er;have kb:=pm.mem_iff.mp (e▸bC _ aR:k∈ks);have kN:=(hc k (n2 k kb)).1;have kd:k∉dn:=λh=>(gA.mp (e▸kn)).2.2 k h k aR rfl;have below:∀j∈(nd k).2,j∈dn:=λj hj=>by
     have h1:=pm.mem_iff.mpr (n4 k kb j hj);have h2:=hb k kN j hj;rw[e]at h1 ho;rcases cw.mp h1 with h|h;·exact h
     ·have h3:=(af4.mp ho).2.1;rcases cg.mp h with h|h;·exact bA h2 (h▸i6 _)
      ·exact bA h2 (Sk.mpr ((xu.mp h3).1 j h))
    have dz:dn.length<64:=by rw[e,bD]at kz;exact br (dE _ _) kz
    have oz:=hk k kN;refine⟨_,.name _ _ rfl rfl,WS.cons (W1.put (EV.bin .Add (EV.use (PE.tuple1 (EV.m PE.name (Mt.inst 4 5 M9) (AV.p1 PE.name (CP.call (Na hz kN oz) (b6 (l₁:=[_,_,_,_])))))) (EV.bi (.type "tuple") kt (AV.cons (EV.comp (EV.m PE.name (Mt.inst 4 5 GD) (AV.p1 PE.name (CP.to (CP.call (GF hz kN oz) (b6 (l₁:=[_,_,_,_]))) (cT.nums fv .tup cZ oz (λi hi=>PE.sH 1 PE.name PE.name pG (uI (f:=fv) (below i hi))) λa=>AV.nil (CP.to (CP.wN (us:=(nd k).2.map fv) 0 (by rw[aN];exact bF oz)) (BV.yG (by rw[aN,pW];exact l1 0x10000007a01b9710000007a02 oz) (EV.use PE.name (EV.use PE.name (km.dict 2 rfl pG (by rw[acS];exact bF (bj dz (aL rfl))) rfl ?_)))))))))))))))⟩;rw[show V.tup ([V.str (nd k).1]++(nd k).2.map fv)=fv k from hf k kN,acT kd];exact WS.keep (G:=[_]) (b6 (l₁:=[_])) (WS.fin ⟨dn++[k],rfl,rfl,rs,by rw[e,bW];rfl,rfl⟩ rfl)
 ·obtain⟨rs,e,er⟩:=z;obtain rfl:=f6.mp er.symm;rw[bN]at e;subst e;exact WS.ret (EV.drop (EV.use (PE.sH 1 PE.name PE.name pG (uI (f:=fv) (pm.mem_iff.mpr n3))) ⟨gV B N nd ws ds,[_,_,_,_],b6 (l₁:=[_,_,_,_]),hR _ _ ⟨rfl,rfl⟩⟩))
end
end
section
def acV(h:∀x1 x2 x3 x4 x5,kG fd ⟨[x1,x2,x3,x4,x5],[]⟩=pure [(n1,x1),(n2,x2),(n3,x3),(n4,x4),(n5,x5)])(xs:ag aF)(e:xs.length=5):kG fd ⟨xs,[]⟩=pure ([n1,n2,n3,n4,n5].zip xs):=by refine qh (H5 e) λa xs aC=>?_;subst aC;refine qh (H5 (iC e)) λb xs aC=>?_;subst aC;refine qh (H5 (iC (iC e))) λc xs aC=>?_;subst aC;refine qh (H5 (iC (iC (iC e)))) λd xs aC=>?_;subst aC;obtain⟨f,rfl⟩:=z8.mp (iC (iC (iC (iC e))));exact h a b c d f
def acW:FnAt 518 (sB 21 0) ["self","name","left","right","needs"]:=⟨λP=>by kernel_rfl,λP=>(AI (by kernel_rfl) (by kernel_rfl) (by kernel_rfl) (by kernel_rfl) (by kernel_rfl)),λP=>by kernel_rfl,λP=>acV λu u u u u=>by kernel_rfl,by kernel_rfl⟩
def acX [dq:Hid]{prog:cx}{w:aZ}{K:cJ}{r:aa}{env:bI}{loc:Loc}{st:aE}{us:ag V}{Q:V->aE->Prop}(hz:us.length<=16777216)(h:∀b,st b=ah->Q (.ref b) (st.put b (.list us))):OV prog w K r env (λxs=>dR (.type "list") xs) [.tup us] loc st Q:=λA P s xs u u F rx=>by refine ba rx λu u aC ru rn=>?_;rw[aC];rw[rn];refine eS ru λa items n bT e z hx=>?_;rw[bT];refine kM (F.beyond (bq _)) λb1 b2 b3 b4 b5=>?_;refine aht (hsz:=by exact(by exact z.length:items.size=us.length)▸j8▸hz) a (.inr rfl) e rfl rfl λh' c' hk hD=>?_;exact⟨_,_,.ref _,(F.grow hk).adopt (o:=.list us) b5 b2 b3 b4 hD (eK items c' rfl (z.keep λb o u u q u u=>hk b o q)),h _ b1⟩
section
variable{E:EF}{e:aT}{r a d:aa}{l:Lc}{L:Cells}{Q:V->Cells->Prop}{us:ag V}{v:V}{b:bw}
def CV.acY(hz:us.length<=16777216)(k:∀b,Q (.ref b) ((b,.list us)::L)):CV r (.type "list") [.tup us] Q L:=λX w env l st R=>acX hz λb hb=>⟨_,R.new _ hb,k b⟩
def CP.O6:CP r (.type "tuple") [.tup us] (.tup us) L:=λX w env l st R=>LB ⟨_,R,rfl,rfl⟩
def PT.acZ(i:aa)(h1:PE E (e1 e) (r+1) l L v)(h2:PE E (e2 e) (r+1) l L (.ref a))(ks:∀u∈us,bO 7 u=ai/\fC u v=ai)(kk:bO 7 v=ai)(hb:(!decide (v∈us))=b)(x:aB (L[i]?=af (a,.list us)) tR)(he:aB (e=.Compare (e1 e) [.NotIn] [e2 e] e.pos) tR)(hm:aB (i7 .NotIn (e2 e)=aD) tF):PT E e (r+1) l L b:=TV.cmp .NotIn (EV.use h1 (EV.use h2 λX w env l st R=>W8 (R.at i x) ks kk ⟨_,R,_,rfl,hb,rfl⟩)) he hm
def PT.ac3(h1:PE E (e1 e) (r+1) l L v)(h2:PE E (e2 e) (r+1) l L (.tup us))(ks:∀u∈us,bO 7 u=ai/\fC u v=ai)(kk:bO 7 v=ai)(hb:(!decide (v∈us))=b)(he:aB (e=.Compare (e1 e) [.NotIn] [e2 e] e.pos) tR)(hm:aB (i7 .NotIn (e2 e)=aD) tF):PT E e (r+1) l L b:=TV.cmp .NotIn (EV.use h1 (EV.use h2 λX w env l st R=>W9 ks kk ⟨_,R,_,rfl,hb,rfl⟩)) he hm
end
def CT(P:bh):eN (KK P) 528 "name"=ai/\eN (KK P) 528 "left"=ai/\eN (KK P) 528 "right"=ai/\eN (KK P) 528 "needs"=ai:=⟨by kernel_rfl,by kernel_rfl,by kernel_rfl,by kernel_rfl⟩
structure RD where
 nm:aI
 l:Tm
 r:Tm
def O7(a d:aa)(x:RD):Cells:=[(a,.inst 528 d),(d,.attrs [("name",.str x.nm),("left",aS x.l),("right",aS x.r),("needs",.tup [])])]
structure Hp(x:RD):Prop where
 nv:isVar x.l=aD
 dl:x.l.dep<=9
 dr:x.r.dep<=9
 zl:x.l.sz<63
 zr:x.r.sz<63
 al:x.l.all qP=ai
 ar:x.r.all qP=ai
 sub:∀y∈x.r.vars,y∈x.l.vars
def ac4(ok:Hp ru):Sp 12 518 [.ref x,.str ru.nm,aS ru.l,aS ru.r,.tup []] (Is .none (O7 x dx ru)) [(x,.inst 528 dx),(dx,.attrs [])]:=by
 refine Sp.eE acW λR hR=>WS.cons (W1.fF (PT.of (EV.fn (AV.p1 PE.name (CP.call (Cz (Tm.G3 ok.al)) (.refl _))))) ok.nv (WS.nil ?_));refine WS.cons (W1.set (EV.fn (AV.p1 PE.name (CV.call (G6 ok.dl ok.zl ok.al) (.refl _) λv L z=>?_))));obtain⟨kn,ns,rfl,mj,nl,rfl⟩:=z;refine WS.cons (W1.set (EV.bin .Add (EV.list (AV.cons (EV.tuple (AV.p3 PE.str PE.name PE.name ⟨aL rfl,AV.nil ⟨aL rfl,λa=>EV.bi (.type "list") kt (AV.p1 PE.name (CV.acY (cF _) λb=>BV.pE (vs:=[.tup [.str "alike",aS ru.r,aS ru.r]]) (us:=[]) 1 0 (aL rfl) λas=>?_))⟩⟩))))));refine WS.cons (W1.for (EV.use PE.name ⟨.list (vs:=[.tup [.str "alike",aS ru.r,aS ru.r]]) aR (aL rfl),λo:kK=>.cons "self" (.ref x) (.cons "name" (.str ru.nm) (.cons "left" (aS ru.l) (.cons "right" (aS ru.r) (.cons "needs" (.tup []) (.cons "known" (.ref kn) .nil))))),λo=>(as,.list [.tup [.str "alike",aS ru.r,aS ru.r]])::(b,.list [])::(a,.list [.tup [.str "alike",aS ru.r,aS ru.r]])::(kn,.list (ns.map V.str))::[(x,.inst 528 dx),(dx,.attrs [])],λrest o=>rest=[.tup [.str "alike",aS ru.r,aS ru.r]]\/rest=[],(),.inl rfl,rfl,rfl,λv rest o z=>⟨aR,?_⟩,λo z=>⟨aR,?_⟩⟩) (.inr (pd _ _ _ rfl)));·
  rcases z with z|z;·
   refine bx (cq z) λqx bQ=>?_;rw[qx];rw[bQ];refine(aA _ (.tup _ _ ["kind","one","other"] rfl (λo=>rfl) rfl) (WS.cons (W1.fF (PT.ac3 (us:=[.str "alike",.str "unlike"]) PE.name (EV.tuple (AV.p2 PE.str PE.str ⟨aL rfl,rfl,rfl⟩)) (λu hu=>?_) rfl rfl) (by rfl) (WS.nil ?_))));·
    rcases cg.mp hu with rfl|hu;·exact⟨rfl,rfl⟩
    ·rw[bU.mp hu];exact⟨rfl,rfl⟩
   refine WS.cons (W1.comp (EV.bin .Add (EV.fn (AV.p1 PE.name (CV.call (G6 ok.dr ok.zr ok.ar) (.refl _) λv L z=>?_)))));obtain⟨k1,n1,rfl,h1,l1,rfl⟩:=z;refine EV.fn (AV.p1 PE.name (CV.call (G6 ok.dr ok.zr ok.ar) (.refl _) λv L z=>?_));obtain⟨k2,n2,rfl,h2,l2,rfl⟩:=z;have zr:=ok.zr;refine BV.pE (vs:=n1.map V.str) (us:=n2.map V.str) 1 0 (by rw[aN,aN];exact l3 0x10000007a20973f2a12120121101 l1 l2 zr) λc=>?_;refine cT.pure (xs:=n1++n2) (G:=λL'=>(c,aV.list ((n1++n2).map V.str))∈L') V.str (λo=>aD) (λo=>.none) (.list (by rw[cy];exact aR) (by rw[aN,bD];exact l3 0x10000007a20973f2a12120121101 l1 l2 zr)) (by rw[cy];exact aR) (by rw[bD];exact l3 0x10000007a20983f2a12120121101 l1 l2 zr) (.inl (d8 _ _ rfl)) (λy hy=>⟨_,.name _ _ rfl rfl,ia.one (PT.acZ (us:=ns.map V.str) 6 PE.name PE.name (λu hu=>?_) rfl ?_),λz=>by contradiction⟩) λlo=>?_;·refine aq (bt.mp hu) λq o aC=>?_;subst aC;exact⟨rfl,rfl⟩
   ·have h3:y∈ns:=(mj y).mpr (ok.sub y ((cw.mp hy).elim (h1 y).mp (h2 y).mp));rw[c7 (gK h3)];rfl
   rw[Q9.mpr λo o=>fH];refine WS.cons (W1.qG (TV.cmp .NotEq (EV.use PE.name (EV.list (AV.p0 ⟨cF _,λe=>BV.MR (us:=[]) 1 0 ⟨aD,rfl,?_⟩⟩)))));exact WS.nil (WS.keep (G:=[_,_,_,_,_]) (b6 (l₁:=[_,_,_,_,_])) (WS.fin ⟨(),rfl,rfl,.inr rfl⟩ rfl))
  ·contradiction
 ·refine WS.cons (W1.attr (EV.use PE.name (EV.use PE.name ⟨4,5,λP=>(CT P).1,rfl,rfl,rfl,?_⟩)));refine WS.cons (W1.attr (EV.use PE.name (EV.use PE.name ⟨4,5,λP=>(CT P).2.1,rfl,rfl,rfl,?_⟩)));refine WS.cons (W1.attr (EV.use PE.name (EV.use PE.name ⟨4,5,λP=>(CT P).2.2.1,rfl,rfl,rfl,?_⟩)));refine WS.cons (W1.attr (EV.bi (.type "tuple") kt (AV.p1 PE.name (CP.to CP.O6 (EV.use PE.name ⟨4,5,λP=>(CT P).2.2.2,rfl,rfl,rfl,?_⟩)))));exact WS.keep (G:=[_,_,_,_]) (b6 (l₁:=[_,_,_,_])) (WS.nil (hR _ _ ⟨rfl,rfl⟩))
end
section
structure kC(g:HG)(T a b:aa)(g':HG):Prop where
 hi:HI g' (T+1) []
 gr:Grow g g'
 eq:g'.n=g.n
 al:g'.rt a=g'.rt b
 qO:∀R φ,dZ g R φ->φ a=φ b->dZ g' R φ
section
variable{g:HG}{T a b:aa}{ex:ag aa}
def HI.ac6(I:HI g T ex)(hT:T+1<100000):HI {g with es:=g.es++[e]} (T+1) ex:=by
 have up:∀{j:aa}{x:V},g.es[j]?=af x->(g.es++[e])[j]?=af x:=λ{j x}h=>by rw[xt (iQ.mp h).1];exact h
 refine{I with told:=hT,qK:=?_,uO:=λj hj=>?_,yZ:=λi hi q=>?_};·rw[bD];have:=I.qK;exact l4 0x32d910d973291091 this
 ·refine gN (I.uO j hj) λa b r h1 h2=>?_;exact(tj a b r (up h1) h2)
 ·refine aq (I.yZ i hi q) λj hj bg=>gN bg λa b r h1 h2=>?_;exact⟨j,hj,a,b,r,up h1,h2⟩
def kC.same(I:HI g T [])(hT:T+1<100000)(q:g.rt a=g.rt b):kC g T a b {g with es:=g.es++[e]}:=⟨I.ac6 hT,⟨bq _,λu u=>rfl,λu u u u h=>h⟩,rfl,q,λR φ H u=>H⟩
def kC.two(I:HI g T [])(hT:T+1<100000)(ha:a<g.n)(hb:b<g.n)(q:g.rt a≠g.rt b):kC g T a b (g.two (min (g.rt a) (g.rt b)) (max (g.rt a) (g.rt b)) (jT a b r)):=by
 refine bx (Nv q) λlt c=>?_;have hx:min (g.rt a) (g.rt b)∈g.ks/\max (g.rt a) (g.rt b)∈g.ks:=by
  rcases c with⟨h1,h2⟩|⟨h1,h2⟩<;>rw[h1,h2];·exact⟨I.kq ha,I.kq hb⟩
  ·exact⟨I.kq hb,I.kq ha⟩
 have I2:=I.two (r:=r) (b:=b) hx.1 hx.2 lt ha (by
  rcases c with⟨h1,h2⟩|⟨h1,h2⟩<;>rw[h1,h2];·exact .inl rfl
  ·exact .inr rfl);have rr:∀i,(g.two (min (g.rt a) (g.rt b)) (max (g.rt a) (g.rt b)) (jT a b r)).rt i=if g.rt i=max (g.rt a) (g.rt b)then min (g.rt a) (g.rt b)else g.rt i:=λu=>rfl;refine⟨I2.mono (kE _) hT,⟨bq _,λu u=>rfl,λi j u u h=>by simp only[rr,h]⟩,rfl,?_,λR φ H e=>H.two I ?_⟩;·
  simp only[rr];rcases c with⟨h1,h2⟩|⟨h1,h2⟩<;>rw[h1,h2];·rw[a0 rfl,aX q]
  ·rw[a0 rfl,aX (nJ q)]
 ·rcases c with⟨h1,h2⟩|⟨h1,h2⟩<;>rw[h1,h2];·rw[H.2 a ha,H.2 b hb];exact e
  ·rw[H.2 a ha,H.2 b hb];exact e.symm
end
structure uX(g:HG)(T:aa)(σ:Su)(x:RD)(g':HG):Prop where
 hi:HI g' (T+1) []
 gr:Grow g g'
 pt:∃g1 g2 m n,nA g T σ x.l m g1/\nA g1 T σ x.r n g2/\kC g2 T m n g'
def uX.mk'{g g1 g2 g':HG}(A:nA g T σ x.l m g1)(B:nA g1 T σ x.r n g2)(C:kC g2 T m n g'):uX g T σ x g':=⟨C.hi,(A.gr.trans B.gr).trans C.gr,g1,g2,m,n,A,B,C⟩
section
variable{H:HA}{g:HG}{T a b:aa}{rs:V}
def Hq(I:HI g T [])(hT:T+1<100000)(ha:a<g.n)(hb:b<g.n):Sp 5 439 [.ref H.a,nv a,nv b,rs] (sJ H.a λv g'=>(∃t,v=.bool t)/\kC g T a b g') (aJ H g):=(aaX I.ok (I.pre ha hb)).mono λv L z=>by induction z with|same q hv hL=>exact⟨H,_,rfl,⟨⟨_,hv⟩,kC.same I hT q⟩,hL⟩|two c q hv hL=>exact⟨H.lN (min (g.rt a) (g.rt b)) c,_,rfl,⟨⟨_,hv⟩,kC.two I hT ha hb q⟩,hL⟩
end
end
section
def ac7:FnAt 582 (sB 23 0) ["self","heap","rules","options"]:=.Ce
def ac9:FnAt 589 (sB 23 1) ["self"]:=.eI
def ada:FnAt 596 (sB 23 2) ["self","k"]:=.of2
def adb:FnAt 601 (sB 23 3) ["self","rule","subst"]:=.pF
def ade:FnAt 608 (sB 23 4) ["self","k","found"]:=.pF
def adf:FnAt 613 (sB 23 5) ["self"]:=.eI
def lookup_none{α:Type}{t:ag (aI×α)}(h:∀p∈t,p.1≠x):t.lookup x=ah:=by induction t with|nil=>rfl|cons p t ih=>rw[lj,beq_eq_false_iff_ne.mpr λe=>h p aR e.symm];exact ih λq hq=>h q (bK _ hq)
def adg:∀{s t:Tab},((t++s).map (·.1)).Nodup->kj (d0 s) (d0 t)=d0 (t++s):=by
 intro s;induction s with
  |nil=>intro t _;rw[bN];rfl|cons p s ih=>
   intro t h;have e:t++p::s=(t++[p])++s:=by rw[bW];rfl
   have n:=lookup_none λq hq e=>by rw[cy]at h;exact(gA.mp h).2.2 q.1 (gK hq) p.1 (gK aR) e
   have d:dt (d0 t) (.str p.1) (nv p.2)=d0 (t++[p]):=by rw[CG (w3.trans (by rw[n];rfl))];delta d0;rw[cy];rfl
   rw[e,←ih (e▸h)];show kj (d0 s) (dt (d0 t) (.str p.1) (nv p.2))=_;rw[d]
section
variable{E:EF}{e:aT}{r a d:aa}{l:Lc}{L:Cells}{Q:V->Cells->Prop}{us:ag V}{v:V}{b:bw}
def CV.O8(hn:(s.map (·.1)).Nodup)(hz:s.length<1000)(k:∀b,Q (.ref b) ((b,.dict (d0 s))::L)):CV (r+1) (.type "dict") [e6 s] Q L:=λX w env l st R=>by
 rw[(by delta e6 d0;rw[dQ];rfl:e6 s=.tup ((d0 s).map λp=>.tup [p.1,p.2]))];refine X3 (λp hp q hq=>?_) (by rw[aN];exact bF (bj hz (aL rfl))) λb hb=>?_;·refine aq (bt.mp hp) λx u aC=>?_;rw[←aC];refine aq (bt.mp hq) λy u aC=>?_;rw[←aC];exact(dD rfl rfl)
 ·rw[(adg (t:=[]) hn)];exact⟨_,R.new _ hb,k b⟩
def PE.glob(ad:aa)(hn:aB (∀P,hH (KK P) fw (nm e)=af (af (.ref ad))) tE)(he:aB (e=.Name (nm e) e.pos) tR)(hx:aB (E.glob (nm e)=ai) tT):PE E e r l L (.ref ad):=λX w a st R A P t ao g F=>by exact he▸(J4 (hn _) (EF.oh hx a).1 (EF.oh hx a).2 A P t _ g F ⟨.ref ad,_,rfl,F,_,R,rfl,rfl⟩)
def PT.adh(ad:aa)(h1:PE E (e1 e) (r+1) l L v)(h2:PE E (e2 e) (r+1) l L (.ref ad))(hk:∀P,(KK P).lookup ad=af (oT items))(hv:∀(X:Hid)(h:cL),bB h us items)(ks:∀u∈us,bO 7 u=ai/\fC u v=ai)(kk:bO 7 v=ai)(hb:(!decide (v∈us))=b)(he:aB (e=.Compare (e1 e) [.NotIn] [e2 e] e.pos) tR)(hm:aB (i7 .NotIn (e2 e)=aD) tF):PT E e (r+1) l L b:=TV.cmp .NotIn (EV.use h1 (EV.use h2 λX w env l st R A P s x y ao g F rk rd=>by rw[rd];have e:=(g.keeps F.keep).dM ad _ (hk w.params);refine aq (Bu (items:=⟨items⟩) ao.nY (hv X s.heap) ks kk rk) λf h2 h3=>?_;exact aim f (fB e) h2 (by exact h3▸(⟨_,st,.bool _,F,_,R,_,rfl,hb,rfl⟩)))) he hm
end
end
section
structure b8 where
 (a d:aa)
 rd:RD
noncomputable abbrev cf(x:b8):V:=.ref x.a
abbrev pN(x:RD):ag (aI×V):=[("name",.str x.nm),("left",aS x.l),("right",aS x.r),("needs",.tup [])]
def fG(rs:ag b8):Cells:=rs.flatMap λx=>O7 x.a x.d x.rd
def uY(h:x∈rs):(x.a,aV.inst 528 x.d)∈fG rs/\(x.d,aV.attrs (pN x.rd))∈fG rs:=⟨mN.mpr (aA x h aR),mN.mpr (aA x h (bK _ aR))⟩
section
variable{E:EF}{e:aT}{r a d:aa}{l:Lc}{L:Cells}{Q:V->Cells->Prop}{us:ag V}{v:V}{b:bw}
def PE.rule{x:b8}(h:PE E (e1 e) r l L (.ref x.a))(m:(x.a,aV.inst 528 x.d)∈L/\(x.d,aV.attrs (pN x.rd))∈L)(ok:∀P,ey (KK P) 528 (nm e))(hv:aB ((pN x.rd).lookup (nm e)=af v) tR)(he:aB (e=.Attribute (e1 e) (nm e) e.pos) tR)(hf:aB (∀env,bc e env=Gg (e1 e) (nm e) e.pos env) tE):PE E e r l L v:=by refine dh (oP.mp m.1) λi hi=>?_;obtain⟨j,hj⟩:=oP.mp m.2;exact PE.attr h i j ok hi (by rw[hj];refine(?_:((pN x.rd).lookup (nm e)).map _=_);rw[hv];rfl) he hf
def CP.adi(i:aa)(x:aB (L[i]?=af (a,.set us)) tR):CP r (.builtin "len") [.ref a] (nv us.length) L:=λX w env l st R=>UZ (R.at i x) ⟨_,R,rfl,rfl⟩
def BV.mulL(i:aa)(hn:n<=16777216)(k:∀b,Q (.ref b) ((b,.list (oV n v))::L))(x:aB (L[i]?=af (a,.list [v])) tR):BV r (mS .Mult) (.ref a) (nv n) Q L:=λX w env l st R=>U9 (R.at i x) hn λb hb=>⟨_,R.new _ hb,k b⟩
end
def adj(P:bh):dN (KK P) 241 "found" 238:=.of (by kernel_rfl)
def nB(P:bh):ey (KK P) 528 "name"/\ey (KK P) 528 "left"/\ey (KK P) 528 "right"/\ey (KK P) 528 "needs":=⟨.of (by kernel_rfl),.of (by kernel_rfl),.of (by kernel_rfl),.of (by kernel_rfl)⟩
def CU(P:bh):eN (KK P) 623 "heap"=ai/\eN (KK P) 623 "rules"=ai/\eN (KK P) 623 "options"=ai/\eN (KK P) 623 "walker"=ai:=⟨by kernel_rfl,by kernel_rfl,by kernel_rfl,by kernel_rfl⟩
def w7(P:bh):eN (KK P) 623 "placer"=ai/\eN (KK P) 623 "history"=ai/\eN (KK P) 623 "rounds"=ai/\eN (KK P) 623 "rests"=ai/\eN (KK P) 623 "wakes"=ai:=⟨by kernel_rfl,by kernel_rfl,by kernel_rfl,by kernel_rfl,by kernel_rfl⟩
def CW(P:bh):ey (KK P) 623 "heap":=.of (by kernel_rfl)
def w8(P:bh):ey (KK P) 623 "rules":=.of (by kernel_rfl)
def Hr(P:bh):ey (KK P) 623 "options":=.of (by kernel_rfl)
def adk(P:bh):ey (KK P) 623 "walker":=.of (by kernel_rfl)
def O9(P:bh):ey (KK P) 623 "placer":=.of (by kernel_rfl)
def adl(P:bh):ey (KK P) 623 "history":=.of (by kernel_rfl)
def Hs(P:bh):ey (KK P) 623 "rounds":=.of (by kernel_rfl)
def adm(P:bh):ey (KK P) 623 "wakes":=.of (by kernel_rfl)
structure NA where
 (n dn op rl hi wk rs w dw p dp:aa)
def uZ(A:NA)(h:aa)(us:ag V)(his:ag V)(k:aa):Cells:=[(A.n,.inst 623 A.dn),(A.dn,.attrs [("heap",.ref h),("rules",.ref A.rl),("options",.ref A.op),("walker",.ref A.w),("placer",.ref A.p),("history",.ref A.hi),("rounds",nv k),("rests",.ref A.rs),("wakes",.ref A.wk)]),(A.op,.dict []),(A.rl,.list us),(A.hi,.list his),(A.wk,.list (oV us.length (nv 0))),(A.rs,.list (oV us.length (nv 0)))]
noncomputable def iA(p dp h:aa):Cells:=[(p,.inst 566 dp),(dp,.attrs [("heap",.ref h)])]
def dg(A:NA)(h:aa)(us his:ag V)(k:aa):Cells:=uZ A h us his k++(du A.w A.dw h++iA A.p A.dp h)
inductive O'(x h op:aa)(us:ag V)(X:Cells)(v:V)(L:Cells):Prop|mk(A:NA):v=.none->A.n=x->A.op=op->L=dg A h us [] 0++X->O' x h op us X v L
def adn{xs:ag aI}{vs:ag V}(h:xs.Nodup)(k:∀v,v∈vs↔v∈xs.map V.str)(l:vs.length<=(xs.map V.str).length):vs.length=xs.length:=by have h2:=sV (jX.mpr (h.imp λ{a b}n e=>n (V.str.inj e))) (l₂:=vs) λv hv=>(k v).mpr hv;rw[aN]at l h2;exact s7 l h2
def ado{a1 a2 a3 a4 a5 a6 a7 a8 a9 b1 b2 b3 b4 b5:aa×aV}{X:Cells}:(a6::b1::a7::b2::a5::b4::b5::a8::a9::a4::a1::a2::a3::b3::X).Perm ((a1::a2::a3::a4::a5::a6::a7::a8::a9::b4::b5::b3::X)++[b1,b2]):=by classical exact gz.mpr λa=>by simp only[gB,ll,vI];lia
def adp(hn:(rs.map λx=>x.rd.nm).Nodup)(hz:rs.length<60):Sp 3 582 [.ref x,.ref h,.ref ru,.ref op] (O' x h op (rs.map cf) ((ru,.list (rs.map cf))::fG rs)) ((x,.inst 623 dx)::(dx,.attrs [])::(op,.dict [])::(ru,.list (rs.map cf))::fG rs):=by
 have uz:(rs.map cf).length<=16777216:=by rw[aN];exact bF (bj hz (aL rfl))
 refine Sp.eE ac7 λR hR=>WS.cons (W1.fF (PT.adh 506 (us:=[.str "together",.str "turns",.str "rests"]) (items:=[.str "together" 820,.str "turns" 821,.str "rests" 822]) (PE.cast (v:=.str "together") (EV.m PE.name (Mt.dict 2 pV pK) (AV.p2 PE.str PE.str (CP.pJ (ds:=[]) 2 ⟨rfl,λo h=>(by contradiction)⟩))) rfl) (PE.glob 506) (λP=>by kernel_rfl) (λX h=>.cons (.str _ _) (.cons (.str _ _) (.cons (.str _ _) .nil))) (λu hu=>?_) rfl rfl) (by rfl) (WS.nil ?_));·
  rcases cg.mp hu with rfl|hu;·exact⟨rfl,rfl⟩
  ·rcases cg.mp hu with rfl|hu;·exact⟨rfl,rfl⟩
   ·rw[bU.mp hu];exact⟨rfl,rfl⟩
 refine WS.cons (W1.comp (EV.use PE.name (cT.yJ (xs:=rs) cf (λx=>V.str x.rd.nm) (.list (.tail _ (.tail _ (.tail _ (.head _)))) uz) (.tail _ (.tail _ (.tail _ (.head _)))) ((lp _ hz)) (λy hy=>PE.rule PE.name ⟨.tail _ (.tail _ (.tail _ (.tail _ (uY hy).1))),.tail _ (.tail _ (.tail _ (.tail _ (uY hy).2)))⟩ λP=>(nB P).1) λnb=>?_)));have nl:(rs.map λx=>V.str x.rd.nm)=(rs.map λx=>x.rd.nm).map V.str:=by rw[dQ];rfl
 refine WS.cons (W1.qG (TV.cmp .Lt (EV.bi (.builtin "len") kb (AV.cons (EV.bi (.type "set") kt (AV.p1 PE.name (CV.GV (us:=rs.map λx=>V.str x.rd.nm) 0 (by rw[aN];exact lp _ hz) (.inr (.inl ⟨_,nl⟩)) λd vs hm hl=>AV.nil (CP.to (CP.adi 0) (EV.use (EV.bi (.builtin "len") kb (AV.p1 PE.name (CP.len (us:=rs.map λx=>V.str x.rd.nm) 1 (aN _) ((bF (bj hz (aL rfl))))))) (BV.to (BV.lH rfl) (aA aD ?_ ?_)))))))))));·rw[nl]at hm hl;have:=adn hn hm hl;rw[aN]at this;rw[this];exact aO V.bool (dS (i6 _))
 refine WS.nil (WS.keep (G:=[_,_]) (b6 (l₁:=[_,_])) ?_);refine WS.cons (W1.attr (EV.use PE.name (EV.use PE.name ⟨0,1,λP=>(CU P).1,rfl,rfl,rfl,?_⟩)));refine WS.cons (W1.attr (EV.bi (.type "list") kt (AV.p1 PE.name (CV.Gw 3 uz λrl=>EV.use PE.name ⟨1,2,λP=>(CU P).2.1,rfl,rfl,rfl,?_⟩))));refine WS.cons (W1.attr (EV.use PE.name (EV.use PE.name ⟨1,2,λP=>(CU P).2.2.1,rfl,rfl,rfl,?_⟩)));refine WS.cons (W1.attr (EV.fn (AV.p1 PE.name (CV.make λw dw=>Sp.frame (L:=[_,_]) Oa λv L z=>?_))));obtain⟨rfl,rfl⟩:=z;refine⟨rfl,EV.use PE.name ⟨3,4,λP=>(CU P).2.2.2,rfl,rfl,rfl,?_⟩⟩;refine WS.cons (W1.attr (EV.fn (AV.p1 PE.name (CV.make λp dp=>Sp.frame (L:=[_,_]) NV λv L z=>?_))));obtain⟨rfl,rfl⟩:=z;refine⟨rfl,EV.use PE.name ⟨5,6,λP=>(w7 P).1,rfl,rfl,rfl,?_⟩⟩;refine WS.cons (W1.attr (EV.list (AV.p0 ⟨cF _,λhi=>EV.use PE.name ⟨6,7,λP=>(w7 P).2.1,rfl,rfl,rfl,?_⟩⟩)));refine WS.cons (W1.attr (EV.use (PE.nat 0) (EV.use PE.name ⟨6,7,λP=>(w7 P).2.2.1,rfl,rfl,rfl,?_⟩)));refine WS.cons (W1.attr (EV.bin .Mult (EV.list (AV.p1 (PE.nat 0) ⟨aL rfl,λt1=>EV.use (EV.bi (.builtin "len") kb (AV.p1 (PE.self 7 8 w8) (CP.len (us:=rs.map cf) 6 rfl uz))) (BV.mulL 0 uz λr1=>EV.use PE.name ⟨8,9,λP=>(w7 P).2.2.2.1,rfl,rfl,rfl,?_⟩)⟩))));refine WS.cons (W1.attr (EV.bin .Mult (EV.list (AV.p1 (PE.nat 0) ⟨aL rfl,λt2=>EV.use (EV.bi (.builtin "len") kb (AV.p1 (PE.self 9 10 w8) (CP.len (us:=rs.map cf) 8 rfl uz))) (BV.mulL 0 uz λw1=>EV.use PE.name ⟨10,11,λP=>(w7 P).2.2.2.2,rfl,rfl,rfl,?_⟩)⟩))));exact WS.keep (M:=dg ⟨x,dx,op,rl,hi,w1,r1,w,dw,p,dp⟩ h (rs.map cf) [] 0++((ru,.list (rs.map cf))::fG rs)) (G:=[(t2,.list [nv 0]),(t1,.list [nv 0])]) ado (WS.nil (hR _ _ ⟨⟨x,dx,op,rl,hi,w1,r1,w,dw,p,dp⟩,rfl,rfl,rfl,rfl⟩))
def adq(ok:kZ g)(hz:g.n<=10000):i9 3 589 [.ref A.n] (.bool aD) (dg A H.a us his k++aJ H g):=Sp.intro ac9 (WS.ret (EV.cmp .Gt (EV.use (EV.m (PE.self 0 1 CW) (Mt.inst 11 12 zo) (AV.p0 (CP.call (yT (H:=H) ok) (b6 (l₁:=[_,_,_,_,_,_,_,_,_,_,_]))))) (EV.use (PE.cast (v:=nv 10000) (EV.m (PE.self 0 1 Hr) (Mt.dict 2 pV pK) (AV.p2 PE.str (PE.nat 10000) (CP.pJ (ds:=[]) 2 ⟨rfl,λu h=>(by contradiction)⟩))) rfl) (BV.to (BV.lH rfl) ⟨aO V.bool (dS (Sk.mpr hz)),rfl⟩)))))
def ads(hx:rs[j]?=af x)(rz:rs.length<60)(I:HI g T [])(hd:x.rd.l.dep<=D)(hp:oy x.rd.l)(hn:g.n<63)(hv:x.rd.l.vars.length<64)(hB:x.rd.l.bd g.n<1000000)(hK:∀c,c<g.n->∀ms:ag Tab,ms.Nodup->(∀s∈ms,FR g x.rd.l c s)->ms.length<64):Sp (D+8) 596 [.ref A.n,nv j] (Hk (FM g x.rd.l) (dg A H.a (rs.map cf) his k++(aJ H g++fG rs))) (dg A H.a (rs.map cf) his k++(aJ H g++fG rs)):=by
 have uz:(rs.map cf).length<=16777216:=by rw[aN];exact bF (bj rz (aL rfl))
 have xm:=e8 hx;refine Sp.eE ada λR hR=>WS.cons (W1.fF (PT.cmp .Gt (PE.item (us:=oV (rs.map cf).length (nv 0)) (v:=nv 0) 5 (PE.self 0 1 adm) PE.name ?_ ?_) (PE.self 0 1 Hs)) (dS (nG _)) (WS.nil ?_));·rw[List.getElem?_replicate,a0 (by rw[aN];exact((iQ.mp hx).1))]
 ·rw[List.length_replicate];exact uz
 refine WS.cons (W1.set (EV.drop (EV.m (PE.self 0 1 adk) (Mt.inst 7 8 adj) (AV.p1 (PE.rule (PE.item (us:=rs.map cf) 3 (PE.self 0 1 w8) PE.name (by rw[jh,hx];rfl) uz) ⟨bC _ (bC _ (uY xm).1),bC _ (bC _ (uY xm).2)⟩ λP=>(nB P).2.1) (CV.call (aco (H:=H) (a:=A.w) (dx:=A.dw) hd hp I hn hv hB hK) (CN (X:=[]) (A:=uZ A H.a (rs.map cf) his k) (B:=du A.w A.dw H.a)) (λv L z=>?_) (dF.mpr ((bq _))))))));obtain⟨b,ms,rfl,nd,mi,rfl⟩:=z;refine⟨(b,.list (ms.map cU))::(dg A H.a (rs.map cf) his k++(aJ H g++fG rs)),[],((CN (X:=[]) (A:=uZ A H.a (rs.map cf) his k) (B:=du A.w A.dw H.a)).symm.cons _).trans (.of_eq (bN _).symm),?_⟩;refine WS.cons (W1.fF (TV.sG (TV.use (PT.wO (PE.cast (v:=.str "together") (EV.m (PE.self 1 2 Hr) (Mt.dict 3 pV pK) (AV.p2 PE.str PE.str (CP.pJ (ds:=[]) 3 ⟨rfl,λu h=>(by contradiction)⟩))) rfl) PE.str) ?_)) rfl (WS.nil (WS.ret (EV.use PE.name (hR _ _ ⟨b,ms,rfl,nd,mi,rfl⟩)))));exact⟨rfl,rfl⟩
end
section
def CX{A B D H P:Cells}:(d::((A++(B++D))++(H++P))).Perm (((D++[d])++H)++(A++(B++P))):=by classical exact gz.mpr λa=>by simp only[gB,ll,vI];exact l6 0x41909350b92999543921909999
def Pa{H K P:Cells}:(H++((d::K)++P)).Perm ((K++(H++P))++[d]):=by classical exact gz.mpr λa=>by simp only[gB,ll,vI];exact l4 0x20b930919932199099
structure pO(g:HG)(D:aa)(s:Tab)(x:RD):Prop where
 nd:(s.map (·.1)).Nodup
 sz:s.length<1000
 jC:∀y∈x.l.vars,∃k,s.lookup y=af k
 low:∀y k,s.lookup y=af k->k<g.n
 sub:∀y∈x.r.vars,y∈x.l.vars
 pl:oy x.l
 pr:oy x.r
 dl:x.l.dep<=D
 dr:x.r.dep<=D
inductive Pb(P:HG->Prop)(a:aa)(K X:Cells)(v:V)(L:Cells):Prop|mk(H:HA)(g:HG)(t:bw):H.a=a->v=.bool t->P g->L=K++(aJ H g++X)->Pb P a K X v L
def nA.le(h:nA g T σ p m g'):g'.n<=g.n+p.wt one:=by have:=h.ct one;rwa [Wt.one,Wt.one]at this
def Ht(P:bh):dN (KK P) 501 "merge" 439:=.of (by kernel_rfl)
def adt{x:b8}(xm:(x.a,aV.inst 528 x.d)∈RC/\(x.d,aV.attrs (pN x.rd))∈RC)(I:HI g T [])(hT:T+1<100000)(ft:pO g D s x.rd)(hz:g.n+x.rd.l.wt one+x.rd.r.wt one<1000):Sp (D+9) 601 [.ref A.n,.ref x.a,e6 s] (Pb (uX g T (su s) x.rd) H.a (dg A H.a us his k) RC) (dg A H.a us his k++(aJ H g++RC)):=by have up:∀{Y:Cells}{q:aa×aV},q∈RC->q∈dg A H.a us his k++(Y++RC):=λh=>bC _ (bC _ h);refine Sp.eE adb λR hR=>WS.cons (W1.set (EV.bi (.type "dict") kt (AV.p1 PE.name (CV.O8 ft.nd ft.sz λd=>?_))));refine WS.cons (W1.fF (TV.cmp .NotEq (EV.use (PE.rule PE.name ⟨.tail _ (up xm.1),.tail _ (up xm.2)⟩ λP=>(nB P).2.2.2) (EV.use (EV.tuple (AV.p0 ⟨cF _,rfl,rfl⟩)) (λX w env l st R=>Xb ⟨_,R,aD,rfl,rfl,rfl⟩)))) rfl (WS.nil ?_));refine WS.cons (W1.qG (TV.cmp .NotEq (EV.comp (EV.use (PE.rule PE.name ⟨.tail _ (up xm.1),.tail _ (up xm.2)⟩ λP=>(nB P).2.2.2) (cT.pure (xs:=([]:ag aa)) (λu=>.none) (λu=>aD) (λu=>.none) .tup cZ (by decide) (.inl (d8 _ _ rfl)) (λx hx=>(by contradiction)) λa=>EV.list (AV.p0 ⟨cF _,λb=>BV.MR (us:=[]) 1 0 (aA aD rfl ?_)⟩))))));refine WS.nil (WS.keep (G:=[_,_]) (b6 (l₁:=[_,_])) ?_);refine WS.cons (W1.sE ["left","right"] (EV.tuple (AV.cons (EV.drop (EV.m (PE.self 1 2 O9) (Mt.inst 10 11 y7) (AV.p2 (PE.rule PE.name ⟨.tail _ (up xm.1),.tail _ (up xm.2)⟩ λP=>(nB P).2.1) PE.name (CV.call (CE x.rd.l (H:=H) (a:=A.p) (dx:=A.dp) ft.dl ft.pl I ft.jC ft.low ((br (dE _ _) hz))) (CX (A:=uZ A H.a us his k) (B:=du A.w A.dw H.a)) (λv L z=>?_) (dF.mpr ((bq _))))))))));obtain⟨H1,g1,m,ha,rfl,P1,rfl⟩:=z;have l1:=P1.le;refine⟨(d,.dict (d0 s))::(dg A H.a us his k++(aJ H1 g1++RC)),[],(CX (d:=(d,.dict (d0 s))) (A:=uZ A H.a us his k) (B:=du A.w A.dw H.a) (D:=iA A.p A.dp H.a)).symm.trans (.of_eq (bN _).symm),?_⟩;have up:∀{Y:Cells}{q:aa×aV},q∈RC->q∈dg A H1.a us his k++(Y++RC):=λh=>bC _ (bC _ h);rw[←ha];refine AV.cons (EV.drop (EV.m (PE.self 1 2 O9) (Mt.inst 10 11 y7) (AV.p2 (PE.rule PE.name ⟨.tail _ (up xm.1),.tail _ (up xm.2)⟩ λP=>(nB P).2.2.1) PE.name (CV.call (CE x.rd.r (H:=H1) (a:=A.p) (dx:=A.dp) ft.dr ft.pr P1.hi (λy hy=>ft.jC y (ft.sub y hy)) (λy k h=>bj (ft.low y k h) P1.gr.le) (l4 0x3e83a2398109313e83a210992 hz l1)) (CX (A:=uZ A H1.a us his k) (B:=du A.w A.dw H1.a)) (λv L z=>?_) (dF.mpr ((bq _)))))));obtain⟨H2,g2,n,hb,rfl,P2,rfl⟩:=z;have l2:=P2.le;refine⟨(d,.dict (d0 s))::(dg A H1.a us his k++(aJ H2 g2++RC)),[],(CX (d:=(d,.dict (d0 s))) (A:=uZ A H1.a us his k) (B:=du A.w A.dw H1.a) (D:=iA A.p A.dp H1.a)).symm.trans (.of_eq (bN _).symm),AV.nil ⟨aL rfl,⟨rfl,?_⟩⟩⟩;have up:∀{Y:Cells}{q:aa×aV},q∈RC->q∈dg A H2.a us his k++(Y++RC):=λh=>bC _ (bC _ h);rw[←hb];refine WS.ret (EV.drop (EV.m (PE.self 1 2 CW) (Mt.inst 12 13 Ht) (AV.p3 PE.name PE.name (EV.tuple (AV.p3 PE.str (PE.rule PE.name ⟨.tail _ (up xm.1),.tail _ (up xm.2)⟩ λP=>(nB P).1) (EV.bi (.type "tuple") kt (AV.p1 PE.name CP.O6)) ⟨aL rfl,rfl,rfl⟩)) (CV.call (Hq (H:=H2) P2.hi hT (bj P1.lt P2.gr.le) P2.lt) (fj (A:=(d,.dict (d0 s))::dg A H2.a us his k)) (λv L z=>?_) (dF.mpr ((ie _ _)))))));obtain⟨H3,g3,hc,⟨⟨t,rfl⟩,P3⟩,rfl⟩:=z;refine⟨dg A H2.a us his k++(aJ H3 g3++RC),[(d,.dict (d0 s))],Pa,hR _ _ ⟨H3,g3,t,hc.trans (hb.trans ha),rfl,.mk' P1 P2 P3,?_⟩⟩;rw[hb,ha]
end
section
inductive eQ(g:HG)(T:aa):ag (RD×Tab)->HG->aa->Prop|nil:HI g T []->eQ g T [] g T|snoc{xs:ag (RD×Tab)}{g1 g2:HG}{T1:aa}{x:RD}{s:Tab}:eQ g T xs g1 T1->uX g1 T1 (su s) x g2->eQ g T (xs++[(x,s)]) g2 (T1+1)
abbrev gZ(x:RD):aa:=x.l.wt one+x.r.wt one
def uX.le(h:uX g T σ x g'):g'.n<=g.n+gZ x:=by refine vR h.pt λg1 g2 m n A B C=>?_;have h1:=A.le;have h2:=B.le;rw[C.eq];lia
def eQ.out(h:eQ g T xs g' T'):HI g' T' []/\Grow g g'/\T'=T+xs.length/\g'.n<=g.n+(xs.map λp=>gZ p.1).sum:=by induction h with|nil I=>exact(ip I .refl rfl (bq _))|@snoc xs g1 g2 T1 x s A B ih=>refine il ih λu h2 h3 h4=>?_;refine(ip B.hi (h2.trans B.gr) (by rw[bD,h3];rfl) ?_);rw[cy,nF];exact bG B.le (bG (Aa h4 _) (e9 (xE ..)))
def eQ.trans{g1 g2:HG}(h:eQ g T xs g1 T1)(k:eQ g1 T1 ys g2 T2):eQ g T (xs++ys) g2 T2:=by induction k with|nil I=>rw[bN];exact h|snoc A B ih=>rw[←bW];exact .snoc ih B
def pO.grow(h:pO g D s x)(G:Grow g g'):pO g' D s x:={h with low:=λy k e=>bj (h.low y k e) G.le}
def adu(P:bh):dN (KK P) 623 "is_full" 589:=.of (by kernel_rfl)
def adw(P:bh):dN (KK P) 623 "apply" 601:=.of (by kernel_rfl)
abbrev alL(n j fl:aa)(c:aa):Lc:=.cons "self" (.ref n) (.cons "k" (nv j) (.cons "found" (.ref fl) (.cons "joined" (nv c) .nil)))
inductive Hu(a:aa)(g0:HG)(T0:aa)(x:RD)(ms:ag cI)(rest:ag V)(b:HA×HG×aa):Prop|mk(dn rs:ag cI):b.1.a=a->ms=dn++rs->rest=rs.map cU->eQ g0 T0 (dn.map λq=>(x,q.2)) b.2.1 (T0+dn.length)->Hu a g0 T0 x ms rest b
inductive Pc(A:NA)(a:aa)(us his:ag V)(kk:aa)(RC:Cells)(g0:HG)(T0:aa)(x:RD)(ms:ag cI)(v:V)(L:Cells):Prop|mk(H:HA)(g:HG)(j:aa)(e:V):v=nv j->H.a=a->eQ g0 T0 (ms.map λq=>(x,q.2)) g (T0+ms.length)->L=dg A a us (his++[e]) kk++(aJ H g++RC)->Pc A a us his kk RC g0 T0 x ms v L
def Hv{ms:ag cI}:((ms.map λq=>(x,q.2)).map λp:RD×Tab=>gZ p.1).sum=ms.length*gZ x:=by rw[dQ];induction ms with|nil=>rw[Am,R6];rfl|cons m ms ih=>rw[jk,vK,ih,lU,Ax,rC];rfl
def adx{rs:ag b8}{kk T D j fl:aa}(hx:rs[j]?=af x)(rz:rs.length<60)(xm:(x.a,aV.inst 528 x.d)∈RC/\(x.d,aV.attrs (pN x.rd))∈RC)(fm:(fl,aV.list (ms.map cU))∈RC)(I:HI g T [])(hT:T+ms.length<100000)(ft:∀q∈ms,pO g D q.2 x.rd)(hz:g.n+ms.length*gZ x.rd<1000)(mz:ms.length<1000)(zh:his.length<1000):Sp (D+10) 608 [.ref A.n,nv j,.ref fl] (Pc A H.a (rs.map cf) his kk RC g T x.rd ms) (dg A H.a (rs.map cf) his kk++(aJ H g++RC)):=by
 have uz:(rs.map cf).length<=16777216:=by rw[aN];exact bF (bj rz (aL rfl))
 have mz':(ms.map cU).length<=16777216:=by rw[aN];exact bF (bj mz (aL rfl))
 have up:∀{h:aa}{Y:Cells}{q:aa×aV},q∈RC->q∈dg A h (rs.map cf) his kk++(Y++RC):=λh=>bC _ (bC _ h);refine Sp.eE ade λR hR=>WS.cons (W1.set (EV.use (PE.nat 0) ?_));refine WS.cons (W1.for (EV.use PE.name ⟨.list (vs:=ms.map cU) (up fm) mz',λb:HA×HG×aa=>alL A.n j fl b.2.2,λb=>dg A H.a (rs.map cf) his kk++(aJ b.1 b.2.1++RC),Hu H.a g T x.rd ms,(H,g,0),⟨[],ms,rfl,rfl,rfl,.nil I⟩,rfl,rfl,λv rest b z=>⟨up fm,?_⟩,λb z=>⟨up fm,?_⟩⟩) (.inr (pd _ _ _ rfl)));·
  obtain⟨dn,rt,ha,e,er,ap⟩:=z;obtain⟨H1,g1,c⟩:=b;have ha:H1.a=H.a:=ha;have ap:eQ g T (dn.map λq=>(x.rd,q.2)) g1 (T+dn.length):=ap;induction rt using b7 with
   |nil=>nomatch er|cons q rt=>
    obtain⟨rfl,rfl⟩:=cq er;refine il ap.out λI1 G1 u n1=>?_;rw[Hv]at n1;have dl:dn.length+1<=ms.length:=by simp only[e,bD,lU];exact Q7 (i8 _)
    have dm:dn.length*gZ x.rd+gZ x.rd<=ms.length*gZ x.rd:=by rw[←Ax];exact pX _ dl
    have z1:g1.n+x.rd.l.wt one+x.rd.r.wt one<1000:=by have:gZ x.rd=x.rd.l.wt one+x.rd.r.wt one:=rfl;lia
    refine(aA _ (.tup _ _ ["c","subst"] rfl (λu=>rfl) rfl) ?_);rw[←ha];refine WS.cons (W1.qG (TV.sG (TV.use (PT.not (PT.of (EV.m PE.name (Mt.inst 0 1 adu) (AV.p0 (CP.call (adq (H:=H1) (g:=g1) I1.ok (l5 0x27104a2714391309213e83a1092 hz n1 dm)) (.of_eq (bW ..).symm) (dF.mpr ((ie _ _)))))))) ((a0 rfl).mpr (TV.plain (EV.m PE.name (Mt.inst 0 1 adw) (AV.p2 (PE.item (us:=rs.map cf) 3 (PE.self 0 1 w8) PE.name (by rw[jh,hx];rfl) uz) PE.name (CV.at ((adt (H:=H1) xm I1 (l3 0x186a05a209d812d1186a05a1092 hT dl) ((ft q (e▸bC _ aR)).grow G1) z1).mono λv L z=>?_) (dF.mpr ((bq _)))))))))));obtain⟨H2,g2,t,hb,rfl,A2,rfl⟩:=z;have nx:∀c',Hu H1.a g T x.rd ms (rt.map cU) (H2,g2,c'):=λc'=>⟨dn++[q],rt,hb,by rw[e,bW];rfl,rfl,by rw[cy,bD];exact .snoc ap A2⟩;refine(aA t rfl ?_);induction t with|true=>exact WS.cons (W1.set (EV.use (PE.add PE.name (PE.nat 1)) (WS.nil (WS.fin (bH ((H2,g2,c+1)) rfl rfl (nx _)) rfl))))|false=>exact WS.nil (WS.fin (bH ((H2,g2,c)) rfl rfl (nx _)) rfl)
 ·obtain⟨dn,rt,ha,e,er,ap⟩:=z;obtain⟨H1,g1,c⟩:=b;have ha:H1.a=H.a:=ha;have ap:eQ g T (dn.map λq=>(x.rd,q.2)) g1 (T+dn.length):=ap;obtain rfl:=f6.mp er.symm;rw[bN]at e;subst e;obtain⟨i,hi⟩:=oP.mp (up (h:=H.a) (Y:=aJ H1 g1) fm);refine WS.cons (W1.expr (EV.m (PE.self 0 1 adl) (Mt.list (vs:=his) 4 lQ lJ) (AV.cons (EV.tuple (AV.cons (EV.use (PE.self 0 1 Hs) (AV.p3 (PE.rule (PE.item (us:=rs.map cf) 3 (PE.self 0 1 w8) PE.name (by rw[jh,hx];rfl) uz) ⟨up xm.1,up xm.2⟩ λP=>(nB P).1) (EV.bi (.builtin "len") kb (AV.p1 PE.name (CP.len i (aN _) ((bF (bj mz (aL rfl)))) hi))) PE.name ⟨aL rfl,AV.nil (CV.append (us:=his) 4 ?_ ((lp _ zh)))⟩)))))));exact WS.ret (EV.use PE.name (hR _ _ ⟨H1,g1,c,_,rfl,ha,ap,rfl⟩))
end
section
def Pd(g:HG)(x:RD)(ms:ag cI):Prop:=ms.Nodup/\∀q,q∈ms↔FM g x.l q
abbrev Fo:=aa×ag cI
def oE(fs:ag Fo):Cells:=fs.map λf=>(f.1,.list (f.2.map cU))
noncomputable abbrev gI(f:Fo):V:=.ref f.1
noncomputable def rowOf(p:RD×ag cI):ag (RD×Tab):=p.2.map λq=>(p.1,q.2)
noncomputable def cX(rs:ag b8)(fs:ag Fo):ag (RD×ag cI):=(rs.zip fs).map λp=>(p.1.rd,p.2.2)
def rows(zs:ag (RD×ag cI)):ag (RD×Tab):=zs.flatMap rowOf
def w9{i:aa}(h:rs[i]?=af x)(k:fs[i]?=af f):(cX rs fs)[i]?=af (x.rd,f.2):=by rw[jh,(Q2 (z:=(x,f))).mpr (dD h k)];rfl
def take_snoc{α:Type}{l:ag α}{x:α}(h:l[i]?=af x):l.take (i+1)=l.take i++[x]:=by rw[List.take_succ,h];rfl
def CY:rows (zs++[p])=rows zs++rowOf p:=by delta rows;rw[Dx,Ah,List.flatMap_nil,bN]
def wz(p:RD×ag cI):aa:=p.2.length*gZ p.1
def ady:((rows zs).map λp=>gZ p.1).sum=(zs.map wz).sum:=by induction zs with|nil=>rfl|cons p zs ih=>unfold rows at ih⊢;simp only[Ah,cy,nF,ih,vK];exact aO (·+_) Hv
def Pe:(rows zs).length=(zs.map λp=>p.2.length).sum:=by induction zs with|nil=>rfl|cons p zs ih=>unfold rows at ih⊢;rw[Ah,bD,ih,jk,vK];rw[aN]
def Pf{α:Type}{l:ag α}{w:α->aa}:((l.take i).map w).sum<=(l.map w).sum:=by rw[(by rw[←cy,Rd]:l.map w=(l.take i).map w++(l.drop i).map w),nF];exact dE ..
def CZ{c:RD->aa}:∀{rs:ag b8}{fs:ag Fo},(∀(i:aa)(x:b8)(f:Fo),rs[i]?=af x->fs[i]?=af f->w (x.rd,f.2)<=c x.rd)->((cX rs fs).map w).sum<=(rs.map λx=>c x.rd).sum:=by intro rs;induction rs with|nil=>exactλu=>cF _|cons x rs ih=>intro fs h;induction fs using b7 with|nil=>exact cF _|cons f fs=>exact vJ (h 0 x f rfl rfl) (ih (fs:=fs) λi y f' e1 e2=>h (i+1) y f' e1 e2)
def Hw(h:bS m=dn++k::rs):k=dn.length/\k<m:=by refine dh (iQ.mp (by rw[h,Dn (bq _),IT];rfl:(bS m)[dn.length]?=af k)) λh3 h4=>?_;rw[Rq]at h4;rw[iR]at h3;exact⟨h4.symm,h4▸h3⟩
inductive Round(g:HG)(T:aa)(xs:ag (RD×Tab))(g':HG):Prop|mk(g1:HG):eQ g T xs g1 (T+xs.length)->pI g1 (T+xs.length) g'->Round g T xs g'
section
variable{E:EF}{e:aT}{r a:aa}{l:Lc}{L:Cells}
def PT.adz(h1:PE E (e1 e) r l L (.ref a))(he:aB (e=.Compare (e1 e) [.IsNot] [e2 e] e.pos) tR)(hc:aB (e2 e=.Constant .none (kk (e2 e)) (e2 e).pos) tR)(hm:aB (i7 .IsNot (e2 e)=aD) tF):PT E e r l L ai:=TV.cmp .IsNot (EV.use h1 (EV.use (PE.nul hc) λX w env l st R=>Uy ⟨_,R,_,rfl,rfl,rfl⟩)) he hm
end
def adA{K H R F:Cells}:(s::(K++(H++(R++F)))).Perm ((K++(H++R))++(s::F)):=by classical exact gz.mpr λa=>by simp only[gB,ll];exact l5 0x4392190994329190999
def adB{K H R F:Cells}:((b::(K++(H++R)))++(s::F)).Perm ((s::(K++(H++(R++(F++[b])))))++[]):=by classical exact gz.mpr λa=>by simp only[gB,ll];exact l6 0xb530b94929190999549321909999
def zD(P:bh):dN (KK P) 501 "settle" 453:=.of (by kernel_rfl)
def adC(P:bh):dN (KK P) 623 "matches" 596:=.of (by kernel_rfl)
def adD(P:bh):dN (KK P) 623 "apply_all" 608:=.of (by kernel_rfl)
structure RnOk(g:HG)(T D:aa)(rs:ag b8)(jb:RD->aa):Prop where
 dl:∀x∈rs,x.rd.l.dep<=D
 pl:∀x∈rs,oy x.rd.l
 vs:∀x∈rs,x.rd.l.vars.length<64
 bd:∀x∈rs,x.rd.l.bd g.n<1000000
 qU:∀x∈rs,∀c,c<g.n->∀ms:ag Tab,ms.Nodup->(∀s∈ms,FR g x.rd.l c s)->ms.length<64
 fit:∀x∈rs,∀q,FM g x.rd.l q->pO g D q.2 x.rd
 cp:∀x∈rs,∀ms:ag cI,ms.Nodup->(∀q∈ms,FM g x.rd.l q)->ms.length<=jb x.rd
 cz:∀x∈rs,jb x.rd<1000
 sz:g.n+(rs.map λx=>jb x.rd*gZ x.rd).sum<1000
 tz:T+(rs.map λx=>jb x.rd).sum<100000
def mF(g:HG)(rs:ag b8)(fs:ag Fo):Prop:=∀(i:aa)(x:b8)(f:Fo),rs[i]?=af x->fs[i]?=af f->Pd g x.rd f.2
inductive Pg(g:HG)(rs:ag b8)(rest ys:ag V)(fs:ag Fo):Prop|mk(dn rt:ag aa):bS rs.length=dn++rt->rest=rt.map nv->ys=fs.map gI->fs.length=dn.length->mF g rs fs->Pg g rs rest ys fs
def mF.snoc{g:HG}{rs:ag b8}{fs:ag Fo}{f:Fo}{x:b8}(h:mF g rs fs)(hx:rs[fs.length]?=af x)(k:Pd g x.rd f.2):mF g rs (fs++[f]):=λi y f' e1 e2=>by
 rcases agq i fs.length with q|q|q;·rw[xt q]at e2;exact h i y f' e1 e2
 ·subst q;rw[Dn (bq _),IT]at e2;rw[←bR e2];rw[←bR (hx.symm.trans e1)];exact k
 ·rw[nD (by exact bD▸q)]at e2;nomatch e2
inductive Ph(a:aa)(g:HG)(T:aa)(rs:ag b8)(fs:ag Fo)(hl:aa)(rest ys:ag V)(b:HA×HG×ag V):Prop|mk(dn rt ns:ag aa):bS rs.length=dn++rt->rest=rt.map nv->ys=ns.map nv->ns.length=dn.length->b.1.a=a->b.2.2.length<=hl+dn.length->eQ g T (rows ((cX rs fs).take dn.length)) b.2.1 (T+(rows ((cX rs fs).take dn.length)).length)->Ph a g T rs fs hl rest ys b
abbrev Pj:ag cG:=b2 (dG (b1 (sB 23 5)).tail.tail)
abbrev C0(n sr:aa):Lc:=.cons "self" (.ref n) (.cons "some" (.ref sr) (.cons "joined" (nv 0) .nil))
section
variable{A:NA}{H:HA}{g:HG}{his:ag V}{rs:ag b8}{k T D sr:aa}{jb:RD->aa}{l:Lc}{R:V->Cells->Prop}{N:Lc->Cells->Prop}
def adE(rz:rs.length<60)(I:HI g T [])(hn:g.n<63)(ok:RnOk g T D rs jb)(kk:∀(ls:aa)(fs:ag Fo),fs.length=rs.length->mF g rs fs->N ((C0 A.n sr).put "lists" (.ref ls)) ((ls,.list (fs.map gI))::(sr,.range 0 (rs.length:aa))::(dg A H.a (rs.map cf) his k++(aJ H g++(fG rs++oE fs))))):W1 (.fn (sB 23 5) 613) (dG Pj) (D+10) R N (C0 A.n sr) ((sr,.range 0 (rs.length:aa))::(dg A H.a (rs.map cf) his k++(aJ H g++fG rs))):=by
 refine W1.set (EV.comp (EV.use PE.name ⟨λfs:ag Fo=>(sr,.range 0 (rs.length:aa))::(dg A H.a (rs.map cf) his k++(aJ H g++(fG rs++oE fs))),Pg g rs,[],.uC aR ((lp _ rz)),⟨[],bS rs.length,rfl,rfl,rfl,rfl,λi x f u e=>(by contradiction)⟩,by rw[show oE []=[]from rfl,bN],λv rest ys fs z=>⟨cZ,?_⟩,λys fs z=>⟨cZ,λls=>?_⟩,.inl (d8 _ _ rfl)⟩));·obtain⟨dn,rt,e,er,rfl,fl,ao⟩:=z;induction rt using b7 with|nil=>nomatch er|cons i rt=>obtain⟨rfl,rfl⟩:=cq er;obtain⟨i1,i2⟩:=Hw e;refine dh (show∃x,rs[i]?=af x from⟨_,gy i2⟩) λx hx=>?_;have xm:=e8 hx;refine(aA _ (.name _ _ rfl rfl) (ia.nil ((a0 rfl).mpr (EV.drop (EV.m PE.name (Mt.inst 1 2 adC) (AV.p1 PE.name (CV.call (ads (H:=H) (his:=his) (k:=k) (D:=D) hx rz I (ok.dl x xm) (ok.pl x xm) hn (ok.vs x xm) (ok.bd x xm) (ok.qU x xm)) (adA (s:=(sr,.range 0 (rs.length:aa)))) (λv L z=>?_) (dF.mpr (by lia)))))))));obtain⟨b,ms,rfl,nd,mi,rfl⟩:=z;refine⟨_,[],adB,by rw[aN];exact l4 0x10000007a180322342133c2a02 rz fl i1 i2,fs++[(b,ms)],⟨dn++[i],rt,by rw[e,bW];rfl,rfl,by rw[cy];rfl,by simp only[bD,fl];rfl,ao.snoc (by exact fl.symm▸i1▸hx) ⟨nd,mi⟩⟩,?_⟩;delta oE;rw[cy];rfl
 ·obtain⟨dn,rt,e,er,rfl,fl,ao⟩:=z;obtain rfl:=f6.mp er.symm;rw[bN]at e;exact kk ls fs (by rw[fl,←e,iR]) ao
end
end
section
inductive Pk(A:NA)(a:aa)(g:HG)(T:aa)(rs:ag b8)(hl k:aa)(v:V)(L:Cells):Prop|mk(H':HA)(g':HG)(fs:ag Fo)(zE:ag V):H'.a=a->fs.length=rs.length->mF g rs fs->Round g T (rows (cX rs fs)) g'->zE.length<=hl+rs.length->L=dg A a (rs.map cf) zE (k+1)++(aJ H' g'++fG rs)->Pk A a g T rs hl k v L
def adF{X:Cells}:(x::y::X).Perm (X++[x,y]):=b6 (l₁:=[_,_])
def u0(g:HG)(rs:ag b8)(fs:ag Fo):Prop:=∀(i:aa)(x:b8)(f:Fo),rs[i]?=af x->fs[i]?=af f->f.2.Nodup/\∀q∈f.2,FM g x.rd.l q
def mF.sub(h:mF g rs fs):u0 g rs fs:=λi x f h1 h2=>⟨(h i x f h1 h2).1,λq hq=>((h i x f h1 h2).2 q).mp hq⟩
section
variable{A:NA}{H:HA}{g:HG}{his:ag V}{rs:ag b8}{fs:ag Fo}{k T D sr ls:aa}{jb:RD->aa}{R:V->Cells->Prop}{N:Lc->Cells->Prop}
def Pm{g1:HG}(ok:RnOk g T D rs jb)(ao:u0 g rs fs)(hx:rs[i]?=af x)(hf:fs[i]?=af f)(ap:eQ g T (rows ((cX rs fs).take i)) g1 (T+(rows ((cX rs fs).take i)).length)):g1.n+f.2.length*gZ x.rd<1000/\T+(rows ((cX rs fs).take i)).length+f.2.length<100000/\f.2.length<1000/\∀q∈f.2,pO g1 D q.2 x.rd:=by
 have xm:=e8 hx;obtain⟨nd,mi⟩:=ao i x f hx hf;refine il ap.out λI1 G1 u n1=>?_;have cl:=λi x f h1 h2=>by refine bx (ao i x f h1 h2) λnd mi=>?_;exact ok.cp x (e8 h1) f.2 nd mi
 have t1:=Pf (l:=cX rs fs) (w:=wz) (i:=i+1);have t2:=Pf (l:=cX rs fs) (w:=λp=>p.2.length) (i:=i+1);simp only[take_snoc (w9 hx hf),cy,nF]at t1 t2;rw[ady]at n1;rw[Pe];have e1:([(x.rd,f.2)].map wz).sum=f.2.length*gZ x.rd:=rfl;have e2:([(x.rd,f.2)].map λp:RD×ag cI=>p.2.length).sum=f.2.length:=rfl;exact(ip (l6 0x3e83a50983e83a41923529143121901 n1 (CZ (w:=wz) (c:=λx=>jb x*gZ x) λi x f h1 h2=>pX (gZ x.rd) (cl i x f h1 h2)) t1 ok.sz) (l5 0x186a05a324998186a05a149203291101 (CZ (w:=λp=>p.2.length) (c:=jb) cl) t2 ok.tz) (br (cl i x f hx hf) (ok.cz x xm)) (λq hq=>(ok.fit x xm q (mi q hq)).grow G1))
def adG(rz:rs.length<60)(I:HI g T [])(ok:RnOk g T D rs jb)(fl:fs.length=rs.length)(ao:mF g rs fs)(hz:his.length<900)(kk:∀(H':HA)(g':HG)(zE:ag V)(v:V),H'.a=H.a->zE.length<=his.length+rs.length->eQ g T (rows (cX rs fs)) g' (T+(rows (cX rs fs)).length)->N (((C0 A.n sr).put "lists" (.ref ls)).put "joined" v) ((ls,.list (fs.map gI))::(sr,.range 0 (rs.length:aa))::(dg A H.a (rs.map cf) zE k++(aJ H' g'++(fG rs++oE fs))))):W1 (.fn (sB 23 5) 613) (dG Pj.tail) (D+10) R N ((C0 A.n sr).put "lists" (.ref ls)) ((ls,.list (fs.map gI))::(sr,.range 0 (rs.length:aa))::(dg A H.a (rs.map cf) his k++(aJ H g++(fG rs++oE fs)))):=by
 have fz:(fs.map gI).length<=16777216:=by rw[aN];exact l2 0x10000007a170133c2a02 rz fl
 refine W1.set (EV.drop (EV.bi (.builtin "sum") kb (AV.cons (EV.comp (EV.use PE.name ⟨λb:HA×HG×ag V=>(ls,.list (fs.map gI))::(sr,.range 0 (rs.length:aa))::(dg A H.a (rs.map cf) b.2.2 k++(aJ b.1 b.2.1++(fG rs++oE fs))),Ph H.a g T rs fs his.length,(H,g,his),.uC (.tail _ (.head _)) ((lp _ rz)),⟨[],bS rs.length,[],rfl,rfl,rfl,rfl,rfl,bq _,.nil I⟩,rfl,λv rest ys b z=>⟨cZ,?_⟩,λys b z=>⟨cZ,λab=>?_⟩,.inl (d8 _ _ rfl)⟩)))));·
  obtain⟨dn,rt,ns,e,er,rfl,nl,ha,hl,ap⟩:=z;obtain⟨H1,g1,zF⟩:=b;have ha:H1.a=H.a:=ha;have hl:zF.length<=his.length+dn.length:=hl;have ap:eQ g T (rows ((cX rs fs).take dn.length)) g1 (T+(rows ((cX rs fs).take dn.length)).length):=ap;induction rt using b7 with
   |nil=>nomatch er|cons i rt=>
    obtain⟨rfl,rfl⟩:=cq er;obtain⟨i1,i2⟩:=Hw e;rw[←i1]at ap hl;obtain⟨x,hx⟩:∃x,rs[i]?=af x:=⟨_,gy i2⟩;obtain⟨f,hf⟩:∃f,fs[i]?=af f:=⟨_,gy (fl▸i2)⟩;have xm:=uY (e8 hx);have fm:(f.1,aV.list (f.2.map cU))∈oE fs:=bt.mpr (aA f (e8 hf) rfl);refine il (Pm ok ao.sub hx hf ap) λq1 q2 q3 q4=>?_;have dz:dn.length<=rs.length:=by exact i1▸(bF i2)
    have it:∀{E:EF}{l:Lc}{M:Cells}{e:aT},PE E (e1 e) (D+10) l ((ls,.list (fs.map gI))::M) (.ref ls)->PE E (e2 e) (D+10) l ((ls,.list (fs.map gI))::M) (nv i)->e=.Subscript (e1 e) (e2 e) e.pos->yD (e2 e)->PE E e (D+10) l ((ls,.list (fs.map gI))::M) (.ref f.1):=λh1 h2 h3 h4=>PE.item (us:=fs.map gI) 0 h1 h2 (by rw[jh,hf];rfl) fz rfl h3 h4;refine(aA _ (.name _ _ rfl rfl) ?_);rw[←ha];refine ia.one (TV.use (PT.adz (it PE.name PE.name rfl λu u=>⟨_,rfl⟩)) ((a0 rfl).mpr (EV.drop (EV.m PE.name (Mt.inst 2 3 adD) (AV.p2 PE.name (it PE.name PE.name rfl λu u=>⟨_,rfl⟩) (CV.call (adx (H:=H1) (kk:=k) (D:=D) (his:=zF) (RC:=fG rs++oE fs) hx rz ⟨de _ xm.1,de _ xm.2⟩ (bC _ fm) ap.out.1 q2 q4 q1 q3 (l4 0x3e83a28032319213843a123c2a02 rz hz hl i2)) adF (λv L z=>?_) (dF.mpr (bq _))))))));obtain⟨H2,g2,j,w,rfl,hb,Hx,rfl⟩:=z;have len:(rows ((cX rs fs).take (i+1))).length=(rows ((cX rs fs).take i)).length+f.2.length:=by rw[take_snoc (w9 hx hf),CY,bD];exact aO (_+·) (aN _)
    refine⟨_,[],b6.trans (.of_eq (bN _).symm),?_,(H2,g2,zF++[w]),⟨dn++[i],rt,ns++[j],by rw[e,bW];rfl,rfl,by rw[cy];rfl,by simp only[bD,bD,nl];rfl,hb,?_,?_⟩,rfl⟩;·rw[aN];exact l4 0x10000007a180322342133c2a02 rz nl i1 i2
    ·simp only[bD,bD,←i1];exact mO hl
    ·rw[bD,←i1];refine(?_:eQ g T (rows ((cX rs fs).take (i+1))) g2 (T+(rows ((cX rs fs).take (i+1))).length));rw[len,←xE,take_snoc (w9 hx hf),CY];exact ap.trans Hx
 ·obtain⟨dn,rt,ns,e,er,rfl,nl,ha,hl,ap⟩:=z;obtain⟨H1,g1,zF⟩:=b;have ha:H1.a=H.a:=ha;have hl:zF.length<=his.length+dn.length:=hl;have ap:eQ g T (rows ((cX rs fs).take dn.length)) g1 (T+(rows ((cX rs fs).take dn.length)).length):=ap;obtain rfl:=f6.mp er.symm;rw[bN]at e;have dl:dn.length=rs.length:=by rw[←e,iR]
  rw[dl]at hl ap;have zl:(cX rs fs).length=rs.length:=by unfold cX;rw[aN,List.length_zip,fl,ahb]
  rw[z7 (e9 zl)]at ap;exact AV.nil (CP.to (CP.sum (ns:=ns.map Int.ofNat) 0 (by rw[dQ];rfl)) ⟨_,[_],b6 (l₁:=[_]),kk H1 g1 zF _ ha hl ap⟩)
end
end
section
def adH{K H R F:Cells}:(a::b::(K++(H++(R++F)))).Perm ((K++(H++R))++(a::b::F)):=by classical exact gz.mpr λx=>by simp only[gB,ll];exact l6 0x54399219099543291909999
def adI(rz:rs.length<60)(I:HI g T [])(hw:g.wt=[])(hn:g.n<63)(ok:RnOk g T D rs jb)(hz:his.length<900):Sp (D+11) 613 [.ref A.n] (Pk A H.a g T rs his.length k) (dg A H.a (rs.map cf) his k++(aJ H g++fG rs)):=by refine Sp.eE adf λR hR=>WS.cons (W1.sE ["joined","some"] (EV.tuple (AV.cons (EV.use (PE.nat 0) (AV.cons (EV.bi (.type "range") kt (AV.p1 (EV.bi (.builtin "len") kb (AV.p1 (PE.self 0 1 w8) (CP.len (us:=rs.map cf) 3 (aN _) (l1 0x10000007a073c2a02 rz)))) (CV.range (λsr=>AV.nil ⟨aL rfl,⟨rfl,?_⟩⟩) (l1 0x3b9aca008a083c2a02 rz)))))))));refine WS.cons (W1.expr (EV.m (PE.self 1 2 CW) (Mt.inst 12 13 zD) (AV.p0 (CV.call (y4 (H:=H) I) (fj (A:=(sr,.range 0 (rs.length:aa))::dg A H.a (rs.map cf) his k)) (λv L z=>?_) (dF.mpr (by lia))))));obtain⟨H1,g1,ha,⟨rfl,se,_,_,_⟩,rfl⟩:=z;clear a_3;obtain rfl:=se hw;refine WS.perm (M:=(sr,.range 0 (rs.length:aa))::(dg A H.a (rs.map cf) his k++(aJ H1 g1++fG rs))) (fj (B:=(sr,.range 0 (rs.length:aa))::dg A H.a (rs.map cf) his k)) ?_;rw[←ha];refine WS.cons (W1.fF (PT.wO (PE.cast (v:=.str "together") (EV.m (PE.self 1 2 Hr) (Mt.dict 3 pV pK) (AV.p2 PE.str PE.str (CP.pJ (ds:=[]) 3 ⟨rfl,λu h=>(by contradiction)⟩))) rfl) PE.str) (dS (by decide)) ?_);refine WS.cons (adE rz I hn ok λls fs fl ao=>?_);refine WS.cons (adG rz I ok fl ao hz λH2 g2 iX jv hb hl ap=>?_);rw[←hb];refine WS.cons (W1.expr (EV.m (PE.self 2 3 CW) (Mt.inst 13 14 zD) (AV.p0 (CV.call (y4 (H:=H2) ap.out.1) (fj (A:=(ls,.list (fs.map gI))::(sr,.range 0 (rs.length:aa))::dg A H2.a (rs.map cf) iX k)) (λv L z=>?_) (dF.mpr (by lia))))));obtain⟨H3,g3,hc,⟨rfl,st⟩,rfl⟩:=z;refine WS.nil (WS.perm (M:=(ls,.list (fs.map gI))::(sr,.range 0 (rs.length:aa))::(dg A H2.a (rs.map cf) iX k++(aJ H3 g3++(fG rs++oE fs)))) (fj (B:=(ls,.list (fs.map gI))::(sr,.range 0 (rs.length:aa))::dg A H2.a (rs.map cf) iX k)) ?_);refine WS.cons (W1.attr (EV.use (PE.add (PE.self 2 3 Hs) (PE.nat 1)) (EV.use PE.name ⟨2,3,λP=>(w7 P).2.2.1,rfl,rfl,rfl,?_⟩)));refine WS.ret (EV.drop (EV.use PE.name ⟨dg A H2.a (rs.map cf) iX (k+1)++(aJ H3 g3++fG rs),(ls,.list (fs.map gI))::(sr,.range 0 (rs.length:aa))::oE fs,adH (K:=dg A H2.a (rs.map cf) iX (k+1)),hR _ _ ⟨H3,g3,fs,iX,hc.trans (hb.trans ha),fl,ao,⟨g2,ap,st⟩,hl,?_⟩⟩));rw[hb,ha]
end
section
def adJ:FnAt 634 (sA 25) ["feed","many"]:=.of2
def Pn:FnAt 641 (sA 26) ["feed","deep"]:=.of2
def u4(P:bh):hH (KK P) fw "_law_dip"=af (af (.ref 634)):=by kernel_rfl
def u5(P:bh):lX (KK P) (.ref 634)=ai:=by kernel_rfl
def zG(P:bh):hH (KK P) fw "_law_term"=af (af (.ref 641)):=by kernel_rfl
def zH(P:bh):lX (KK P) (.ref 641)=ai:=by kernel_rfl
def adK(P:bh):hH (KK P) fw "_law_rules"=af (af (.ref 648)):=by kernel_rfl
def adL(P:bh):lX (KK P) (.ref 648)=ai:=by kernel_rfl
def Po(P:bh):hH (KK P) fw "_law_home"=af (af (.ref 653)):=by kernel_rfl
def Pq(P:bh):lX (KK P) (.ref 653)=ai:=by kernel_rfl
def Pr(P:bh):hH (KK P) fw "_law_are_within"=af (af (.ref 660)):=by kernel_rfl
def Pt(P:bh):lX (KK P) (.ref 660)=ai:=by kernel_rfl
def adM(P:bh):hH (KK P) fw "_law_new_round"=af (af (.ref 665)):=by kernel_rfl
def adN(P:bh):lX (KK P) (.ref 665)=ai:=by kernel_rfl
def adO(P:bh):hH (KK P) fw "Rule"=af (af (.ref 528)):=by kernel_rfl
def adP(P:bh):lX (KK P) (.ref 528)=ai:=by kernel_rfl
def adQ(P:bh):hH (KK P) fw "Runner"=af (af (.ref 623)):=by kernel_rfl
def adR(P:bh):lX (KK P) (.ref 623)=ai:=by kernel_rfl
def adS(P:bh):hH (KK P) fw "Changes"=af (af (.ref 289)):=by kernel_rfl
def adT(P:bh):lX (KK P) (.ref 289)=ai:=by kernel_rfl
def adU(P:bh):hH (KK P) fw "Placer"=af (af (.ref 566)):=by kernel_rfl
def adV(P:bh):lX (KK P) (.ref 566)=ai:=by kernel_rfl
def Pu(P:bh):hH (KK P) fw "Heap"=af (af (.ref 501)):=by kernel_rfl
def Pw(P:bh):lX (KK P) (.ref 501)=ai:=by kernel_rfl
section
variable{E:EF}{e:aT}{r a d:aa}{l:Lc}{L:Cells}{Q:V->Cells->Prop}{b c:bw}{x:bp}
def PE.mul(h1:PE E (e1 e) r l L (nv a))(h2:PE E (e2 e) r l L (nv d))(hz:d<1000000)(he:aB (e=.BinOp (e1 e) .Mult (e2 e) e.pos) tR):PE E e r l L (nv (a*d)):=PE.yF .Mult h1 h2 (λX w env l st R=>Up (IntMulOk.of_right (intBits_le_64 (by lia) (by lia))) ⟨_,R,rfl,rfl⟩) he
def zI{m:aa}(hm:0<m):x.fmod m=((x.fmod m).toNat:aa)/\(x.fmod m).toNat<m:=by have h1:=Int.fmod_nonneg_of_pos x (b:=(m:bp)) (by lia);have h2:=Int.fmod_lt_of_pos x (b:=(m:bp)) (by lia);lia
def PE.mod(h1:PE E (e1 e) r l L (.int x))(h2:PE E (e2 e) r l L (nv m))(hm:0<m)(he:aB (e=.BinOp (e1 e) .Mod (e2 e) e.pos) tR):PE E e r l L (nv (x.fmod m).toNat):=PE.yF .Mod h1 h2 (λX w env l st R=>Uq (by lia) ⟨_,R,aO V.int (zI hm).1,rfl⟩) he
def PT.or(h:PT E (a1 e) r l L b)(k:PT E (a2 e) r l L c)(he:aB (e=.BoolOp .Or [a1 e,a2 e] e.pos) tR):PT E e r l L (b||c):=TV.MS (TV.use h (by clear h;induction b with|true=>exact(a0 rfl).mpr ⟨rfl,rfl⟩|false=>exact(aX fH).mpr k)) he
end
def cN(fd sl spot:aa)(xs:ag bp):Cells:=[(fd,.list [.ref sl,nv spot]),(sl,.list (xs.map V.int))]
inductive Px(fd sl spot:aa)(xs:ag bp)(many:aa)(v:V)(L:Cells):Prop|mk(k:aa):k<many->v=nv k->L=cN fd sl (spot+1) xs->Px fd sl spot xs many v L
section
variable{fd sl spot many:aa}{xs:ag bp}
def u6(hm:0<many)(hs:spot<1000)(hx:xs.length<100):Sp 1 634 [.ref fd,nv many] (Px fd sl spot xs many) (cN fd sl spot xs):=by
 refine Sp.eE adJ λR hR=>WS.cons (W1.set (EV.use (PE.item (us:=[.ref sl,nv spot]) 0 PE.name (PE.nat 1) rfl (aL rfl)) ?_));refine WS.cons (W1.put (EV.use (PE.add PE.name (PE.nat 1)) (EV.use PE.name (EV.use (PE.nat 1) (km.list (us:=[.ref sl,nv spot]) 0 1 rfl (aL rfl) (aL rfl) ?_)))));by_cases q:spot<xs.length;·
  refine WS.cons (W1.jy (PT.cmp .Lt PE.name (EV.bi (.builtin "len") kb (AV.p1 (PE.item (us:=[.ref sl,nv (spot+1)]) 0 PE.name (PE.nat 0) rfl (aL rfl)) (CP.len (us:=xs.map V.int) 1 (aN _) ((bF (bj hx (aL rfl)))))))) (c7 q) (WS.ret (EV.use (PE.mod (x:=xs[spot]) (PE.item (us:=xs.map V.int) 1 (PE.item (us:=[.ref sl,nv (spot+1)]) 0 PE.name (PE.nat 0) rfl (aL rfl)) PE.name ?_ ?_) PE.name hm) (hR _ _ ⟨_,(zI hm).2,rfl,rfl⟩))));·rw[jh,gy q];rfl
  ·rw[aN];exact bF (bj hx (aL rfl))
 ·refine WS.cons (W1.fF (PT.cmp .Lt PE.name (EV.bi (.builtin "len") kb (AV.p1 (PE.item (us:=[.ref sl,nv (spot+1)]) 0 PE.name (PE.nat 0) rfl (aL rfl)) (CP.len (us:=xs.map V.int) 1 (aN _) ((bF (bj hx (aL rfl)))))))) (dS q) (WS.nil ?_));exact WS.ret (EV.use (PE.mod (PE.mod (PE.add (PE.add (PE.mul (PE.mul (PE.nat 7) PE.name ((lp _ hs))) PE.name ((lp _ hs))) (PE.mul (PE.nat 3) PE.name ((lp _ hs)))) (EV.bi (.builtin "len") kb (AV.p1 (PE.item (us:=[.ref sl,nv (spot+1)]) 0 PE.name (PE.nat 0) rfl (aL rfl)) (CP.len (us:=xs.map V.int) 1 (aN _) ((bF (bj hx (aL rfl)))))))) (PE.nat 103) (by decide)) PE.name hm) (hR _ _ ⟨_,(zI hm).2,rfl,rfl⟩))
end
noncomputable def jc:aa->ag Tm|0=>[.lf "a",.lf "b"]|d+1=>[.lf "a",.lf "b"]++((jc d).map (Tm.un "g")++(jc d).flatMap λt=>(jc d).map (Tm.bi "f" t))
noncomputable def cost:aa->aa|0=>1|d+1=>1+2*cost d
def Py(d i:aa)(h:i<2):∃t∈jc d,[aS (.lf "a"),aS (.lf "b")][i]?=af (aS t):=by
 have k:Tm.lf "a"∈jc d/\Tm.lf "b"∈jc d:=by induction d with|zero=>exact⟨aR,bK _ aR⟩|succ d=>exact⟨aR,bK _ aR⟩
 induction i using jo with|zero=>exact(aA _ k.1 rfl)|succ i=>obtain rfl:i=0:=l1 0xb092b0d2010 h;exact(aA _ k.2 rfl)
inductive Pz(fd sl spot:aa)(xs:ag bp)(d:aa)(v:V)(L:Cells):Prop|mk(t:Tm)(mG:aa):t∈jc d->v=aS t->mG<=spot+cost d->L=cN fd sl mG xs->Pz fd sl spot xs d v L
def adW(h:d<=2):1<=cost d/\cost d<=7:=by induction d using jo with|zero=>exact⟨bq _,aL rfl⟩|succ d=>induction d using jo with|zero=>exact⟨aL rfl,aL rfl⟩|succ d=>obtain rfl:d=0:=l1 0xb092b0dd1010 h;exact⟨aL rfl,aL rfl⟩
def PA{fd w r D:aa}(ge:[aS (.lf "a"),aS (.lf "b")][((w:bp).fmod 2).toNat]?=af (aS t))(h:R (aS t) L):WS (.fn (sA 26) 641) (b1 (dG (b1 (sA 26)).tail)) r R N (.cons "feed" (.ref fd) (.cons "deep" (nv D) (.cons "way" (nv w) .nil))) L:=WS.ret (EV.use (PE.oj (us:=[aS (.lf "a"),aS (.lf "b")]) (EV.tuple (AV.p2 (PE.tuple1 PE.str) (PE.tuple1 PE.str) ⟨aL rfl,rfl,rfl⟩)) (PE.mod (x:=w) PE.name (PE.nat 2) (by decide)) ge (aL rfl)) h)
def PB:∀(d:aa){fd sl spot:aa}{xs:ag bp},d<=2->spot+cost d<900->xs.length<100->Sp (d+2) 641 [.ref fd,nv d] (Pz fd sl spot xs d) (cN fd sl spot xs):=by
 intro d;induction d with
  |zero=>intro fd sl spot xs hd hs hx;refine Sp.eE Pn λR hR=>WS.cons (W1.set (EV.fn (AV.p2 PE.name (PE.nat 4) (CV.at ((u6 (sl:=sl) (xs:=xs) (by decide) ((bF (bj hs (aL rfl)))) hx).mono λv L z=>?_))) u4 u5));obtain⟨w,hw,rfl,rfl⟩:=z;refine aq (Py 0 _ (zI (x:=w) (m:=2) (by decide)).2) λt ht ge=>?_;exact WS.cons (W1.jy (PT.or (PT.cmp .Eq PE.name (PE.nat 0)) (PT.cmp .Lt PE.name (PE.nat 2))) rfl (PA ge (hR _ _ ⟨t,spot+1,ht,rfl,bq _,rfl⟩)))|succ d ih=>
   intro fd sl spot xs hd hs hx;refine bx (adW (d:=d) ((bF hd))) λc1 c2=>?_;have ce:cost (d+1)=1+2*cost d:=rfl;refine Sp.eE Pn λR hR=>WS.cons (W1.set (EV.fn (AV.p2 PE.name (PE.nat 4) (CV.at ((u6 (sl:=sl) (xs:=xs) (by decide) ((bj (br (dE _ _) hs) (aL rfl))) hx).mono λv L z=>?_) (dF.mpr ((i8 _))))) u4 u5));obtain⟨w,hw,rfl,rfl⟩:=z;have PC:PT (.fn (sA 26) 641) (sv (dG (b1 (sA 26)).tail)) (d+2) (.cons "feed" (.ref fd) (.cons "deep" (nv (d+1)) (.cons "way" (nv w) .nil))) (cN fd sl (spot+1) xs) (decide (d+1=0)||decide (w<2)):=PT.or (PT.cmp .Eq PE.name (PE.nat 0)) (PT.cmp .Lt PE.name (PE.nat 2));by_cases q:w<2;·
    refine aq (Py (d+1) _ (zI (x:=w) (m:=2) (by decide)).2) λt ht ge=>?_;refine WS.cons (W1.jy PC (by rw[c7 q,Aw]) ?_);have c3:spot+1<=spot+cost (d+1):=by rw[ce];exact l2 19911930843351
    exact(PA (fd:=fd) (w:=w) (D:=d+1) (L:=cN fd sl (spot+1) xs) ge (hR _ _ ⟨t,spot+1,ht,rfl,c3,rfl⟩))
   ·refine WS.cons (W1.fF PC (by rw[dS q,dS (RI d)];rfl) (WS.nil ?_));by_cases q2:w=2;·refine WS.cons (W1.jy (PT.cmp .Eq PE.name (PE.nat 2)) (c7 q2) (WS.ret (EV.tuple (AV.cons (EV.use PE.str (AV.cons (EV.fn (AV.p2 PE.name (PE.sub (a:=d+1) (d:=1) (k:=d) PE.name (PE.nat 1) (rC d 1)) (CV.at ((ih (sl:=sl) (xs:=xs) ((bF hd)) (l3 0x3843a20d98221c1b9143843a1092 hs ce) hx).mono λv L z=>?_) (dF.mpr ((bq _))))) zG zH)))))));obtain⟨t,sp,ht,rfl,hp,rfl⟩:=z;exact AV.nil ⟨aL rfl,hR _ _ ⟨.un "g" t,sp,bC _ (de _ (bt.mpr (aA t ht rfl))),rfl,l4 0x392713d921121c1b904 ce hp,rfl⟩⟩
    ·refine WS.cons (W1.fF (PT.cmp .Eq PE.name (PE.nat 2)) (dS q2) (WS.nil (WS.ret (EV.tuple (AV.cons (EV.use PE.str (AV.cons (EV.fn (AV.p2 PE.name (PE.sub (a:=d+1) (d:=1) (k:=d) PE.name (PE.nat 1) (rC d 1)) (CV.at ((ih (sl:=sl) (xs:=xs) ((bF hd)) (l3 0x3843a20d98221c1b9143843a1092 hs ce) hx).mono λv L z=>?_) (dF.mpr ((bq _))))) zG zH))))))));obtain⟨t,sp,ht,rfl,hp,rfl⟩:=z;refine AV.cons (EV.fn (AV.p2 PE.name (PE.sub (a:=d+1) (d:=1) (k:=d) PE.name (PE.nat 1) (rC d 1)) (CV.at ((ih (sl:=sl) (xs:=xs) ((bF hd)) (l4 0x3843a239820d931221c1b9143843a1092 hs ce hp) hx).mono λv L z=>?_) (dF.mpr ((bq _))))) zG zH);obtain⟨u,sp2,hu,rfl,hp2,rfl⟩:=z;exact AV.nil ⟨aL rfl,hR _ _ ⟨.bi "f" t u,sp2,bC _ (bC _ (mN.mpr (aA t ht (bt.mpr ⟨u,hu,rfl⟩)))),rfl,l5 0x39471294113d921121c1b904 ce hp hp2,rfl⟩⟩
end
section
def adX:FnAt 648 (sA 27) ["feed"]:=.eI
noncomputable abbrev vx:Tm:=.lf "?x"
noncomputable abbrev vy:Tm:=.lf "?y"
noncomputable abbrev vz:Tm:=.lf "?z"
noncomputable abbrev la:Tm:=.lf "a"
noncomputable abbrev lb:Tm:=.lf "b"
def defs:ag RD:=[⟨"swap",.bi "f" vx vy,.bi "f" vy vx⟩,⟨"once",.bi "f" vx vx,vx⟩,⟨"push",.un "g" (.bi "f" vx vy),.bi "f" (.un "g" vx) (.un "g" vy)⟩,⟨"twice",.un "g" (.un "g" vx),vx⟩,⟨"unit",.bi "f" vx la,vx⟩,⟨"leaf",.un "g" la,lb⟩,⟨"turn",.bi "f" (.bi "f" vx vy) vz,.bi "f" vx (.bi "f" vy vz)⟩]
def PG(x:RD):bw:=!isVar x.l&&(decide (x.l.dep<=9)&&(decide (x.r.dep<=9)&&(decide (x.l.sz<63)&&(decide (x.r.sz<63)&&(x.l.all qP&&(x.r.all qP&&x.r.vars.all λy=>x.l.vars.contains y))))))
def adY(h:PG x=ai):Hp x:=by obtain⟨h1,h⟩:=bM.mp h;obtain⟨h2,h⟩:=bM.mp h;obtain⟨h3,h⟩:=bM.mp h;obtain⟨h4,h⟩:=bM.mp h;obtain⟨h5,h⟩:=bM.mp h;obtain⟨h6,h⟩:=bM.mp h;obtain⟨h7,h8⟩:=bM.mp h;exact⟨(p7 _).mp h1,gD h2,gD h3,gD h4,gD h5,h6,h7,λy hy=>Rg.mp (f7.mp h8 y hy)⟩
def pP(h:x∈defs):Hp x:=adY (f7.mp (show defs.all PG=ai by kernel_rfl) x h)
def k9(x:RD):V:=.tup [.str x.nm,aS x.l,aS x.r]
def CV.adZ(i:aa)(hk:vs[k]?=af v)(hz:vs.length<=16777216)(h:Q v (L.set i (a,.list (vs.eraseIdx k))))(x:aB (L[i]?=af (a,.list vs)) tR):CV r (.builtin "list.pop") [.ref a,nv k] Q L:=λX w env l st R=>U2 (R.at i x) hk hz ⟨_,R.put i x,h⟩
inductive PH(fd sl spot:aa)(xs:ag bp)(v:V)(L:Cells):Prop|mk(fo mG:aa)(rs:ag b8)(rem:ag RD):v=.ref fo->rs≠[]->rs.length<=2->(rem++rs.map b8.rd).Perm defs->mG<=spot+3->L=(fo,.list (rs.map cf))::(cN fd sl mG xs++fG rs)->PH fd sl spot xs v L
inductive C3(iL w':aa)(rest:ag V)(b:aa×ag RD×ag b8):Prop|mk(dn rt:ag aa):bS iL=dn++rt->rest=rt.map nv->b.2.2.length=dn.length->(b.2.1++b.2.2.map b8.rd).Perm defs->b.1=w'+dn.length->C3 iL w' rest b
def ad0{X Y:Cells}:(i1::i2::a::b::c::(X++Y)).Perm (a::b::c::(X++(Y++[i1,i2]))):=by classical exact gz.mpr λx=>by simp only[gB,ll,vI];exact l7 0x432650b99190999965432109999999
def PJ{α β:Type}(f:α->β):∀{l:ag α}{k:aa}(h:k<l.length),(l.map f).eraseIdx k=(l.eraseIdx k).map f/\(l[k]::l.eraseIdx k).Perm l:=by intro l;induction l with|nil=>intro k h;exact bA h (nG _)|cons x l ih=>intro k h;induction k using jo with|zero=>exact⟨rfl,.refl _⟩|succ k=>refine bx (ih (afU h)) λh1 h2=>?_;exact⟨aO (f x::·) h1,(vF ..).trans (h2.cons x)⟩
noncomputable abbrev zJ(fd s3 fo:aa):Lc:=.cons "feed" (.ref fd) (.cons "some" (.ref s3) (.cons "found" (.ref fo) .nil))
abbrev xa(fd sl rg fo s3 iL:aa)(xs:ag bp)(b:aa×ag RD×ag b8):Cells:=(rg,.range 0 (iL:aa))::(fo,.list (b.2.2.map cf))::(s3,.list (b.2.1.map k9))::(cN fd sl b.1 xs++fG b.2.2)
abbrev Hy:cG:=dG (b1 (sA 27)).tail.tail.tail.tail.tail
def ad1(hl:iL<=2)(hs:w'<950)(hx:xs.length<100)(z:C3 iL w' (nv i::rest) b):WS (.fn (sA 27) 648) (b1 Hy) 14 R (λl2 L2=>∃b',l2=zJ fd s3 fo/\L2=xa fd sl rg fo s3 iL xs b'/\C3 iL w' rest b') ((zJ fd s3 fo).put "lap" (nv i)) (xa fd sl rg fo s3 iL xs b):=by
 obtain⟨dn,rt,e,er,rl,pm,sp⟩:=z;obtain⟨spot,rem,rs⟩:=b;have pm:=pm;have sp:spot=w'+dn.length:=sp;induction rt using b7 with
  |nil=>nomatch er|cons i' rt=>
   obtain⟨ei,rfl⟩:=cq er;have dl:dn.length<iL:=by have:=aO xI e;simp only[iR,bD,lU]at this;exact l3 405608708 this
   have ml:rem.length+rs.length=7:=by have:=pm.length_eq;rw[bD,aN]at this;exact this
   refine WS.cons ?_;refine dh (show∃s0,dG (b1 Hy)=s0 from(gE _ rfl)) λs0 C4=>?_;refine W1.tup ["name","left","right"] ?_ ?_ ?_ ?_ ?_<;>subst C4;·
    refine EV.m PE.name (Mt.list (vs:=rem.map k9) 2 Ds GS) (AV.cons (EV.drop (EV.fn (AV.p2 PE.name (EV.bi (.builtin "len") kb (AV.p1 PE.name (CP.len (us:=rem.map k9) 2 (aN _) (l2 0x10000007a077b1093 ml)))) (CV.call (u6 (fd:=fd) (sl:=sl) (spot:=spot) (xs:=xs) (many:=rem.length) (l4 0x30b87b13940222132b01 hl rl dl ml) (l4 0x3e83a28032319233b63a122b01 hl hs ‹_› dl) hx) (fj (A:=[(rg,.range 0 (iL:aa)),(fo,.list (rs.map cf)),(s3,.list (rem.map k9))]) (B:=cN fd sl spot xs) (C:=fG rs)) (λv L z=>?_))) u4 u5)));obtain⟨k,hk,rfl,rfl⟩:=z;refine⟨xa fd sl rg fo s3 iL xs (spot+1,rem,rs),[],(fj (A:=cN fd sl (spot+1) xs) (B:=[(rg,.range 0 (iL:aa)),(fo,.list (rs.map cf)),(s3,.list (rem.map k9))]) (C:=fG rs)).trans (.of_eq (bN _).symm),AV.nil ?_⟩;refine CV.adZ (vs:=rem.map k9) (v:=k9 rem[k]) 2 (by rw[jh,gy hk];rfl) (by rw[aN];exact l2 0x10000007a077b1093 ml) ?_;refine .mk rfl ?_;refine WS.cons (W1.expr (EV.m PE.name (Mt.list (vs:=rs.map cf) 1 lQ lJ) (AV.cons (EV.fn (AV.cons (EV.use PE.name (AV.p3 PE.name PE.name (EV.tuple (AV.p0 ⟨cF _,rfl,rfl⟩)) (CV.make λx dx=>Sp.frame (L:=[_,_]) (ac4 (pP (pm.mem_iff.mp (de _ (agt hk))))) λv L z=>?_)))) adO adP))));obtain⟨rfl,rfl⟩:=z;refine⟨rfl,AV.nil (CV.append (us:=rs.map cf) 3 ?_ (by rw[aN];exact l3 0x10000007a180222132b01 hl rl dl))⟩;refine WS.perm ad0 (WS.fin (bH ((spot+1,rem.eraseIdx k,rs++[⟨x,dx,rem[k]⟩])) rfl ?_ ⟨dn++[i'],rt,by simp only[e,bW];rfl,rfl,by simp only[bD,bD,rl];rfl,?_,by simp only[bD,sp];rfl⟩) rfl);·show _=(rg,aV.range 0 (iL:aa))::(fo,.list ((rs++[(⟨x,dx,rem[k]⟩:b8)]).map cf))::(s3,.list ((rem.eraseIdx k).map k9))::(cN fd sl (spot+1) xs++fG (rs++[⟨x,dx,rem[k]⟩]));unfold fG;rw[cy,Dx,(PJ k9 hk).1];rfl
    ·rw[cy];refine .trans ?_ pm;rw[←bW];refine(b6 (l₂:=[rem[k]])).trans ?_;exact(PJ k9 hk).2.append_right _
   ·rfl
   ·exactλu=>rfl
   ·exactλu=>rfl
   ·exactλu=>rfl
end
section
def ad2(hl:(zJ fd s3 fo).In l)(hf:l.get "feed"=af (.ref fd))(hs:spot<900)(hx:xs.length<100)(k:∀(mG rg iL:aa)(rs:ag b8)(rem:ag RD),1<=iL->iL<=2->rs.length=iL->(rem++rs.map b8.rd).Perm defs->mG<=spot+3->N (zJ fd s3 fo) (xa fd sl rg fo s3 iL xs (mG,rem,rs))):W1 (.fn (sA 27) 648) Hy 14 R N l ((fo,.list [])::(s3,.list (defs.map k9))::cN fd sl spot xs):=by
 refine W1.for (EV.drop (EV.bi (.type "range") kt (AV.cons (EV.bin .Add (EV.use (PE.nat 1) (EV.fn (AV.p2 (PE.name hf) (PE.nat 2) (CV.call (u6 (fd:=fd) (sl:=sl) (spot:=spot) (xs:=xs) (many:=2) (by decide) (by lia) hx) (b6 (l₁:=[(fo,aV.list []),(s3,aV.list (defs.map k9))])) (λv L z=>?_))) u4 u5)))))) (.inl (d8 _ _ rfl));obtain⟨w,hw,rfl,rfl⟩:=z;refine BV.add (AV.nil (show CV 14 (.type "range") [nv (1+w)] _ _ from CV.range (λrg=>?_) (by lia)));refine⟨xa fd sl rg fo s3 (1+w) xs (spot+1,defs,[]),[],?_,?_⟩;·exact .cons _ b6
 refine⟨.uC (n:=1+w) aR (by lia),λu:aa×ag RD×ag b8=>zJ fd s3 fo,xa fd sl rg fo s3 (1+w) xs,C3 (1+w) (spot+1),(spot+1,defs,[]),⟨[],bS (1+w),rfl,rfl,rfl,by rfl,rfl⟩,hl,rfl,λv rest b z=>⟨cZ,?_⟩,λb z=>⟨cZ,?_⟩⟩;·
  obtain⟨i,rfl⟩:∃i,v=nv i:=by obtain⟨dn,rt,e,er,_⟩:=z;cases rt with|nil=>contradiction|cons i rt=>exact⟨i,(cq er).1⟩
  exact(aA _ (.name _ _ rfl rfl) (ad1 (by lia) (by lia) hx z))
 ·obtain⟨dn,rt,e,er,rl,pm,sp⟩:=z;obtain rfl:=f6.mp er.symm;rw[bN]at e;have dl:dn.length=1+w:=by rw[←e,iR]
  exact k b.1 rg (1+w) b.2.2 b.2.1 (by lia) (by lia) (rl.trans dl) pm (by lia)
set_option maxHeartbeats 4000000 in def ad3(hs:spot<900)(hx:xs.length<100):Sp 15 648 [.ref fd] (PH fd sl spot xs) (cN fd sl spot xs):=by
 refine Sp.eE adX λR hR=>?_;refine WS.cons ?_;obtain⟨s0,C4⟩:∃s0,dG (b1 (sA 27))=s0:=⟨_,rfl⟩;rw[C4];refine W1.tup ["x","y","z","a","b"] ?_ ?_ ?_ ?_ ?_<;>subst C4;·
  refine EV.tuple ?_;refine AV.cons ?_;refine EV.use (PE.tuple1 PE.str) ?_;refine AV.cons ?_;refine EV.use (PE.tuple1 PE.str) ?_;refine AV.p3 (PE.tuple1 PE.str) (PE.tuple1 PE.str) (PE.tuple1 PE.str) ?_;refine⟨aL rfl,?_⟩;refine .mk rfl ?_;show WS _ _ _ _ _ (.cons "feed" (.ref fd) (.cons "x" (aS vx) (.cons "y" (aS vy) (.cons "z" (aS vz) (.cons "a" (aS la) (.cons "b" (aS lb) .nil)))))) _;refine WS.cons (W1.set ?_);refine EV.list (AV.p3 (EV.tuple (AV.p3 PE.str (EV.tuple (AV.p3 PE.str PE.name PE.name ⟨aL rfl,rfl,rfl⟩)) (EV.tuple (AV.p3 PE.str PE.name PE.name ⟨aL rfl,rfl,rfl⟩)) ⟨aL rfl,rfl,rfl⟩)) (EV.tuple (AV.p3 PE.str (EV.tuple (AV.p3 PE.str PE.name PE.name ⟨aL rfl,rfl,rfl⟩)) PE.name ⟨aL rfl,rfl,rfl⟩)) (EV.tuple (AV.p3 PE.str (EV.tuple (AV.p2 PE.str (EV.tuple (AV.p3 PE.str PE.name PE.name ⟨aL rfl,rfl,rfl⟩)) ⟨aL rfl,rfl,rfl⟩)) (EV.tuple (AV.p3 PE.str (EV.tuple (AV.p2 PE.str PE.name ⟨aL rfl,rfl,rfl⟩)) (EV.tuple (AV.p2 PE.str PE.name ⟨aL rfl,rfl,rfl⟩)) ⟨aL rfl,rfl,rfl⟩)) ⟨aL rfl,rfl,rfl⟩)) ⟨aL rfl,λs1=>?_⟩);refine WS.cons (W1.set ?_);refine EV.bin .Add (EV.use PE.name ?_);refine EV.list (AV.p3 (EV.tuple (AV.p3 PE.str (EV.tuple (AV.p2 PE.str (EV.tuple (AV.p2 PE.str PE.name ⟨aL rfl,rfl,rfl⟩)) ⟨aL rfl,rfl,rfl⟩)) PE.name ⟨aL rfl,rfl,rfl⟩)) (EV.tuple (AV.p3 PE.str (EV.tuple (AV.p3 PE.str PE.name PE.name ⟨aL rfl,rfl,rfl⟩)) PE.name ⟨aL rfl,rfl,rfl⟩)) (EV.tuple (AV.p3 PE.str (EV.tuple (AV.p2 PE.str PE.name ⟨aL rfl,rfl,rfl⟩)) PE.name ⟨aL rfl,rfl,rfl⟩)) ⟨aL rfl,λs2=>?_⟩);refine BV.pE 1 0 (aL rfl) λs3=>?_;refine WS.cons (W1.expr (EV.m PE.name (Mt.list 0 lQ lJ) (AV.cons (EV.use (EV.tuple (AV.p3 PE.str (EV.tuple (AV.p3 PE.str (EV.tuple (AV.p3 PE.str PE.name PE.name ⟨aL rfl,rfl,rfl⟩)) PE.name ⟨aL rfl,rfl,rfl⟩)) (EV.tuple (AV.p3 PE.str PE.name (EV.tuple (AV.p3 PE.str PE.name PE.name ⟨aL rfl,rfl,rfl⟩)) ⟨aL rfl,rfl,rfl⟩)) ⟨aL rfl,rfl,rfl⟩)) ?_))));refine AV.nil (CV.append 0 ?_ (aL rfl));refine WS.keep (M:=(s3,.list (defs.map k9))::cN fd sl spot xs) (G:=[_,_]) ((It (aO (λz=>(s3,aV.list z)::_) (show _=defs.map k9 by kernel_rfl))).trans (.cons _ (b6 (l₁:=[_,_])))) ?_;refine WS.cons (W1.set (EV.list (AV.p0 ⟨cF _,λfo=>?_⟩)));refine WS.cons (ad2 (s3:=s3) (fo:=fo) rfl rfl hs hx λsp rg iL rs rem h1 h2 h3 h4 h5=>WS.ret (EV.drop (EV.use PE.name ⟨(fo,.list (rs.map cf))::(cN fd sl sp xs++fG rs),[(rg,.range 0 (iL:aa)),(s3,.list (rem.map k9))],?_,hR _ _ ⟨fo,sp,rs,rem,rfl,?_,?_,h4,h5,rfl⟩⟩)));·exact(vF ..).trans (.cons _ (b6 (l₁:=[_,_])))
  ·intro e;rw[e]at h3;exact bA h1 (by rw[←h3];exact Dw 0)
  ·rw[h3];exact h2
 ·rfl
 ·exactλu=>rfl
 ·exactλu=>rfl
 ·exactλu=>rfl
end
section
def ad4:FnAt 653 (sA 28) ["heap_now","t"]:=.of2
def ad5:FnAt 660 (sA 29) ["here","there"]:=.of2
def ad6:FnAt 665 (sA 30) ["heap_now","changes_now","rules_now"]:=.pF
section
variable{E:EF}{e:aT}{r a d:aa}{l:Lc}{L:Cells}{us:ag V}{v:V}{b:bw}{B:bw->Cells->Prop}
def TV.or3(h:TV E (a1 e) r (λb M=>if b then B ai M else TV E (a2 e) r (λb M=>if b then B ai M else TV E (a3 e) r B l M) l M) l L)(he:aB (e=.BoolOp .Or [a1 e,a2 e,a3 e] e.pos) tR):TV E e r B l L:=λX w a st R=>by rw[he];refine xZ (WT.mono (h X w a st R) λb ak z=>?_);obtain⟨L,R',z⟩:=z;induction b with|true=>exact⟨_,R',z⟩|false=>refine(aX fH).mpr (xZ (WT.mono (z X w a ak R') λb ak z=>?_));obtain⟨L,R',z⟩:=z;induction b with|true=>exact⟨_,R',z⟩|false=>refine(aX fH).mpr (xZ (WT.mono (z X w a ak R') λb ak z=>?_));obtain⟨L,R',z⟩:=z;induction b with|true=>exact⟨_,R',z⟩|false=>exact(aX fH).mpr (JS ⟨_,R',z⟩)
def PT.inL(i:aa)(h1:PE E (e1 e) (r+1) l L v)(h2:PE E (e2 e) (r+1) l L (.ref a))(ks:∀u∈us,bO 7 u=ai/\fC u v=ai)(kk:bO 7 v=ai)(hb:decide (v∈us)=b)(x:aB (L[i]?=af (a,.list us)) tR)(he:aB (e=.Compare (e1 e) [.In] [e2 e] e.pos) tR)(hm:aB (i7 .In (e2 e)=aD) tF):PT E e (r+1) l L b:=TV.cmp .In (EV.use h1 (EV.use h2 λX w env l st R=>W7 (R.at i x) ks kk ⟨_,R,_,rfl,hb,rfl⟩)) he hm
def PT.neg(h1:PE E (e1 e) r l L (nv a))(h2:PE E (e2 e) r l L (.int (-1)))(he:aB (e=.Compare (e1 e) [.Eq] [e2 e] e.pos) tR)(hm:aB (i7 .Eq (e2 e)=aD) tF):PT E e r l L aD:=TV.cmp .Eq (EV.use h1 (EV.use h2 λX w env l st R=>JX ⟨_,R,_,rfl,dS (by lia),rfl⟩)) he hm
end
noncomputable abbrev sN:Su:=λu=>ah
def c6.zip:∀{ts:ag Tm}{cs:ag aa},c6 R σ ts cs->∃zs:ag (Tm×aa),zs.map (·.1)=ts/\zs.map (·.2)=cs/\∀p∈zs,Ev R σ p.1 p.2:=by
 intro ts;induction ts with
  |nil=>intro cs h;exact(bH ([]) rfl ((h:cs=[]).symm) (λu h=>by contradiction))|cons t ts ih=>
   intro cs h;refine ba h λc ds aC h1 h2=>?_;rw[aC];refine bL (ih h2) λzs e1 e2 k=>?_;refine(bH ((t,c)::zs) (aO (t::·) e1) (aO (c::·) e2) (λp hp=>?_));rcases cg.mp hp with rfl|hp;·exact h1
   ·exact k p hp
def ad7(P:bh):dN (KK P) 501 "seek" 491:=.of (by kernel_rfl)
def bY.low(I:HI g T [])(h:bY g o cs c):cs.map g.rt=cs/\(∀k∈cs,k<g.n)/\cs.length<=2/\c<g.n:=by refine bL h λm hm e bT=>?_;rw[←bT];have e:(g.nd m).2.map g.rt=cs:=aO lW e;rw[←e];have hk:=I.kids hm;exact(ip (I.GR hk) (λk eu=>by refine aq (bt.mp eu) λj hj aC=>?_;rw[←aC];exact I.eO (hk j hj)) (by rw[aN];exact(I.iy m hm).1) (I.eO hm))
def ad8:∀(t:Tm){D T c:aa}{H:HA}{g:HG},t.dep<=D->(∀s∈t.subs,isVar s=aD)->HI g T []->g.wt=[]->Ev (bY g) sN t c->i9 (D+5) 653 [.ref H.a,aS t] (nv c) (aJ H g):=by
 intro t;induction t using Tm.ind with
  |h t ih=>
   intro D T c H g hd hv I hw h;refine dh (sU (jY (bj t.ny hd))) λD bQ=>?_;subst bQ;have te:=lO t;refine aq ((Ev.app (hv t t.CC)).mp h) λcs h1 h2=>?_;refine bL h1.zip λzs e1 e2 k=>?_;refine il (bY.low I h2) λl1 l2 l3 l4=>?_;have zl:zs.length<=2:=by rw[←aN (f:=λp:Tm×aa=>p.2),e2];exact l3
   refine Sp.eE ad4 λR hR=>WS.cons (W1.comp (EV.use (PE.tail (PE.name (aO af te)) (by rw[aN];exact br t.two (by decide))) (cT.B8 (xs:=zs) (G:=λo=>iD) (λp=>aS p.1) (λp=>nv p.2) ((by rw[←e1,dQ];rfl:zs.map (λp=>aS p.1)=t.kids.map aS)▸.tup) cZ ((br zl (aL rfl))) (.inl (d8 _ _ rfl)) (λp hp=>(aA _ (.name _ _ rfl rfl) (EV.fn (AV.p2 PE.name PE.name (CP.call (ih p.1 (e1▸gK hp) (D:=D) ?_ ?_ I hw (k p hp)) (M:=[]) (by rw[bN]) (dF.mpr ((bq _))))) Po Pq))) λa=>?_)));·have:=Tm.pL (t:=t) (k:=p.1) (e1▸gK hp);exact nE (bj this hd)
   ·exactλs hs=>hv s (Tm.CD (e1▸gK hp) hs)
   rw[(by rw[←e2,dQ];rfl:zs.map (λp=>nv p.2)=cs.map nv)];refine WS.ret (EV.drop (EV.fF (PT.inL (us:=cs.map nv) 0 PE.GY PE.name (λu hu=>?_) rfl (dS λhm=>?_)) rfl (EV.m PE.name (Mt.inst 1 2 ad7) (AV.p2 (PE.oj (PE.name (aO af te)) (PE.nat 0) rfl (bF (xA (br (by rw[aN];exact t.two) (by decide:2<16777215))))) PE.name (CP.to (CP.call (M:=[]) (aby (H:=H) (Lk:=[(a,.list (cs.map nv))]) I hw (l1.symm▸h2) (.list a (bC _ aR)) l2 l3) (by rw[bN];exact b6 (l₁:=[_])) (dF.mpr ((ie _ _)))) ⟨aJ H g,[_],b6 (l₁:=[_]),hR _ _ ⟨rfl,rfl⟩⟩)))));·refine aq (bt.mp hu) λk o aC=>?_;subst aC;exact(dD rfl rfl)
   ·refine aq (bt.mp hm) λk o e=>?_;have:=V.int.inj e;lia
end
section
def oF(hs:ag aa)(f f':aa->aa):ag (V×V):=hs.map λn=>(nv (f n),nv (f' n))
section
variable{hs:ag aa}{f f':aa->aa}{x y:aa}
def C5:eM (oF hs f f') (nv x):=⟨rfl,λp hp=>by refine aq (bt.mp hp) λi u aC=>?_;rw[←aC];rfl⟩
def PK(h:∀m∈hs,f m≠x):cj (oF hs f f') (nv x)=ah:=qm.mpr (rV.mpr λp hp e=>by refine aq (bt.mp hp) λm hm aC=>?_;clear hp;subst aC;exact h m hm (iw e))
def PM(h:∃m∈hs,f m=x)(k:∀m∈hs,f m=x->f' m=y):cj (oF hs f f') (nv x)=af (nv y):=by cases q:cj (oF hs f f') (nv x)with|none=>obtain⟨m,hm,rfl⟩:=h;exact bA rfl (rV.mp (qm.mp q) (nv (f m),nv (f' m)) (bt.mpr (aA m hm rfl)))|some v=>rw[rU]at q;refine aq (zZ.mp q) λi hi q=>?_;refine aq (lR.mp q) λp hp aC=>?_;rw[←aC];refine dh (qk hi) λv' hv=>?_;rw[bR (hp.symm.trans hv)];refine aq (bt.mp (e8 hv)) λm hm e=>?_;obtain⟨e1,e2⟩:=RX.mp e;rw[←e2,k m hm (iw e1)]
def PO:oF (hs++[n]) f f'=oF hs f f'++[(nv (f n),nv (f' n))]:=cy
def PQ:(oF hs f f').length=hs.length:=aN ..
end
section
variable{r d i:aa}{ds:ag (V×V)}{k' u v:V}{Q:V->Cells->Prop}{L:Cells}
def CV.PR(i:aa)(q:eM ds k')(hz:ds.length<=16777216)(e:cj ds k'=af v)(k:Q v L)(x:aB (L[i]?=af (d,.dict ds)) tR):CV (r+1) (.builtin "dict.setdefault") [.ref d,k',u] Q L:=CV.Gx i q hz (λh=>by have:=(h.symm.trans e);contradiction) (λv' h=>bR (e.symm.trans h)▸k) x
def CV.PS(i:aa)(q:eM ds k')(hz:ds.length<=16777216)(e:cj ds k'=ah)(k:Q u (L.set i (d,.dict (ds++[(k',u)]))))(x:aB (L[i]?=af (d,.dict ds)) tR):CV (r+1) (.builtin "dict.setdefault") [.ref d,k',u] Q L:=CV.Gx i q hz (λo=>k) (λv' h=>by have:=(e.symm.trans h);contradiction) x
end
def ad9(P:bh):dN (KK P) 203 "term" 179:=.of (by kernel_rfl)
inductive PU(n:aa)(rest:ag V)(hs:ag aa):Prop|mk(dn rt:ag aa):bS n=dn++rt->rest=rt.map nv->(∀m∈hs,m<n)->hs.length<=dn.length->PU n rest hs
noncomputable abbrev wiL(a b ho bk:aa):Lc:=.cons "here" (.ref a) (.cons "there" (.ref b) (.cons "back" (.ref bk) (.cons "homes" (.ref ho) .nil)))
structure Wi(g1 g2:HG)(D:aa)(φ:aa->aa)(tm:aa->Tm):Prop where
 tv:∀n,n<g1.n->V.tup (.str (g1.nd n).1::(g1.nd n).2.map λi=>aS (tm i))=aS (tm n)
 dep:∀n,n<g1.n->(tm n).dep<=D
 gnd:∀n,n<g1.n->∀s∈(tm n).subs,isVar s=aD
 ev:∀n,n<g1.n->Ev (bY g2) sN (tm n) (φ n)
 iff:∀a b,a<g1.n->b<g1.n->(g1.rt a=g1.rt b↔φ a=φ b)
 qU:∀n,n<g1.n->∃cl:ag aa,cl.length<64/\n∈cl/\∀i∈cl,i<g1.n/\∀j∈(g1.nd i).2,j∈cl
def aea{H X C A:Cells}(h:H.Perm (C++X)):(A++(H++D)).Perm (C++(X++(A++D))):=by refine fj.trans ((h.append_right _).trans (.of_eq ?_));rw[bW]
section
variable{H1 H2:HA}{g1 g2:HG}{T1 T2 D:aa}{φ:aa->aa}{tm:aa->Tm}
def PW(I1:HI g1 T1 [])(I2:HI g2 T2 [])(w2:g2.wt=[])(W:Wi g1 g2 D φ tm):i9 (D+7) 660 [.ref H1.a,.ref H2.a] (.bool ai) (aJ H1 g1++aJ H2 g2):=by
 have s1:=I1.small;refine Sp.eE ad5 λR hR=>WS.cons (W1.sE ["homes","back"] (EV.tuple (AV.cons (EV.om λho=>AV.cons (EV.om λbk=>AV.nil ⟨aL rfl,⟨rfl,?_⟩⟩)))));refine WS.cons (W1.for (EV.bi (.type "range") kt (AV.p1 (EV.m PE.name (Mt.inst 2 3 zo) (AV.p0 (CP.call (yT (H:=H1) I1.ok) (fj (A:=[_,_]) (B:=aJ H1 g1) (C:=aJ H2 g2)) (dF.mpr ((ie _ _)))))) (CV.range (λrg=>?_) ((lp _ s1))))) (.inl (d8 _ _ rfl)));refine⟨.uC (n:=g1.n) aR ((lp _ s1)),λu:ag aa=>wiL H1.a H2.a ho bk,λhs=>(rg,.range 0 (g1.n:aa))::(bk,.dict (oF hs φ g1.rt))::(ho,.dict (oF hs g1.rt φ))::(aJ H1 g1++aJ H2 g2),PU g1.n,[],⟨[],bS g1.n,rfl,rfl,λu h=>(by contradiction),bq _⟩,rfl,rfl,λv rest hs z=>⟨cZ,?_⟩,λhs z=>⟨cZ,?_⟩⟩;·
  obtain⟨dn,rt,e,er,hm,hl⟩:=z;induction rt using b7 with
   |nil=>nomatch er|cons n rt=>
    obtain⟨rfl,rfl⟩:=cq er;obtain⟨nd,nn⟩:=Hw e;refine bL (W.qU n nn) λcl c1 c2 c3=>?_;have z1:(oF hs φ g1.rt).length<=16777216:=by rw[PQ];exact l4 0x10000007a170322342113e83a02 s1 hl nd nn
    have z2:(oF hs g1.rt φ).length<=16777216:=by rw[PQ];exact l4 0x10000007a170322342113e83a02 s1 hl nd nn
    refine(aA _ (.name _ _ rfl rfl) ?_);refine WS.cons (W1.sE ["c","d"] (EV.tuple (AV.p2 (EV.m PE.name (Mt.inst 3 4 jA) (AV.p1 PE.name (CP.call (jB (H:=H1) I1.ok nn) (fj (A:=[_,_,_]) (B:=aJ H1 g1) (C:=aJ H2 g2)) (dF.mpr ((ie _ _)))))) (EV.fn (AV.p2 PE.name (EV.m (PE.attr PE.name 3 4 yS) (Mt.inst 10 11 ad9) (AV.p1 PE.name (CP.call (acU (n:=n) (cl:=cl) (fv:=λi=>aS (tm i)) ((bF (bj s1 (aL rfl)))) (λi hi=>br (I1.iy i hi).1 (by decide)) (λi hi=>(I1.iy i hi).2) c3 c2 c1 W.tv) (aea (A:=[_,_,_]) (H:=aJ H1 g1) (D:=aJ H2 g2) wV) (dF.mpr ((ie _ _)))))) (CP.call (ad8 (tm n) (D:=D) (H:=H2) (W.dep n nn) (W.gnd n nn) I2 w2 (W.ev n nn)) (M:=[_,_,_]++aJ H1 g1) (b6 (l₁:=[_,_,_]++aJ H1 g1)) (dF.mpr ((kE _))))) Po Pq) ⟨aL rfl,⟨rfl,?_⟩⟩)));refine WS.cons (W1.qG (TV.or3 (TV.use (PT.neg PE.name PE.GY) ((aX fH).mpr ?_))));by_cases q:∃m∈hs,g1.rt m=g1.rt n;·have q1:=PM (y:=φ n) q λm h e=>(W.iff m n (hm m h) nn).mp e;have q2:=PM (hs:=hs) (f:=φ) (f':=g1.rt) (x:=φ n) (y:=g1.rt n) (by refine aq q λm h e=>?_;exact(aA m h ((W.iff m n (hm m h) nn).mp e))) λm h e=>(W.iff m n (hm m h) nn).mpr e;refine TV.cmp .NotEq (EV.m PE.name (Mt.dict 2 zW yV) (AV.p2 PE.name PE.name (CV.PR 2 C5 z2 q1 (EV.use PE.name (BV.to (BV.lH rfl) ⟨aD,aO V.bool (uJ rfl),(aX fH).mpr ?_⟩)))));refine TV.cmp .NotEq (EV.m PE.name (Mt.dict 1 zW yV) (AV.p2 PE.name PE.name (CV.PR 1 C5 z1 q2 (EV.use PE.name (BV.to (BV.lH rfl) ⟨aD,aO V.bool (uJ rfl),?_⟩)))));exact WS.nil (WS.fin ⟨hs,rfl,rfl,dn++[n],rt,by rw[e,bW];rfl,rfl,hm,by rw[bD];exact bG hl (dE ..)⟩ rfl)
    ·have q1:=PK (hs:=hs) (f:=g1.rt) (f':=φ) (x:=g1.rt n) λm h e=>q (aA m h e);have q2:=PK (hs:=hs) (f:=φ) (f':=g1.rt) (x:=φ n) λm h e=>q (aA m h ((W.iff m n (hm m h) nn).mpr e));refine TV.cmp .NotEq (EV.m PE.name (Mt.dict 2 zW yV) (AV.p2 PE.name PE.name (CV.PS 2 C5 z2 q1 (EV.use PE.name (BV.to (BV.lH rfl) ⟨aD,aO V.bool (uJ rfl),(aX fH).mpr ?_⟩)))));refine TV.cmp .NotEq (EV.m PE.name (Mt.dict 1 zW yV) (AV.p2 PE.name PE.name (CV.PS 1 C5 z1 q2 (EV.use PE.name (BV.to (BV.lH rfl) ⟨aD,aO V.bool (uJ rfl),?_⟩)))));refine WS.nil (WS.fin ⟨hs++[n],rfl,by rw[PO,PO];rfl,dn++[n],rt,by rw[e,bW];rfl,rfl,λm h=>?_,by rw[bD,bD];exact Aa hl 1⟩ rfl);rcases cw.mp h with h|h;·exact hm m h
     ·exact bU.mp h▸nn
 ·exact WS.ret (EV.drop (EV.use (PE.bool ai) ⟨aJ H1 g1++aJ H2 g2,[_,_,_],b6 (l₁:=[_,_,_]),hR _ _ ⟨rfl,rfl⟩⟩))
end
end
section
def aeb:∀{us:ag Tm},(∀k∈us,∀q,fC (aS k) (aS q)=ai)->∀vs:ag Tm,rS (us.map aS) (vs.map aS)=ai:=by intro us;induction us with|nil=>exactλo o=>rfl|cons u us ih=>intro h vs;induction vs with|nil=>rfl|cons v vs=>exact bM.mpr ⟨h u aR v,ih (λk hk=>h k (bK _ hk)) vs⟩
def aec(p:Tm):∀q,fC (aS p) (aS q)=ai:=by induction p using Tm.ind with|h p ih=>intro q;rw[lO p,lO q];exact bM.mpr ⟨rfl,aeb ih q.kids⟩
def aed:∀{us:ag Tm},(∀k∈us,bO n (aS k)=ai)->eU n (us.map aS)=ai:=by intro us;induction us with|nil=>exactλo=>rfl|cons u us ih=>exactλh=>bM.mpr ⟨h u aR,ih λk hk=>h k (bK _ hk)⟩
def aee(p:Tm):∀{n:aa},p.dep<=n->bO n (aS p)=ai:=by
 induction p using Tm.ind with
  |h p ih=>
   intro n hn;obtain⟨n,rfl⟩:=sU (jY (bj p.ny hn));rw[lO p];refine(?_:(bO n (.str p.op)&&eU n (p.kids.map aS))=ai);refine bM.mpr ⟨?_,aed λk hk=>ih k hk ?_⟩;·induction n with|zero=>rfl|succ n=>rfl
   ·have:=Tm.pL hk;exact nE (bj this hn)
def aef:∀{p q:Tm},aS p=aS q->p=q:=by
 intro p;induction p with
  |lf o=>intro q h;induction q with|lf o'=>rw[V.str.inj (cq (V.tup.inj h)).1]|un o' t=>cases(cq (V.tup.inj h)).2|bi o' t u=>cases(cq (V.tup.inj h)).2
  |un o t ih=>intro q h;induction q using Tm.casesOn with|lf o'=>cases(cq (V.tup.inj h)).2|un o' t'=>obtain⟨h1,h2⟩:=cq (V.tup.inj h);rw[V.str.inj h1,ih (cq h2).1]|bi o' t' u=>cases(cq (cq (V.tup.inj h)).2).2
  |bi o t u i1 i2=>intro q h;induction q using Tm.casesOn with|lf o'=>cases(cq (V.tup.inj h)).2|un o' t'=>cases(cq (cq (V.tup.inj h)).2).2|bi o' t' u'=>obtain⟨h1,h2⟩:=cq (V.tup.inj h);refine bx (cq h2) λh3 h4=>?_;rw[V.str.inj h1,i1 h3,i2 (cq h4).1]
def Hz{es:ag (V×V)}:dt (p::es) k v=if p.1=k then(p.1,v)::es else p::dt es k v:=by
 delta dt eY;rw[xw];by_cases q:p.1=k;·rw[a0 q,c7 q];rfl
 ·rw[aX q,dS q];cases es.findIdx? λp=>decide (p.1=k)with|none=>rfl|some i=>rfl
def C6{es:ag (V×V)}:cj (p::es) k=if p.1=k then af p.2 else cj es k:=by
 delta cj;dsimp only[An];by_cases q:p.1=k;·rw[a0 q,c7 q];rfl
 ·rw[aX q,dS q]
def C7{es:ag (V×V)}:cj (dt es k v) k'=if k=k' then af v else cj es k':=by
 induction es with
  |nil=>refine(?_:cj [(k,v)] k'=_);rw[C6]|cons p es ih=>
   rw[Hz,C6];by_cases q:p.1=k;·
    rw[a0 q,C6];rw[←q];by_cases q2:p.1=k';·rw[a0 q2,a0 q2]
    ·rw[aX q2,aX q2,aX q2]
   ·rw[aX q,C6,ih];by_cases q2:p.1=k';·rw[a0 q2,a0 q2,aX λe=>q (q2.trans e.symm)]
    ·rw[aX q2,aX q2]
def aeg{es:ag (V×V)}:∀{p:V×V},p∈dt es k v->p.1=k\/p.1∈es.map (·.1):=by
 induction es with
  |nil=>exactλh=>.inl (by rw[bU.mp h])|cons e es ih=>
   intro p h;rw[Hz]at h;split at h;·
    rcases cg.mp h with rfl|h;·exact .inr aR
    ·exact .inr (bK _ (gK h))
   ·rcases cg.mp h with rfl|h;·exact .inr aR
    ·exact(ih h).imp id (bK _)
def PX{es:ag (V×V)}:(dt es k v).length<=es.length+1:=by
 induction es with
  |nil=>exact bq _|cons e es ih=>
   rw[Hz];split;·exact kE _
   ·exact mO ih
structure Seen(es bV:ag (V×V))(Pl:Cells)(p:Tm)(many edges:aa)(old:ag cI):Prop where
 mr:(cj bV (aS p)).getD (.tup [nv 0,nv 0])=.tup [nv many,nv edges]
 sn:∀lb,∃sb,(cj es (aS p)).getD (.ref lb)=.ref sb/\(sb,aV.list (old.map cU))∈(lb,aV.list [])::Pl
def Seen.none:Seen [] [] Pl p 0 0 []:=⟨rfl,λlb=>(aA lb rfl aR)⟩
def Seen.grow{es bV:ag (V×V)}(h:Seen es bV Pl p many edges old)(k:∀q∈Pl,q∈Pl'):Seen es bV Pl' p many edges old:=⟨h.mr,λlb=>by refine aq (h.sn lb) λsb h1 h2=>?_;exact(aA sb h1 ((cg.mp h2).elim (λe=>e▸aR) λe=>bK _ (k _ e)))⟩
def Seen.other{es bV:ag (V×V)}(h:Seen es bV Pl p many edges old)(ne:q≠p):Seen (dt es (aS q) u) (dt bV (aS q) v) Pl p many edges old:=by have n:=λe=>ne (aef e);exact⟨by exact C7▸(aX n)▸h.mr,λlb=>by exact C7▸(aX n)▸(h.sn lb)⟩
def Seen.self{es bV:ag (V×V)}(h:(sb,aV.list (sl.map cU))∈Pl):Seen (dt es (aS p) (.ref sb)) (dt bV (aS p) (.tup [nv many,nv edges])) Pl p many edges sl:=⟨by rw[C7,a0 rfl];rfl,λlb=>(aA sb (by rw[C7,a0 rfl];rfl) (bK _ h))⟩
def oI(es:ag (V×V)):Prop:=∀e∈es,∃p,e.1=aS p
def oI.key{es:ag (V×V)}(h:oI es)(hd:p.dep<=7):eM es (aS p):=⟨aee p hd,λe he=>by refine dh (h e he) λq hq=>?_;exact hq▸(aec q p)⟩
def oI.put{es:ag (V×V)}(h:oI es):oI (dt es (aS p) v):=λe he=>by
 rcases aeg he with k|k;·exact⟨p,k⟩
 ·refine aq (bt.mp k) λe' h1 h2=>?_;obtain⟨q,hq⟩:=h e' h1;exact⟨q,h2.symm.trans hq⟩
end
section
def C8{A H X:Cells}:(d::(A++(H++X))).Perm (((A++[d])++H)++X):=by classical exact gz.mpr λa=>by simp only[gB,ll];exact l4 0x2130b9099932190999
abbrev PY:cG:=dG (b1 (sA 30)).tail.tail
noncomputable abbrev nrL(h pl:aa):Lc:=.cons "heap_now" (.ref h) (.cons "placer" (.ref pl) .nil)
abbrev zK(h pl:aa)(x:b8)(fl:aa):Lc:=.cons "heap_now" (.ref h) (.cons "placer" (.ref pl) (.cons "rule" (cf x) (.cons "found" (.ref fl) .nil)))
inductive PZ(a:aa)(g0:HG)(T0:aa)(x:RD)(ms:ag cI)(rest:ag V)(b:HA×HG):Prop|mk(dn rs:ag cI):b.1.a=a->ms=dn++rs->rest=rs.map cU->eQ g0 T0 (dn.map λq=>(x,q.2)) b.2 (T0+dn.length)->PZ a g0 T0 x ms rest b
section
variable{pl iY h D T:aa}{H:HA}{g:HG}{X:Cells}{x:b8}{fl:aa}{ms:ag cI}{R:V->Cells->Prop}{N:Lc->Cells->Prop}
def aeh(xm:(x.a,aV.inst 528 x.d)∈X/\(x.d,aV.attrs (pN x.rd))∈X)(I:HI g T [])(hT:T+1<100000)(ft:pO g D s x.rd)(hz:g.n+x.rd.l.wt one+x.rd.r.wt one<1000)(k:∀(H':HA)(g':HG),H'.a=H.a->uX g T (su s) x.rd g'->N (zK H.a pl x fl) (iA pl iY H.a++(aJ H' g'++X))):WS (.fn (sA 30) 665) (b1 (dG (b1 PY))) (D+9) R N ((zK H.a pl x fl).mA ["c","subst"] [nv c,e6 s]) (iA pl iY H.a++(aJ H g++X)):=by have up:∀{h:aa}{Y:Cells}{q:aa×aV},q∈X->q∈iA pl iY h++(Y++X):=λh=>bC _ (bC _ h);refine WS.cons (W1.set (EV.bi (.type "dict") kt (AV.p1 PE.name (CV.O8 ft.nd ft.sz λd=>?_))));refine WS.cons (W1.expr (EV.m PE.name (Mt.inst 3 4 Ht) (AV.cons (EV.drop (EV.m PE.name (Mt.inst 1 2 y7) (AV.p2 (PE.rule PE.name ⟨.tail _ (up xm.1),.tail _ (up xm.2)⟩ λP=>(nB P).2.1) PE.name (CV.call (CE x.rd.l (H:=H) (a:=pl) (dx:=iY) ft.dl ft.pl I ft.jC ft.low ((br (dE _ _) hz))) (C8 (A:=iA pl iY H.a)) (λv L z=>?_) (dF.mpr ((kE _))))))))));obtain⟨H1,g1,m,ha,rfl,P1,rfl⟩:=z;refine⟨(d,.dict (d0 s))::(iA pl iY H.a++(aJ H1 g1++X)),[],(C8 (d:=(d,.dict (d0 s))) (A:=iA pl iY H.a)).symm.trans (.of_eq (bN _).symm),?_⟩;rw[←ha]at k⊢;refine AV.cons (EV.drop (EV.m PE.name (Mt.inst 1 2 y7) (AV.p2 (PE.rule PE.name ⟨.tail _ (up xm.1),.tail _ (up xm.2)⟩ λP=>(nB P).2.2.1) PE.name (CV.call (CE x.rd.r (H:=H1) (a:=pl) (dx:=iY) ft.dr ft.pr P1.hi (λy hy=>ft.jC y (ft.sub y hy)) (λy k h=>bj (ft.low y k h) P1.gr.le) (l4 0x3e83a2398109313e83a210992 hz P1.le)) (C8 (A:=iA pl iY H1.a)) (λv L z=>?_) (dF.mpr ((kE _)))))));obtain⟨H2,g2,n,hb,rfl,P2,rfl⟩:=z;refine⟨(d,.dict (d0 s))::(iA pl iY H1.a++(aJ H2 g2++X)),[],(C8 (d:=(d,.dict (d0 s))) (A:=iA pl iY H1.a)).symm.trans (.of_eq (bN _).symm),?_⟩;rw[←hb]at k⊢;refine AV.p1 (EV.tuple (AV.p3 PE.str (PE.rule PE.name ⟨.tail _ (up xm.1),.tail _ (up xm.2)⟩ λP=>(nB P).1) PE.name ⟨aL rfl,rfl,rfl⟩)) (CV.call (Hq (H:=H2) P2.hi hT (bj P1.lt P2.gr.le) P2.lt) (fj (A:=(d,.dict (d0 s))::iA pl iY H2.a) (B:=aJ H2 g2) (C:=X)) (λv L z=>?_) (dF.mpr ((ie _ _))));obtain⟨H3,g3,hc,⟨⟨t,rfl⟩,P3⟩,rfl⟩:=z;exact WS.keep (M:=iA pl iY H2.a++(aJ H3 g3++X)) (G:=[(d,.dict (d0 s))]) Pa (WS.fin (k H3 g3 hc (.mk' P1 P2 P3)) rfl)
def aei(xm:(x.a,aV.inst 528 x.d)∈X/\(x.d,aV.attrs (pN x.rd))∈X)(fm:(fl,aV.list (ms.map cU))∈X)(I:HI g T [])(hT:T+ms.length<100000)(ft:∀q∈ms,pO g D q.2 x.rd)(hz:g.n+ms.length*gZ x.rd<1000)(mz:ms.length<1000)(k:∀(H':HA)(g':HG),H'.a=H.a->eQ g T (ms.map λq=>(x.rd,q.2)) g' (T+ms.length)->N (zK H.a pl x fl) (iA pl iY H.a++(aJ H' g'++X))):W1 (.fn (sA 30) 665) (dG (b1 PY)) (D+9) R N (zK H.a pl x fl) (iA pl iY H.a++(aJ H g++X)):=by
 have up:∀{h:aa}{Y:Cells}{q:aa×aV},q∈X->q∈iA pl iY h++(Y++X):=λh=>bC _ (bC _ h);refine W1.for (EV.use PE.name ⟨.list (vs:=ms.map cU) (up fm) (by rw[aN];exact bF (bj mz (aL rfl))),λu:HA×HG=>zK H.a pl x fl,λb=>iA pl iY H.a++(aJ b.1 b.2++X),PZ H.a g T x.rd ms,(H,g),⟨[],ms,rfl,rfl,rfl,.nil I⟩,rfl,rfl,λv rest b z=>⟨up fm,?_⟩,λb z=>⟨up fm,?_⟩⟩) (.inr (pd _ _ _ rfl));·
  obtain⟨dn,rt,ha,e,er,ap⟩:=z;obtain⟨H1,g1⟩:=b;have ha:H1.a=H.a:=ha;have ap:=ap;induction rt using b7 with
   |nil=>nomatch er|cons q rt=>
    obtain⟨rfl,rfl⟩:=cq er;refine il ap.out λI1 G1 u n1=>?_;rw[Hv]at n1;have dl:dn.length+1<=ms.length:=by rw[e,bD];exact Q7 (i8 _)
    have dm:dn.length*gZ x.rd+gZ x.rd<=ms.length*gZ x.rd:=by rw[←Ax];exact pX _ dl
    refine(aA _ (.tup _ _ ["c","subst"] rfl (λu=>rfl) rfl) ?_);rw[←ha];refine aeh (H:=H1) xm I1 (l3 0x186a05a209d812d1186a05a1092 hT dl) ((ft q (e▸bC _ aR)).grow G1) (by lia) λH2 g2 hb A2=>⟨(H2,g2),rfl,rfl,dn++[q],rt,hb,by rw[e,bW];rfl,rfl,?_⟩;rw[cy,bD];exact .snoc ap A2
 ·obtain⟨dn,rt,ha,e,er,ap⟩:=z;obtain rfl:=f6.mp er.symm;rw[bN]at e;subst e;exact k b.1 b.2 ha ap
end
end
section
def aej(g:HG)(many edges:aa)(old:ag cI)(x:RD)(ms:ag cI):Prop:=ms.Nodup/\(∀q∈ms,FM g x.l q)/\∀q,FM g x.l q->iK g (qT g many edges) (x.l.dep-1) q.1->q∈ms\/q∈old.map (ja g)
def aek(g:HG)(many edges:aa)(old:RD->ag cI)(rs:ag b8)(fs:ag Fo):Prop:=∀(i:aa)(x:b8)(f:Fo),rs[i]?=af x->fs[i]?=af f->aej g many edges (old x.rd) x.rd f.2
def Kept(g:HG)(old:RD->ag cI)(rs:ag b8)(fs:ag Fo)(es bV:ag (V×V))(Pl:Cells):Prop:=∀(i:aa)(x:b8)(f:Fo),rs[i]?=af x->fs[i]?=af f->∃sl,Seen es bV Pl x.rd.l g.n g.es.length sl/\sl.length<64/\∀q,q∈sl↔q∈f.2\/q∈(old x.rd).map (ja g)
structure xb(g:HG)(T D many edges:aa)(rs:ag b8)(old:RD->ag cI)(jb:RD->aa):Prop extends RnOk g T D rs jb where
 nn:2*g.n<63
 hD:D<900
 mz:many<1000000000
 d7:∀x∈rs,x.rd.l.dep<=7
 u7:(rs.map λx=>x.rd.l).Nodup
 od:∀x∈rs,∀q∈old x.rd,q.1<g.n/\(∀y∈q.2,y.2<g.n)/\q.2.length<1000
 oz:∀x∈rs,(old x.rd).length<64
 P0:∀x∈rs,∀ms:ag cI,ms.Nodup->(∀q∈ms,FM g x.rd.l q\/q∈(old x.rd).map (ja g))->ms.length<64
abbrev oJ:=ag (V×V)×ag (V×V)×Cells×ag Fo
structure iM(g:HG)(many edges e0:aa)(old:RD->ag cI)(jU:Cells)(dn rt:ag b8)(b:oJ):Prop where
 fl:b.2.2.2.length=dn.length
 k1:oI b.1
 k2:oI b.2.1
 z1:b.1.length<=e0+dn.length
 z2:b.2.1.length<=e0+dn.length
 pl:∃X,b.2.2.1=X++jU
 sn:∀x∈rt,Seen b.1 b.2.1 b.2.2.1 x.rd.l many edges (old x.rd)
 nw:aek g many edges old dn b.2.2.2
 kp:Kept g old dn b.2.2.2 b.1 b.2.1 b.2.2.1
 fm:∀f∈b.2.2.2,(f.1,aV.list (f.2.map cU))∈b.2.2.1
inductive P4(g:HG)(many edges e0:aa)(old:RD->ag cI)(jU:Cells)(rs:ag b8)(rest ys:ag V)(b:oJ):Prop|mk(dn rt:ag b8):rs=dn++rt->rest=rt.map cf->ys=b.2.2.2.map gI->iM g many edges e0 old jU dn rt b->P4 g many edges e0 old jU rs rest ys b
def iM.mem(h:iM g many edges e0 old jU dn rt b)(hq:q∈jU):q∈b.2.2.1:=by refine dh h.pl λX hX=>?_;exact hX▸(bC _ hq)
def xc{α:Type}{l:ag α}{x y:α}(h:(l++[x])[i]?=af y):l[i]?=af y\/(i=l.length/\y=x):=by
 rcases agq i l.length with q|q|q;·rw[xt q]at h;exact .inl h
 ·subst q;rw[Dn (bq _),IT]at h;exact .inr ⟨rfl,(bR h).symm⟩
 ·rw[nD (by exact bD▸q)]at h;nomatch h
def iM.next{es bV:ag (V×V)}{ms sl:ag cI}(h:iM g many edges e0 old jU dn (x::rt) (es,bV,Pl,fs))(u7:((dn++x::rt).map λx=>x.rd.l).Nodup)(nd:ms.Nodup)(h1:∀q∈ms,FM g x.rd.l q)(h2:∀q,FM g x.rd.l q->iK g (qT g many edges) (x.rd.l.dep-1) q.1->q∈ms\/q∈(old x.rd).map (ja g))(h3:∀q,q∈sl↔q∈ms\/q∈(old x.rd).map (ja g))(h4:sl.length<64):iM g many edges e0 old jU (dn++[x]) rt (dt es (aS x.rd.l) (.ref sb),dt bV (aS x.rd.l) (.tup [nv g.n,nv g.es.length]),(b,.list (ms.map cU))::(sb,.list (sl.map cU))::Pl,fs++[(b,ms)]):=by
 obtain⟨fl,k1,k2,z1,z2,pl,sn,nw,kp,fm⟩:=h;have fl:fs.length=dn.length:=fl;simp only[cy,jk]at u7;refine gf (gA.mp u7) λu d2 d3=>?_;have up:∀q∈Pl,q∈(b,aV.list (ms.map cU))::(sb,aV.list (sl.map cU))::Pl:=λq hq=>.tail _ (.tail _ hq);refine⟨?_,k1.put,k2.put,?_,?_,by refine dh pl λX hX=>?_;exact⟨_::_::X,aO (λz=>_::_::z) hX⟩,λy hy=>((sn y (bK _ hy)).grow up).other ((λy hy e=>(iZ.mp d2).1 (e▸gK hy):∀y∈rt,x.rd.l≠y.rd.l) y hy),λi y f e1 e2=>?_,λi y f e1 e2=>?_,λf hf=>?_⟩;·simp only[bD,fl];rfl
 ·rw[bD];exact bG PX (mO z1)
 ·rw[bD];exact bG PX (mO z2)
 ·rcases xc e1 with e1|⟨q1,rfl⟩;·
   rcases xc e2 with e2|⟨q2,rfl⟩;·exact nw i y f e1 e2
   ·rw[q2,fl,nD (bq _)]at e1;nomatch e1
  ·rcases xc e2 with e2|⟨q2,rfl⟩;·rw[q1,←fl,nD (bq _)]at e2;contradiction
   ·exact(cM nd h1 h2)
 ·rcases xc e1 with e1|⟨q1,rfl⟩;·
   rcases xc e2 with e2|⟨q2,rfl⟩;·refine bL (kp i y f e1 e2) λsl' s1 s2 s3=>?_;exact(bH sl' ((s1.grow up).other ((λy hy e=>d3 _ (gK hy) _ aR e.symm) y (e8 e1))) s2 s3)
   ·rw[q2,fl,nD (bq _)]at e1;nomatch e1
  ·rcases xc e2 with e2|⟨q2,rfl⟩;·rw[q1,←fl,nD (bq _)]at e2;contradiction
   ·exact(bH sl (.self (.tail _ (.head _))) h4 h3)
 ·rcases cw.mp hf with hf|hf;·exact up _ (fm f hf)
  ·rw[bU.mp hf];exact .head _
def ael{K H P:Cells}:(b::(K++(H++P))).Perm ((K++(H++(b::P)))++[]):=by classical exact gz.mpr λa=>by simp only[gB,ll];exact l4 0xb3291909932190999
def aem(P:bh):dN (KK P) 289 "found" 279:=.of (by kernel_rfl)
section
variable{C:CA}{H:HA}{g:HG}{T D many edges e0 ru:aa}{rs:ag b8}{old:RD->ag cI}{jb:RD->aa}{es bV:ag (V×V)}{Pl:Cells}{R:V->Cells->Prop}{N:Lc->Cells->Prop}
def aen(ok:xb g T D many edges rs old jb)(I:HI g T [])(rz:rs.length<60)(ez:e0<100)(lg:iM g many edges e0 old Pl [] rs (es,bV,Pl,[]))(rm:(ru,aV.list (rs.map cf))∈Pl)(xm:∀x∈rs,(x.a,aV.inst 528 x.d)∈Pl/\(x.d,aV.attrs (pN x.rd))∈Pl)(k:∀(ls:aa)(b:oJ),iM g many edges e0 old Pl rs [] b->N ((Lc.of ["heap_now","changes_now","rules_now"] [.ref H.a,.ref C.c,.ref ru]).put "lists" (.ref ls)) ((ls,.list (b.2.2.2.map gI))::(eF C H.a b.1 b.2.1++(aJ H g++b.2.2.1)))):W1 (.fn (sA 30) 665) (dG (b1 (sA 30))) (D+9) R N (Lc.of ["heap_now","changes_now","rules_now"] [.ref H.a,.ref C.c,.ref ru]) (eF C H.a es bV++(aJ H g++Pl)):=by
 have up:∀{es bV:ag (V×V)}{Y Q:Cells}{q:aa×aV},q∈Q->q∈eF C H.a es bV++(Y++Q):=λh=>bC _ (bC _ h);refine W1.comp (EV.use PE.name ⟨λb:oJ=>eF C H.a b.1 b.2.1++(aJ H g++b.2.2.1),P4 g many edges e0 old Pl rs,(es,bV,Pl,[]),.list (vs:=rs.map cf) (up rm) (by rw[aN];exact bF (bj rz (aL rfl))),⟨[],rs,rfl,rfl,rfl,lg⟩,rfl,λv rest ys b z=>?_,λys b z=>?_,.inl (d8 _ _ rfl)⟩);·
  obtain⟨dn,rt,e,er,rfl,J⟩:=z;obtain⟨es,bV,Q,fs⟩:=b;induction rt using b7 with
   |nil=>nomatch er|cons x rt=>
    obtain⟨rfl,rfl⟩:=cq er;have fN:=e▸bC _ aR;have s:=J.sn x aR;have dl:dn.length<60:=by rw[e,bD]at rz;exact br (dE _ _) rz
    refine⟨up (J.mem rm),_,.name _ _ rfl rfl,ia.nil ((a0 rfl).mpr (EV.drop (EV.m PE.name (Mt.inst 0 1 aem) (AV.p1 (PE.rule PE.name ⟨up (J.mem (xm x fN).1),up (J.mem (xm x fN).2)⟩ λP=>(nB P).2.1) (CV.at ((acO (C:=C) (H:=H) (D:=D) (many:=many) (edges:=edges) (ok.dl x fN) ok.hD (ok.pl x fN) I ok.nn (ok.vs x fN) (ok.bd x fN) (ok.qU x fN) s.mr ok.mz s.sn (ok.od x fN) (ok.oz x fN) (ok.P0 x fN) (J.k1.key (ok.d7 x fN)) (J.k2.key (ok.d7 x fN)) (l3 0x3e83a27109213c2a12642a02 ez dl J.z1) (l3 0x3e83a27109213c2a12642a02 ez dl J.z2)).mono λv L z=>?_) (dF.mpr (by lia)))))))⟩;obtain⟨b,sb,ms,sl,rfl,nd,m1,m2,m3,m4,rfl⟩:=z;refine⟨_,[],ael,by rw[aN];exact lp _ (by have:=J.fl;exact br (e9 this) dl),(_,_,_,fs++[(b,ms)]),⟨dn++[x],rt,by rw[e,bW];rfl,rfl,by rw[cy];rfl,J.next (e▸ok.u7) nd m1 m2 m3 m4⟩,rfl⟩
 ·obtain⟨dn,rt,e,er,rfl,J⟩:=z;obtain rfl:=f6.mp er.symm;rw[bN]at e;subst e;exact⟨up (J.mem rm),λls=>k ls b J⟩
end
end
section
def aeo{K H P:Cells}:(a::b::c::(K++(H++P))).Perm ([a,b]++(H++(c::(K++P)))):=by classical exact gz.mpr λx=>by simp only[gB,ll,vI];exact l6 0x3209919540b999543219099999
def aep{K H P:Cells}:(H++([a,b]++(c::(K++P)))).Perm ((K++(H++P))++[a,b,c]):=by classical exact gz.mpr λx=>by simp only[gB,ll];exact l7 0x326199950949965499321999099
inductive P5(a:aa)(g:HG)(T:aa)(rs:ag b8)(fs:ag Fo)(rest:ag (V×V))(b:HA×HG):Prop|mk(dn rt:ag (b8×Fo)):rs.zip fs=dn++rt->rest=rt.map (λp=>(cf p.1,gI p.2))->b.1.a=a->eQ g T (rows ((cX rs fs).take dn.length)) b.2 (T+(rows ((cX rs fs).take dn.length)).length)->P5 a g T rs fs rest b
inductive P6(C:CA)(a:aa)(g:HG)(T many edges e0:aa)(rs:ag b8)(old:RD->ag cI)(Pl:Cells)(v:V)(L:Cells):Prop|mk(H':HA)(g':HG)(b:oJ):v=.none->H'.a=a->iM g many edges e0 old Pl rs [] b->Round g T (rows (cX rs b.2.2.2)) g'->L=eF C a b.1 b.2.1++(aJ H' g'++b.2.2.1)->P6 C a g T many edges e0 rs old Pl v L
def iM.sub(h:iM g many edges e0 old jU rs [] b):u0 g rs b.2.2.2:=λi x f h1 h2=>⟨(h.nw i x f h1 h2).1,(h.nw i x f h1 h2).2.1⟩
section
variable{C:CA}{H:HA}{g:HG}{T D many edges e0 ru:aa}{rs:ag b8}{old:RD->ag cI}{jb:RD->aa}{es bV:ag (V×V)}{Pl:Cells}
def aeq(ok:xb g T D many edges rs old jb)(I:HI g T [])(rz:rs.length<60)(ez:e0<100)(lg:iM g many edges e0 old Pl [] rs (es,bV,Pl,[]))(rm:(ru,aV.list (rs.map cf))∈Pl)(xm:∀x∈rs,(x.a,aV.inst 528 x.d)∈Pl/\(x.d,aV.attrs (pN x.rd))∈Pl):Sp (D+10) 665 [.ref H.a,.ref C.c,.ref ru] (P6 C H.a g T many edges e0 rs old Pl) (eF C H.a es bV++(aJ H g++Pl)):=by
 refine Sp.eE ad6 λR hR=>WS.cons (aen ok I rz ez lg rm xm λls b J=>?_);obtain⟨fD,qV,Q,fs⟩:=b;refine WS.cons (W1.set (EV.fn (AV.p1 PE.name (CV.make λpl iY=>Sp.frame (L:=[_,_]) NV λv L z=>?_)) adU adV));obtain⟨rfl,rfl⟩:=z;refine⟨rfl,?_⟩;refine WS.perm (M:=iA pl iY H.a++(aJ H g++((ls,.list (fs.map gI))::(eF C H.a fD qV++Q)))) aeo ?_;have up:∀{h:aa}{Y:Cells}{q:aa×aV},q∈(ls,aV.list (fs.map gI))::(eF C H.a fD qV++Q)->q∈iA pl iY h++(Y++((ls,aV.list (fs.map gI))::(eF C H.a fD qV++Q))):=λh=>bC _ (bC _ h);have P7:∀{q:aa×aV},q∈Q->q∈(ls,aV.list (fs.map gI))::(eF C H.a fD qV++Q):=λh=>.tail _ (bC _ h);have zM:∀{q:aa×aV},q∈Pl->q∈(ls,aV.list (fs.map gI))::(eF C H.a fD qV++Q):=λh=>P7 (J.mem h);refine WS.cons (W1.zip ["rule","found"] (AV.p2 PE.name PE.name ⟨λo:HA×HG=>nrL H.a pl,λb=>iA pl iY H.a++(aJ b.1 b.2++((ls,.list (fs.map gI))::(eF C H.a fD qV++Q))),P5 H.a g T rs fs,(H,g),.lists (us:=rs.map cf) (ws:=fs.map gI) (up (zM rm)) (up (.head _)) (by rw[aN];exact bF (bj rz (aL rfl))),by simp only[aN,aN,J.fl],⟨[],rs.zip fs,rfl,List.zip_map,rfl,.nil I⟩,rfl,rfl,λu v rest b z=>⟨⟨up (zM rm),up (.head _)⟩,?_⟩,λb z=>⟨⟨up (zM rm),up (.head _)⟩,?_⟩⟩));·
  obtain⟨dn,rt,e,er,ha,ap⟩:=z;obtain⟨H1,g1⟩:=b;have ha:H1.a=H.a:=ha;have ap:eQ g T (rows ((cX rs fs).take dn.length)) g1 (T+(rows ((cX rs fs).take dn.length)).length):=ap;induction rt using b7 with
   |nil=>nomatch er|cons p rt=>
    obtain⟨x,f⟩:=p;obtain⟨e1,rfl⟩:=cq er;obtain⟨rfl,rfl⟩:=RX.mp e1;have at1:(rs.zip fs)[dn.length]?=af (x,f):=by rw[e,Dn (bq _),IT];rfl
    refine bx ((Q2 (z:=(x,f))).mp at1) λhx hf=>?_;have hx:rs[dn.length]?=af x:=hx;have hf:fs[dn.length]?=af f:=hf;refine il (Pm ok.toRnOk J.sub hx hf ap) λq1 q2 q3 q4=>?_;have x2:=xm x (e8 hx);rw[←ha];refine WS.cons (aei (H:=H1) (D:=D) (ms:=f.2) ⟨ha▸zM x2.1,ha▸zM x2.2⟩ (ha▸P7 (J.fm f (e8 hf))) ap.out.1 q2 q4 q1 q3 λH2 g2 hb Hx=>WS.fin ⟨(H2,g2),rfl,rfl,dn++[(x,f)],rt,by simp only[e,bW];rfl,rfl,hb,?_⟩ rfl);rw[bD];refine(?_:eQ g T (rows ((cX rs fs).take (dn.length+1))) g2 (T+(rows ((cX rs fs).take (dn.length+1))).length));have len:(rows ((cX rs fs).take (dn.length+1))).length=(rows ((cX rs fs).take dn.length)).length+f.2.length:=by simp only[take_snoc (w9 hx hf),CY,bD];exact aO (_+·) (aN _)
    rw[len,←xE,take_snoc (w9 hx hf),CY];exact ap.trans Hx
 ·obtain⟨dn,rt,e,er,ha,ap⟩:=z;obtain⟨H1,g1⟩:=b;have ha:H1.a=H.a:=ha;have ap:eQ g T (rows ((cX rs fs).take dn.length)) g1 (T+(rows ((cX rs fs).take dn.length)).length):=ap;obtain rfl:=f6.mp er.symm;rw[bN]at e;have zl:(cX rs fs).length=dn.length:=by unfold cX;rw[aN,e]
  rw[z7 (e9 zl)]at ap;rw[←ha];refine WS.cons (W1.expr (EV.m PE.name (Mt.inst 2 3 zD) (AV.p0 (CV.call (y4 (H:=H1) ap.out.1) (fj (A:=iA pl iY H1.a) (B:=aJ H1 g1) (C:=(ls,.list (fs.map gI))::(eF C H1.a fD qV++Q))) (λv L z=>?_) (dF.mpr ((ie _ _)))))));obtain⟨H3,g3,hc,⟨rfl,st⟩,rfl⟩:=z;refine WS.keep (M:=eF C H1.a fD qV++(aJ H3 g3++Q)) aep (WS.nil (hR _ _ ⟨H3,g3,(fD,qV,Q,fs),rfl,hc.trans ha,J,⟨g1,ap,st⟩,by rw[ha]⟩))
end
end
section
def xe:∀{t:Tab},(t.map (·.1)).Nodup->(t.lookup x=af k↔(x,k)∈t):=by
 intro t;induction t with
  |nil=>exactλu=>⟨λh=>(by contradiction),λh=>(by contradiction)⟩|cons p t ih=>
   intro h;refine bx (iZ.mp h) λn1 n2=>?_;rw[lj,cg];by_cases q:x=p.1;·
    rw[beq_iff_eq.mpr q];refine⟨λe=>.inl (jq q (bR e).symm),λe=>?_⟩;rcases e with e|e;·exact aO af (aO lW e).symm
    ·exact bA (show p.1∈t.map (·.1)by exact q▸(gK (f:=DS) e)) n1
   ·rw[beq_eq_false_iff_ne.mpr q];exact(ih n2).trans ⟨.inr,λe=>e.elim (λe=>bA (aO DS e) q) id⟩
def HB{s t:Tab}(h:s.Perm t)(n:(t.map (·.1)).Nodup)(x:aI):s.lookup x=t.lookup x:=Option.ext λk=>(xe ((h.map _).nodup_iff.mpr n)).trans (h.mem_iff.trans (xe n).symm)
def P8{t:Tab}(n:(t.map (·.1)).Nodup):t.Nodup:=(jX.mp n).imp λh e=>h (aO _ e)
def P9{s t:Tab}(n:(s.map (·.1)).Nodup)(m:(t.map (·.1)).Nodup)(h:∀x,s.lookup x=t.lookup x):s.Perm t:=(QZ (P8 n) (P8 m)).mpr λp=>(xe (x:=p.1) (k:=p.2) n).symm.trans (ahy (by rw[h]) (xe m))
def aer(p:aI×aa):∀{s:Tab},jD s->∃s',s'.Perm (p::s)/\jD s':=by
 have O:=wo zg;intro s;induction s with
  |nil=>exactλu=>⟨[p],.refl _,List.pairwise_singleton ..⟩|cons q s ih=>
   intro h;obtain⟨h1,h2⟩:=xu.mp h;cases e:eX (fg q) (fg p)with
    |false=>
     refine⟨p::q::s,.refl _,xu.mpr ⟨λv hv=>?_,h⟩⟩;rcases cg.mp hv with rfl|hv;·exact e
     ·refine aq (bt.mp hv) λr hr aC=>?_;subst aC;cases e2:eX (fg r) (fg p)with|false=>rfl|true=>cases e3:eX (fg p) (fg q)with|true=>exact((h1 _ hv).symm.trans (O.tr _ _ _ (mE r) (mE p) (mE q) e2 e3)).symm|false=>have:=O.tot _ _ (mE q) (mE p) e e3;rw[←this]at e2;exact((h1 _ hv).symm.trans e2).symm
    |true=>
     refine aq (ih h2) λs' p' r'=>?_;refine⟨q::s',(p'.cons q).trans (.swap ..),xu.mpr ⟨λv hv=>?_,r'⟩⟩;clear ih;refine aq (bt.mp hv) λr hr aC=>?_;subst aC;rcases cg.mp (p'.mem_iff.mp hr)with rfl|hr;·cases e2:eX (fg r) (fg q)with|false=>rfl|true=>exact(O.Ff _ (mE r)).symm.trans (O.tr _ _ _ (mE r) (mE q) (mE r) e2 e)|>.symm
     ·exact h1 _ (gK hr)
def aes:∀τ:Tab,∃s,s.Perm τ/\jD s:=by intro τ;induction τ with|nil=>exact(aA ([]) (.refl _) .nil)|cons p τ ih=>refine aq ih λs h1 h2=>?_;refine aq (aer p h2) λs' h3 h4=>?_;exact(aA s' (h3.trans (h1.cons p)) h4)
structure qW(p:Tm)(s:Tab):Prop where
 nd:(s.map (·.1)).Nodup
 jC:∀x,(s.lookup x).isSome=ai↔x∈p.vars
def Ex.tab(h:Ex R p [] c τ):qW p τ:=by refine bx h.sound λG u=>?_;exact⟨G.nd .nil,λx=>(G.jC x).trans ⟨λz=>z.elim (λz=>(rA z)) id,.inr⟩⟩
def qW.perm(h:s.Perm τ)(k:qW p τ):qW p s:=⟨(h.map _).nodup_iff.mpr k.nd,λx=>by rw[HB h k.nd];exact k.jC x⟩
def FR.out(h:FR g p c s):qW p s/\Ev (bY g) (su s) p c:=by refine bx h λu bg=>aq bg λτ h1 h2=>?_;have k:=h2.tab;exact⟨k.perm h1,Ev.sub (λx u k' e=>(HB h1 k.nd x).trans e) h2.sound.2⟩
def FR.len(h:FR g p c s):s.length<=p.vars.length:=by refine bx h λu bg=>aq bg λτ h1 h2=>?_;rw[h1.length_eq];have:=h2.sound.1.len;rwa [Am,oZ]at this
def FR.of(r:jD s)(k:qW p s)(h:Ev (bY g) (su s) p c):FR g p c s:=by refine aq (Ex.complete (τ:=[]) h λu u e=>by contradiction) λτ h1 h2=>?_;refine⟨r,τ,P9 k.nd h1.tab.nd λx=>?_,h1⟩;cases e:τ.lookup x with|some v=>exact h2 x v e|none=>cases e2:s.lookup x with|none=>rfl|some v=>have:=(h1.tab.jC x).mpr ((k.jC x).mp (by rw[e2];rfl));rw[e]at this;contradiction
def FR.ex(h:Ev (bY g) σ p c):∃s,FR g p c s/\∀x k,s.lookup x=af k->σ x=af k:=by refine aq (Ex.complete (τ:=[]) h λu u e=>by contradiction) λτ h1 h2=>?_;refine aq (aes τ) λs h3 h4=>?_;exact(aA s (dD h4 (aA τ h3 h1)) (λx k e=>h2 x k ((HB h3 h1.tab.nd x).symm.trans e)))
end
section
def C9(R R':Rel)(φ:aa->aa):Prop:=∀o cs c,R o cs c->R' o (cs.map φ) (φ c)
section
variable{R R':Rel}{φ ψ:aa->aa}{σ:Su}{g g':HG}{T T':aa}
def Ev.map(H:C9 R R' φ):∀{p:Tm}{c:aa},Ev R σ p c->Ev R' (iJ φ σ) p (φ c):=by intro p;induction p with|lf o=>exactλz=>z.imp (λz=>⟨z.1,by show(σ o).map φ=_;rw[z.2];rfl⟩) λz=>⟨z.1,H _ _ _ z.2⟩|un o p ih=>exactλzf=>aq zf λk a b=>(aA (φ k) (ih a) (H _ _ _ b))|bi o p q i1 i2=>exactλzf=>aq zf λk a bg=>aq bg λj b d=>(aA (φ k) (i1 a) (aA (φ j) (i2 b) (H _ _ _ d)))
def dZ.rel(I:HI g T [])(h:dZ g R φ):C9 (bY g) R φ:=λo cs c k=>by refine bL k λm hm e bT=>?_;rw[←bT];have e1:(g.nd m).1=o:=aO DS e;have e2:(g.nd m).2.map g.rt=cs:=aO lW e;rw[←e1,←e2,h.map (I.kids hm),h.2 m hm];exact h.1 m hm
def Grow.HC(I:HI g T [])(G:Grow g g'):dZ g (bY g') g'.rt:=⟨λn hn=>(bH n (bj hn G.le) (by delta canon;rw[G.nd n hn]) rfl),λi hi=>G.co _ _ (I.eO hi) hi (I.gX i hi)⟩
def Nd.rel:C9 (Nd g) (bY g) g.rt:=λo ms m h=>(bH m h.1 (by unfold canon;rw[h.2]) rfl)
def dZ.comp(H:dZ g (bY h) φ)(K:C9 (bY h) R ψ):dZ g R λi=>ψ (φ i):=⟨λn hn=>by have:=K _ _ _ (H.1 n hn);rw[dQ]at this;exact this,λi hi=>aO ψ (H.2 i hi)⟩
end
def oK(R:Rel)(φ:aa->aa)(x:RD)(s:Tab):Prop:=∃z,Ev R (iJ φ (su s)) x.l z/\Ev R (iJ φ (su s)) x.r z
def u9(n:aa)(s:Tab):Prop:=∀y k,s.lookup y=af k->k<n
def Qa(h:u9 n s)(e:∀i,i<n->φ i=ψ i):iJ φ (su s)=iJ ψ (su s):=vQ λx=>by refine(?_:(s.lookup x).map φ=(s.lookup x).map ψ);cases q:s.lookup x with|none=>rfl|some k=>exact aO af (e k (h x k q))
section
variable{R:Rel}{g g':HG}{T T':aa}{φ:aa->aa}{xs:ag (RD×Tab)}
def eQ.lift(F:Fn R)(H:dZ g R φ)(h:eQ g T xs g' T')(k:∀p∈xs,oK R φ p.1 p.2/\u9 g.n p.2):∃φ',dZ g' R φ'/\∀i,i<g.n->φ' i=φ i:=by induction h with|nil I=>exact(aA φ H (λu u=>rfl))|@snoc xs g1 g2 T1 x s A B ih=>refine aq (ih λp hp=>k p (de _ hp)) λφ1 H1 e1=>?_;obtain⟨⟨z,z1,z2⟩,lo⟩:=k (x,s) (bC _ (iB _));refine vR B.pt λga gb m n P1 P2 C=>?_;have gl:=A.out.2.1.le;refine bL (P1.lift R φ1 F H1 z (by rw[Qa lo e1];exact z1)) λφ2 H2 e2 q2=>?_;have pQ:=λi hi=>(e2 i (bj hi gl)).trans (e1 i hi);refine bL (P2.lift R φ2 F H2 z (by rw[Qa lo pQ];exact z2)) λφ3 H3 e3 q3=>?_;refine(aA φ3 (C.qO R φ3 H3 ((e3 m P1.lt).trans (q2.trans q3.symm))) (λi hi=>(e3 i (bj hi (bG gl P1.gr.le))).trans (pQ i hi)))
def Round.lift(F:Fn R)(H:dZ g R φ)(h:Round g T xs g')(k:∀p∈xs,oK R φ p.1 p.2/\u9 g.n p.2):∃φ',dZ g' R φ'/\∀i,i<g.n->φ' i=φ i:=by obtain⟨g1,A,_,_,_,t⟩:=h;refine aq (A.lift F H k) λφ' h1 h2=>?_;exact(aA φ' (t.qO R φ' F h1) h2)
def eQ.done(h:eQ g T xs g' T'):∀p∈xs,∃m n,Ev (Nd g') (su p.2) p.1.l m/\Ev (Nd g') (su p.2) p.1.r n/\m<g'.n/\n<g'.n/\g'.rt m=g'.rt n:=by
 induction h with
  |nil I=>exactλp hp=>by contradiction|@snoc xs g1 g2 T1 x s A B ih=>
   intro p hp;rcases cw.mp hp with hp|hp;·refine j4 (ih p hp) λm n h1 h2 h3 h4 h5=>?_;exact(rJ m n (h1.mono (Nd.grow B.gr)) (h2.mono (Nd.grow B.gr)) (bj h3 B.gr.le) (bj h4 B.gr.le) (B.gr.co m n h3 h4 h5))
   ·rw[bU.mp hp];refine vR B.pt λga gb m n P1 P2 C=>?_;exact(rJ m n (P1.ev.mono (Nd.grow (P2.gr.trans C.gr))) (P2.ev.mono (Nd.grow C.gr)) (bj P1.lt (P2.gr.trans C.gr).le) (bj P2.lt C.gr.le) C.al)
def Round.out(h:Round g T xs g'):HI g' (T+xs.length) []/\g'.wt=[]/\Grow g g'/\g'.n<=g.n+(xs.map λp=>gZ p.1).sum:=by obtain⟨g1,A,_,i,w,t⟩:=h;refine il A.out λu G u n=>?_;exact(ip i w (G.trans t.toGrow) (by exact t.eq▸n))
def Round.done(h:Round g T xs g'):∀p∈xs,∃m n,Ev (Nd g') (su p.2) p.1.l m/\Ev (Nd g') (su p.2) p.1.r n/\m<g'.n/\n<g'.n/\g'.rt m=g'.rt n:=λp hp=>by obtain⟨g1,A,_,i,w,t⟩:=h;refine j4 (A.done p hp) λm n h1 h2 h3 h4 h5=>?_;exact(rJ m n (h1.mono (Nd.grow t.toGrow)) (h2.mono (Nd.grow t.toGrow)) (by rw[t.eq];exact h3) (by rw[t.eq];exact h4) (t.co m n h3 h4 h5))
def oK.HD(h1:Ev (Nd g') (su s) x.l m)(h2:Ev (Nd g') (su s) x.r n)(e:g'.rt m=g'.rt n):oK (bY g') g'.rt x s:=(aA (g'.rt m) (Ev.map Nd.rel h1) (e▸Ev.map Nd.rel h2))
end
end
section
section
variable{R:Rel}{g g1 h h1:HG}{T T' T1:aa}{φ ψ:aa->aa}{σ:Su}{o:aI}{cs:ag aa}{c:aa}{p:Tm}{x:RD}{xs ys:ag (RD×Tab)}
def bY.root(I:HI g T [])(h:bY g o cs c):(c<g.n/\g.rt c=c)/\∀k∈cs,k<g.n/\g.rt k=k:=by refine bL h λm hm e bT=>?_;rw[←bT];have e2:(g.nd m).2.map g.rt=cs:=aO lW e;refine⟨⟨I.eO hm,I.gX m hm⟩,λk hk=>?_⟩;rw[←e2]at hk;refine aq (bt.mp hk) λj hj aC=>?_;rw[←aC];have jn:=I.kids hm j hj;exact⟨I.eO jn,I.gX j jn⟩
def c6.mem:∀{cs:ag aa},c6 R σ ps cs->∀q∈ps,∃k∈cs,Ev R σ q k:=by
 induction ps with
  |nil=>exactλu u hq=>by contradiction|cons p ps ih=>
   intro cs h q hq;refine ba h λc ds aC h1 h2=>?_;clear h;rw[aC];rcases cg.mp hq with rfl|hq;·exact(aA c aR h1)
   ·refine aq (ih h2 q hq) λk h3 h4=>?_;exact(aA k (bK _ h3) h4)
def Ev.low(I:HI g T []):∀{p:Tm}{c:aa},c<g.n/\g.rt c=c->Ev (bY g) σ p c->∀y∈p.vars,∀k,σ y=af k->k<g.n/\g.rt k=k:=by
 intro p;induction p using Tm.ind with
  |h p ih=>
   intro c hc h y hy k hk;by_cases q:isVar p=ai;·rw[Tm.w4 q]at hy;obtain rfl:=bU.mp hy;rw[←bR (((Ev.var q).mp h).symm.trans hk)];exact hc
   ·have q:=mL.mpr q;refine aq ((Ev.app q).mp h) λcs h1 h2=>?_;rw[Tm.qR q]at hy;refine aq (mN.mp hy) λt ht hy=>?_;refine aq (h1.mem t ht) λj hj h3=>?_;exact ih t ht ((bY.root I h2).2 j hj) h3 y hy k hk
def FM.of(I:HI g T [])(hp:isVar p=aD)(h:Ev (bY g) σ p c):∃s,FM g p (c,s)/\∀x k,s.lookup x=af k->σ x=af k:=by refine aq ((Ev.app hp).mp h) λcs u h2=>?_;refine bx (bY.root I h2) λhc u=>?_;refine aq (FR.ex h) λs h3 h4=>?_;exact(aA s (cM hc.1 hc.2 h3) h4)
def FM.low(I:HI g T [])(h:FM g p q):∀y k,q.2.lookup y=af k->k<g.n/\g.rt k=k:=λy k e=>by refine bx (FR.out h.2.2) λt ev=>?_;exact Ev.low I (dD h.1 h.2.1) ev y ((t.jC y).mp (by rw[e];rfl)) k e
def sR(g:HG)(x:RD)(g1:HG):Prop:=∀(σ:Su)(c:aa),Ev (bY g) σ x.l c->∃z,Ev (bY g1) (iJ g1.rt σ) x.l z/\Ev (bY g1) (iJ g1.rt σ) x.r z
def sR.Qb(I:HI g T [])(hv:isVar x.l=aD)(sub:∀y∈x.r.vars,y∈x.l.vars)(h:∀q,FM g x.l q->oK (bY g1) g1.rt x q.2):sR g x g1:=λσ c ev=>by
 refine aq (FM.of I hv ev) λs h1 h2=>?_;refine aq (h _ h1) λz z1 z2=>?_;have k:∀y k,iJ g1.rt (su s) y=af k->iJ g1.rt σ y=af k:=λy k e=>by refine aq (lR.mp e) λk0 e0 aC=>?_;rw[←aC];exact lR.mpr (aA k0 (h2 y k0 e0) rfl)
 exact(aA z (z1.sub λy u=>k y) (z2.sub λy u=>k y))
def aet:iJ ψ (iJ φ s)=iJ (λi=>ψ (φ i)) s:=vQ λx=>by show((s x).map φ).map ψ=(s x).map _;rw[ago];rfl
def Qc(Ig:HI g T [])(Ih:HI h T' [])(G:Grow h h1)(F:Fn (bY h1))(H:dZ g (bY h) φ)(r:Round g T1 xs g1)(rw':∀p∈xs,∃c,FM g p.1.l (c,p.2))(cl:∀p∈xs,sR h p.1 h1):∃φ',dZ g1 (bY h1) φ'/\∀i,i<g.n->φ' i=h1.rt (φ i):=by refine r.lift F (H.comp ((G.HC Ih).rel Ih)) λp hp=>?_;refine dh (rw' p hp) λc fm=>?_;refine bx (FR.out fm.2.2) λu ev=>?_;refine aq (cl p hp _ _ (Ev.map (H.rel Ig) ev)) λz z1 z2=>?_;rw[aet]at z1 z2;exact⟨(aA z z1 z2),λy k e=>(FM.low Ig fm y k e).1⟩
end
def lP(many:aa)(g1 g2:HG):Prop:=∃φ ψ,dZ g1 (bY g2) φ/\dZ g2 (bY g1) ψ/\∀a,a<many->φ a=g2.rt a/\ψ a=g1.rt a
section
variable{gW gP HE HF:HG}{TW TP TW1 TP1 many a b:aa}{xs ys:ag (RD×Tab)}
def lP.round(IW:HI gW TW [])(IP:HI gP TP [])(mW:many<=gW.n)(mP:many<=gP.n)(h:lP many gW gP)(rW:Round gW TW xs HE)(rP:Round gP TP ys HF)(fW:∀p∈xs,∃c,FM gW p.1.l (c,p.2))(fP:∀p∈ys,∃c,FM gP p.1.l (c,p.2))(cW:∀p∈ys,sR gW p.1 HE)(cP:∀p∈xs,sR gP p.1 HF):lP many HE HF:=by
 refine ba h λφ ψ h1 h2 h3=>?_;refine il rW.out λiW wW GW u=>?_;refine il rP.out λiP wP GP u=>?_;refine aq (Qc IW IP GP (iP.fn wP) h1 rW fW cP) λφ' k1 e1=>?_;refine aq (Qc IP IW GW (iW.fn wW) h2 rP fP cW) λψ' k2 e2=>?_;refine(bZ φ' ψ' k1 k2 (λa ha=>(dD ?_ ?_)));·have aP:=bj ha mP;rw[e1 a (bj ha mW),(h3 a ha).1];exact GP.co _ _ (IP.eO aP) aP (IP.gX a aP)
 ·have aW:=bj ha mW;rw[e2 a (bj ha mP),(h3 a ha).2];exact GW.co _ _ (IW.eO aW) aW (IW.gX a aW)
def Qd(Ih:HI h T' [])(H:dZ g (bY h) φ)(C:kC g T a b ga)(S:pI ga (T+1) g')(C2:kC h T' a b hb)(S2:pI hb (T'+1) h')(ha:a<h.n)(lI:b<h.n)(ea:φ a=h.rt a)(eb:φ b=h.rt b):dZ g' (bY h') λi=>h'.rt (φ i):=by obtain⟨_,i2,w2,t2⟩:=S2;obtain⟨_,i1,w1,t1⟩:=S;have G:=C2.gr.trans t2.toGrow;refine t1.qO _ _ (i2.fn w2) (C.qO _ _ (H.comp ((G.HC Ih).rel Ih)) ?_);rw[ea,eb,G.co _ _ (Ih.eO ha) ha (Ih.gX a ha),G.co _ _ (Ih.eO lI) lI (Ih.gX b lI)];exact t2.co a b (by rw[C2.eq];exact ha) (by rw[C2.eq];exact lI) C2.al
def lP.told(IW:HI gW TW [])(IP:HI gP TP [])(mW:many<=gW.n)(mP:many<=gP.n)(h:lP many gW gP)(ha:a<many)(hb:b<many)(C:kC gW TW a b ga)(S:pI ga (TW+1) dA)(C2:kC gP TP a b gb)(S2:pI gb (TP+1) dP):lP many dA dP:=by
 refine ba h λφ ψ h1 h2 h3=>?_;refine(bZ _ _ (Qd IP h1 C S C2 S2 (bj ha mP) (bj hb mP) (h3 a ha).1 (h3 b hb).1) (Qd IW h2 C2 S2 C S (bj ha mW) (bj hb mW) (h3 a ha).2 (h3 b hb).2) (λk hk=>(dD ?_ ?_)));·obtain⟨_,i2,w2,t2⟩:=S2;have kP:=bj hk mP;rw[(h3 k hk).1];exact(C2.gr.trans t2.toGrow).co _ _ (IP.eO kP) kP (IP.gX k kP)
 ·obtain⟨_,i2,w2,t2⟩:=S;have kW:=bj hk mW;rw[(h3 k hk).2];exact(C.gr.trans t2.toGrow).co _ _ (IW.eO kW) kW (IW.gX k kW)
end
end
section
noncomputable def zN(o:aI):ag Tm->Tm|[]=>.lf o|[a]=>.un o a|a::b::_=>.bi o a b
def aeu:(zN o ks).op=o:=by match ks with|[]=>rfl|[a]=>rfl|a::b::_=>rfl
def aev(h:ks.length<=2):(zN o ks).kids=ks:=by match ks,h with|[],_=>rfl|[a],_=>rfl|[a,b],_=>rfl
noncomputable def HJ(nd:aa->Node):aa->aa->Tm|0,_=>.lf "a"|k+1,n=>zN (nd n).1 ((nd n).2.map (HJ nd k))
def oM(g:HG)(n:aa):Tm:=HJ g.nd (n+1) n
section
variable{g g1 g2:HG}{T T1 T2:aa}{φ ψ:aa->aa}{R:Rel}
def aew(I:HI g T []):∀(n:aa),n<g.n->∀k,n<k->HJ g.nd k n=oM g n:=by intro n;induction n using p8 with|_ n ih=>intro hn k hk;obtain⟨k,rfl⟩:=sU (jY (br (cF _) hk));refine aO _ (gL λj hj=>?_);have jn:=(I.iy n hn).2 j hj;have jg:=df jn hn;rw[ih j jn jg k ((nE (br jn hk))),ih j jn jg n jn]
def C'(I:HI g T [])(hn:n<g.n):(oM g n).op=(g.nd n).1/\(oM g n).kids=(g.nd n).2.map (oM g):=by have e:oM g n=zN (g.nd n).1 ((g.nd n).2.map (oM g)):=aO (zN _) (gL λj hj=>aew I j (I.kids hn j hj) n ((I.iy n hn).2 j hj));exact e▸(⟨aeu,aev (by rw[aN];exact(I.iy n hn).1)⟩)
def jE(g:HG):Prop:=∀i,i<g.n->isVar (.lf (g.nd i).1)=aD
def Qe(h:isVar (.lf t.op)=aD):isVar t=aD:=by cases t with|lf o=>exact h|un o t=>rfl|bi o t u=>rfl
def aex(I:HI g T [])(O:jE g):∀(n:aa),n<g.n->∀s∈(oM g n).subs,isVar s=aD:=by
 intro n;induction n using p8 with
  |_ n ih=>
   intro hn s hs;refine bx (C' I hn) λe1 e2=>?_;rw[Tm.uR]at hs;rcases cg.mp hs with rfl|hs;·exact Qe (e1▸O n hn)
   ·refine aq (mN.mp hs) λk hk hs=>?_;rw[e2]at hk;refine aq (bt.mp hk) λj hj aC=>?_;clear hk;subst aC;exact ih j ((I.iy n hn).2 j hj) (I.kids hn j hj) s hs
def c6.yJ{ks:ag aa}(h:∀k∈ks,Ev R sN (f k) (φ k)):c6 R sN (ks.map f) (ks.map φ):=by induction ks with|nil=>rfl|cons k ks ih=>exact(bZ (φ k) (ks.map φ) rfl (h k aR) (ih λj hj=>h j (bK _ hj)))
def aey(I:HI g T [])(O:jE g)(H:dZ g R φ):∀(n:aa),n<g.n->Ev R sN (oM g n) (φ n):=by intro n;induction n using p8 with|_ n ih=>intro hn;obtain⟨e1,e2⟩:=C' I hn;refine(Ev.app (Qe (e1▸O n hn))).mpr (aA ((g.nd n).2.map φ) ?_ (e1▸H.1 n hn));exact e2▸(c6.yJ λk hk=>ih k ((I.iy n hn).2 k hk) (I.kids hn k hk))
def Qf(I1:HI g1 T1 [])(w1:g1.wt=[])(I2:HI g2 T2 [])(h1:dZ g1 (bY g2) φ)(h2:dZ g2 (bY g1) ψ):∀(n:aa),n<g1.n->ψ (φ n)=g1.rt n:=by
 intro n;induction n using p8 with
  |_ n ih=>
   intro hn;have k1:=h2.rel I2 _ _ _ (h1.1 n hn);have e:((g1.nd n).2.map φ).map ψ=(g1.nd n).2.map g1.rt:=by rw[dQ];exact gL λj hj=>ih j ((I1.iy n hn).2 j hj) (I1.kids hn j hj)
   rw[e]at k1;exact I1.fn w1 _ _ _ _ k1 (bH n hn rfl rfl)
def iN(g:HG)(b k:aa):Prop:=b<=g.n/\∀j,j<g.n->sL g b j k
def iN.qU(I:HI g T [])(h:iN g b k)(hz:b+k<64)(hn:n<g.n):∃cl:ag aa,cl.length<64/\n∈cl/\∀i∈cl,i<g.n/\∀j∈(g.nd i).2,j∈cl:=by
 refine bx h λhb h=>?_;refine bL (h n hn) λex h1 h2 h3=>?_;have m:∀j,j<b\/j∈ex->j∈bS b++ex:=λj z=>z.elim (λz=>de _ (dT.mpr z)) (bC _);refine(bH (bS b++ex) (by rw[bD,iR];exact l3 0x402a2098121402a1092 hz h1) (m n h2) (λi hi=>?_));rcases cw.mp hi with hi|hi;·have hi:=dT.mp hi;have ig:=bj hi hb;exact⟨ig,λj hj=>m j (.inl (df ((I.iy i ig).2 j hj) hi))⟩
 ·exact⟨(h3 i hi).1,λj hj=>m j ((h3 i hi).2 j hj)⟩
def aez{t:Tm}(h:∀k∈t.kids,k.dep<=d):t.dep<=d+1:=by induction t using Tm.casesOn with|lf o=>exact ie ..|un o t=>have:=h t aR;exact l2 124582981889 this|bi o t u=>show 1+max t.dep u.dep<=_;have:=h t aR;have:=h u (bK _ aR);lia
def aeA(I:HI g T []){cl:ag aa}(hc:∀i∈cl,i<g.n/\∀j∈(g.nd i).2,j∈cl):∀(n:aa),n∈cl->(oM g n).dep<=(cl.filter λi=>decide (i<=n)).length:=by
 intro n;induction n using p8 with
  |_ n ih=>
   intro hn;obtain⟨ng,hk⟩:=hc n hn;obtain⟨_,e2⟩:=C' I ng;have lt:(cl.filter λi=>decide (i<n)).length+1<=(cl.filter λi=>decide (i<=n)).length:=by
    clear ih e2 hk hc;induction cl with
     |nil=>contradiction|cons c cl ph=>
      have mono:(cl.filter λi=>decide (i<n)).length<=(cl.filter λi=>decide (i<=n)).length:=by
       clear ph hn;induction cl with
        |nil=>exact bq _|cons d cl HK=>
         rw[rq,rq];by_cases q:d<n;·rw[a0 (c7 q),a0 (c7 (bF q))];exact mO HK
         ·rw[aX (by rw[dS q];exact fH)];split;·exact Aj HK
          ·exact HK
      rw[rq,rq];by_cases q:c=n;·rw[q];rw[aX (by rw[dS (i6 _)];exact fH),a0 (c7 (bq _))];exact mO mono
      ·have:=ph ((cg.mp hn).resolve_left λe=>q e.symm);by_cases q2:c<n;·rw[a0 (c7 q2),a0 (c7 (bF q2))];exact mO this
       ·rw[aX (by rw[dS q2];exact fH),aX (by rw[dS (by lia)];exact fH)];exact this
   refine bG (aez (d:=(cl.filter λi=>decide (i<n)).length) λt ht=>?_) lt;rw[e2]at ht;refine aq (bt.mp ht) λj hj aC=>?_;rw[←aC];have jn:=(I.iy n ng).2 j hj;refine bG (ih j jn (hk j hj)) ?_;exact afy▸afy▸(List.countP_mono_left λi u hi=>c7 (br (gD hi) jn))
def Wi.of(I1:HI g1 T1 [])(w1:g1.wt=[])(I2:HI g2 T2 [])(O1:jE g1)(h1:dZ g1 (bY g2) φ)(h2:dZ g2 (bY g1) ψ)(C:iN g1 b k)(hz:b+k<64):Wi g1 g2 64 φ (oM g1):=by
 have qU:=λn(hn:n<g1.n)=>C.qU I1 hz hn;refine⟨λn hn=>?_,λn hn=>?_,aex I1 O1,aey I1 O1 h1,λa b ha hb=>⟨λe=>?_,λe=>?_⟩,qU⟩;·refine bx (C' I1 hn) λe1 e2=>?_;rw[lO (oM g1 n),e1,e2,dQ];rfl
 ·refine bL (qU n hn) λcl c1 c2 c3=>?_;exact bG (aeA I1 c3 n c2) (bG (Du ..) (bF c1))
 ·rw[←h1.2 a ha,←h1.2 b hb,e]
 ·rw[←Qf I1 w1 I2 h1 h2 a ha,←Qf I1 w1 I2 h1 h2 b hb,e]
end
end
section
def iK.up:∀{k j c:aa},k<=j->iK g P k c->iK g P j c:=by
 intro k j;induction j with
  |zero=>intro c h z;rwa [ahk.mp h]at z|succ j ih=>
   intro c h z;rcases Nat.lt_or_eq_of_le h with h|h;·exact .inl (ih (nE h) z)
   ·exact h▸z
def c6.imp:∀{ts:ag Tm}{cs:ag aa},(∀t∈ts,∀c∈cs,Ev R σ t c->Ev R' σ t c)->c6 R σ ts cs->c6 R' σ ts cs:=by intro ts;induction ts with|nil=>exactλu h=>h|cons t ts ih=>intro cs k h;refine ba h λc ds aC h1 h2=>?_;clear h;subst aC;exact(bZ c ds rfl (k t aR c aR h1) (ih (λt ht c hc=>k t (bK _ ht) c (bK _ hc)) h2))
def c6.len:∀{ts:ag Tm}{cs:ag aa},c6 R σ ts cs->ts.length=cs.length:=by intro ts;induction ts with|nil=>intro cs h;rw[(h:cs=[])];rfl|cons t ts ih=>intro cs h;refine ba h λc ds aC u h2=>?_;rw[aC];exact aO (·+1) (ih h2)
section
variable{g g0:HG}{T:aa}{l:ag Node}{σ:Su}{p:Tm}
def Qg(I:HI g T [])(h:¬qT g g0.n 0 c)(hm:m<g.n)(e:g.rt m=c):m=c/\m<g0.n:=by refine⟨afv λq=>h ?_,agA λq=>h (.inl (bH m q hm e))⟩;refine aq (I.yZ m hm λz=>q (z.symm.trans e)) λj hj bg=>fX bg λa b r h1 h2 h3=>?_;exact .inr (bH j hj (cF _) (tj a b r h1 (h3.trans e)))
def aeB(I:HI g T [])(G:Grow g0 g):∀{p:Tm}{c:aa},Ev (bY g) σ p c->¬iK g (qT g g0.n 0) (p.dep-1) c->Ev (Nd g0) σ p c:=by
 intro p;induction p using Tm.ind with
  |h p ih=>
   intro c h nr;by_cases q:isVar p=ai;·exact(Ev.var q).mpr ((Ev.var q).mp h)
   ·have q:=mL.mpr q;refine aq ((Ev.app q).mp h) λcs h1 bg=>bL bg λm hm e hc=>?_;have e1:=aO DS e;have e2:(g.nd m).2.map g.rt=cs:=aO lW e;clear h bg e;obtain⟨rfl,m0⟩:=Qg I (λz=>nr (iK.up (k:=0) (cF _) z)) hm hc;have hl:p.kids.length=(g.nd m).2.length:=by rw[←aN (f:=g.rt),e2];exact h1.len
    have iy:∀k∈(g.nd m).2,∀t∈p.kids,¬iK g (qT g g0.n 0) (t.dep-1) (g.rt k):=λk hk t ht z=>by refine nr (iK.up (k:=t.dep-1+1) (l4 0x32d73d1102d3102 (Tm.pL ht) (fY (l1 28770482 t.ny)) kQ) (.inr (bH m hm hc (aA k hk z))))
    have ce:cs=(g.nd m).2:=by rw[←e2];refine(gL λk hk=>?_).trans (qb _);cases et:p.kids with|nil=>rw[et]at hl;rw[vn hl.symm]at hk;nomatch hk|cons t ts=>have:=iy k hk t (et▸aR);exact(Qg I (λz=>this (iK.up (k:=0) (cF _) z)) (I.kids hm k hk) rfl).1.symm
    refine(Ev.app q).mpr (bH cs (h1.imp λt ht k hk ev=>ih t ht ev ?_) m0 ?_);·rw[←e2]at hk;refine aq (bt.mp hk) λj hj aC=>?_;rw[←aC];exact iy j hj t ht
    ·exact((G.nd m m0))▸(jq e1 ce.symm)
def HL{f:aa->aa}:∀{s:Tab},(s.map λp=>(p.1,f p.2)).lookup x=(s.lookup x).map f:=by intro s;induction s with|nil=>rfl|cons p s ih=>rw[jk,lj,lj];cases x==p.1 with|true=>rfl|false=>exact ih
def semi(I:HI g T [])(F:cO g0 l)(G:Grow g0 g)(hp:isVar p=aD)(h:FM g p q)(nr:¬iK g (qT g g0.n 0) (p.dep-1) q.1):FM g0 p q/\ja g q=q:=by refine bx (FR.out h.2.2) λtk ev=>?_;have e0:=aeB I G ev nr;refine bL ((Ev.app hp).mp e0) λcs u c0 u=>?_;have nh:∀o cs c,Nd g0 o cs c->bY g0 o cs c:=λo cs c z=>(bH c z.1 (by delta canon;rw[z.2];refine jq rfl ((gL λk hk=>F.rt ?_).trans (qb _));exact F.hi.kids z.1 k (by rw[z.2];exact hk)) (F.rt z.1));refine⟨⟨c0,F.rt c0,FR.of h.2.2.1 tk (e0.mono nh)⟩,?_⟩;refine jq h.2.1 ((gL λy hy=>?_).trans (qb _));exact jq rfl (FM.low I h y.1 y.2 ((xe tk.nd).mpr hy)).2
end
def oK.HM{g g1:HG}(I:HI g T [])(G:Grow g g1)(lo:u9 g.n s)(h:oK (bY g1) g1.rt x s):oK (bY g1) g1.rt x (s.map λp=>(p.1,g.rt p.2)):=by
 have e:iJ g1.rt (su (s.map λp=>(p.1,g.rt p.2)))=iJ g1.rt (su s):=vQ λy=>by refine(?_:((s.map λp=>(p.1,g.rt p.2)).lookup y).map g1.rt=(s.lookup y).map g1.rt);rw[HL];cases q:s.lookup y with|none=>rfl|some k=>have hk:=lo y k q;exact aO af (G.co _ _ (I.eO hk) hk (I.gX k hk))
 delta oK;exact e▸h
end
section
def aeC:∀{l:ag aa},x∈l->x<=l.sum:=by
 intro l;induction l with
  |nil=>exactλh=>by cases h|cons y l ih=>
   intro h;rcases cg.mp h with rfl|h;·exact dE ..
   ·exact bG (ih h) (ie ..)
def Qh:∀{l:ag aa},(∀x∈l,x=0)->l.sum=0:=by intro l;induction l with|nil=>exactλu=>rfl|cons y l ih=>exactλh=>by rw[vK,h y aR,ih λx hx=>h x (bK _ hx)]
section
variable{g g':HG}{T T' b k:aa}{xs:ag (RD×Tab)}{ω:aI->aa}
def iN.grow(G:Grow g g')(e:g'.n=g.n)(h:iN g b k):iN g' b k:=⟨by exact e▸h.1,λj hj=>(h.2 j (e▸hj)).grow G (bq _)⟩
def iN.put(A:nA g T σ p m g')(lo:∀x i,σ x=af i->i<b)(hk:p.wt one<=k)(h:iN g b k):iN g' b k:=⟨bG h.1 A.gr.le,λj hj=>by
 rcases Ay j g.n with q|q;·exact(h.2 j q).grow A.gr (bq _)
 ·exact((A.ko b lo).2 j q hj).grow .refl hk⟩
def iN.apps(h:eQ g T xs g' T')(lo:∀p∈xs,u9 b p.2)(hk:∀p∈xs,p.1.l.wt one<=k/\p.1.r.wt one<=k)(c:iN g b k):iN g' b k:=by induction h with|nil I=>exact c|@snoc xs g1 g2 T1 x s A B ih=>have l1:=lo (x,s) (bC _ (iB _));refine bx (hk (x,s) (bC _ (iB _))) λk1 k2=>?_;refine vR B.pt λga gb m n P1 P2 C=>?_;exact(((ih (λp hp=>lo p (de _ hp)) λp hp=>hk p (de _ hp)).put P1 l1 k1).put P2 l1 k2).grow C.gr C.eq
def iN.round(h:Round g T xs g')(lo:∀p∈xs,u9 b p.2)(hk:∀p∈xs,p.1.l.wt one<=k/\p.1.r.wt one<=k)(c:iN g b k):iN g' b k:=by obtain⟨g1,A,_,_,_,t⟩:=h;exact(c.apps A lo hk).grow t.toGrow t.eq
def iN.self:iN g g.n k:=⟨bq _,λj hj=>(bH ([]) (cF _) (.inl hj) (λu h=>(by contradiction)))⟩
def Wt.eq(G:Grow g g')(e:g'.n=g.n):Wt g' ω=Wt g ω:=by delta Wt;rw[e];exact aO ahw (gL λi hi=>by rw[G.nd i (dT.mp hi)])
def eQ.wt(h:eQ g T xs g' T'):Wt g' ω<=Wt g ω+(xs.map λp=>p.1.l.wt ω+p.1.r.wt ω).sum:=by induction h with|nil I=>exact bq _|@snoc xs g1 g2 T1 x s A B ih=>refine vR B.pt λga gb m n P1 P2 C=>?_;rw[Wt.eq C.gr C.eq,cy,nF];show _<=_+(_+(x.l.wt ω+x.r.wt ω));exact l7 0x649291957639514093121901 ih (P1.ct ω) (P2.ct ω)
def eQ.Dc(h:eQ g T xs g' T')(hl:∀p∈xs,∃m,Ev (Nd g) (su p.2) p.1.l m):Wt g' ω<=Wt g ω+(xs.map λp=>p.1.r.wt ω).sum:=by induction h with|nil I=>exact bq _|@snoc xs g1 g2 T1 x s A B ih=>refine vR B.pt λga gb m n P1 P2 C=>?_;have h0:=ih λp hp=>hl p (de _ hp);obtain⟨m0,e0⟩:=hl (x,s) (bC _ (iB _));clear B ih hl;obtain rfl:=P1.same m0 (e0.mono (Nd.grow A.out.2.1));rw[Wt.eq C.gr C.eq,cy,nF];exact l5 0x42919374093121901 h0 (P2.ct ω)
def Round.wt(h:Round g T xs g'):Wt g' ω<=Wt g ω+(xs.map λp=>p.1.l.wt ω+p.1.r.wt ω).sum:=by obtain⟨g1,A,_,_,_,t⟩:=h;exact(Wt.eq t.toGrow t.eq)▸A.wt
def Round.Dc(h:Round g T xs g')(hl:∀p∈xs,∃m,Ev (Nd g) (su p.2) p.1.l m):Wt g' ω<=Wt g ω+(xs.map λp=>p.1.r.wt ω).sum:=by obtain⟨g1,A,_,_,_,t⟩:=h;exact(Wt.eq t.toGrow t.eq)▸(A.Dc hl)
def vω:aI->aa:=λo=>if isVar (.lf o)=ai then 1 else 0
def jE.of(h:Wt g vω=0):jE g:=λi hi=>by
 have h1:vω (g.nd i).1<=Wt g vω:=aeC (bt.mpr (aA i (dT.mpr hi) rfl));rw[h]at h1;delta vω at h1;split at h1;·nomatch h1
 ·next q=>exact mL.mpr q
def jE.wt(h:jE g):Wt g vω=0:=by refine Qh λx hx=>?_;refine aq (bt.mp hx) λi hi aC=>?_;rw[←aC];delta vω;exact(h i (dT.mp hi))▸(aX fH)
def jE.round(h:Round g T xs g')(O:jE g)(k:∀p∈xs,p.1.l.wt vω=0/\p.1.r.wt vω=0):jE g':=by refine .of (ahk.mp (bG h.wt ?_));rw[O.wt,oZ];refine e9 (Qh λx hx=>?_);refine aq (bt.mp hx) λp hp aC=>?_;rw[←aC];refine bx (k p hp) λk1 k2=>?_;rw[k1,k2]
def jE.grow(G:Grow g g')(e:g'.n=g.n)(O:jE g):jE g':=λi hi=>by rw[G.nd i (e▸hi)];exact O i (e▸hi)
end
end
section
def zO{α β:Type}{P:α->β->Prop}:∀{ms:ag α}{L:ag β},ms.Nodup->(∀q∈ms,∃k∈L,P q k)->(∀q∈ms,∀q'∈ms,∀k,P q k->P q' k->q=q')->ms.length<=L.length:=by classical intro ms;induction ms with|nil=>exactλu u u=>cF _|cons q ms ih=>intro L n h inj;refine bx (iZ.mp n) λn1 n2=>?_;refine aq (h q aR) λk hk pk=>?_;have:=ih (L:=L.erase k) n2 (λq' kB=>by refine aq (h q' (bK _ kB)) λk' eu Qi=>?_;refine(aA k' ((z9 λe=>n1 ?_).mpr eu) Qi);exact(inj q aR q' (bK _ kB) k pk (e▸Qi))▸kB) λa ha b hb k=>inj a (bK _ ha) b (bK _ hb) k;rw[Q4 hk]at this;have:=afQ hk;dsimp only[lU];exact l3 2256772346113 ‹_› (fY (l1 28770482 this))
def va(σ τ:Su)(p:Tm):Prop:=∀x∈p.vars,∃k,σ x=af k/\τ x=af k
section
variable{R:Rel}{σ τ:Su}{g:HG}{T:aa}{p t:Tm}{c c':aa}{s s':Tab}
def Qj(hk:p.kids=[])(h:Ev R σ p c)(h':Ev R τ p c):va σ τ p:=λx hx=>by
 by_cases q:isVar p=ai;·rw[Tm.w4 q]at hx;rw[bU.mp hx];exact(aA c ((Ev.var q).mp h) ((Ev.var q).mp h'))
 ·rw[Tm.qR (mL.mpr q),hk]at hx;nomatch hx
def Qk:∀{ts:ag Tm}{cs:ag aa},(∀t∈ts,∀c,Ev R σ t c->Ev R τ t c->va σ τ t)->c6 R σ ts cs->c6 R τ ts cs->∀x∈ts.flatMap Tm.vars,∃k,σ x=af k/\τ x=af k:=by
 intro ts;induction ts with
  |nil=>exactλu u u x hx=>nomatch hx|cons t ts ih=>
   intro cs k h h' x hx;refine ba h λc ds aC h1 h2=>?_;clear h;subst aC;refine ba h' λc' ds' e h3 h4=>?_;obtain⟨rfl,rfl⟩:=cq e;rcases cw.mp hx with hx|hx;·exact k t aR c h1 h3 x hx
   ·exact ih (λt ht=>k t (bK _ ht)) h2 h4 x hx
def Flat(p:Tm):Prop:=isVar p=aD/\∀t∈p.kids,t.kids=[]
def HN(h:Flat p)(h1:c6 R σ p.kids cs)(h2:c6 R τ p.kids cs):va σ τ p:=λx hx=>by rw[Tm.qR h.1]at hx;exact Qk (λt ht c=>Qj (h.2 t ht)) h1 h2 x hx
def aeD(k:qW p s)(k':qW p s')(r:jD s)(r':jD s')(h:va (su s) (su s') p):s=s':=by
 refine jD.uniq r r' (P9 k.nd k'.nd λx=>?_);by_cases q:x∈p.vars;·refine aq (h x q) λk e1 e2=>?_;exact e1.trans e2.symm
 ·have e1:∀{s:Tab},qW p s->s.lookup x=ah:=λ{s}k=>by cases e:s.lookup x with|none=>rfl|some v=>exact bA ((k.jC x).mp (by rw[e];rfl)) q
  rw[e1 k,e1 k']
def FM.eq(h:FM g p q)(h':FM g p q')(e:q.1=q'.1)(a:va (su q.2) (su q'.2) p):q=q':=jq e (aeD (FR.out h.2.2).1 (FR.out h'.2.2).1 h.2.2.1 h'.2.2.1 a)
def HO{ms:ag cI}(hp:Flat p)(nd:ms.Nodup)(h:∀q∈ms,FM g p q):ms.length<=g.n:=by
 have:=zO (L:=bS g.n) (P:=λq m=>∃cs,canon g m=(p.op,cs)/\g.rt m=q.1/\c6 (bY g) (su q.2) p.kids cs) nd (λq hq=>by refine aq ((Ev.app hp.1).mp (FR.out (h q hq).2.2).2) λcs h1 bg=>bL bg λm hm e hc=>?_;exact(aA m (dT.mpr hm) (bH cs e hc h1))) λq hq q' kB m k k'=>by refine bL k λcs e1 e2 e3=>?_;refine bL k' λqX vb pQ vc=>?_;obtain rfl:cs=qX:=aO lW (e1.symm.trans vb);exact FM.eq (h q hq) (h q' kB) (e2.symm.trans pQ) (HN hp e3 vc)
 rwa [iR]at this
def aeE(h:Ev (bY g) σ (.un o t) c):∃k,Ev (bY g) σ t k/\bY g o [k] c:=h
def HQ{ms:ag cI}(F:Fn (bY g))(ht:Flat t)(nd:ms.Nodup)(h:∀q∈ms,FM g (.un o t) q):ms.length<=g.n:=by
 have:=zO (L:=bS g.n) (P:=λq v=>∃cs,canon g v=(t.op,cs)/\bY g o [g.rt v] q.1/\c6 (bY g) (su q.2) t.kids cs) nd (λq hq=>by refine aq (aeE (FR.out (h q hq).2.2).2) λk h1 h2=>?_;refine aq ((Ev.app ht.1).mp h1) λcs h3 bg=>bL bg λv hv e qp=>?_;clear nd h1 bg;subst qp;exact(aA v (dT.mpr hv) (bH cs e h2 h3))) λq hq q' kB m k k'=>by refine bL k λcs e1 e2 e3=>?_;refine bL k' λqX vb pQ vc=>?_;obtain rfl:cs=qX:=aO lW (e1.symm.trans vb);refine FM.eq (h q hq) (h q' kB) (F _ _ _ _ e2 pQ) λx hx=>HN ht e3 vc x (((Tm.qR (p:=.un o t) rfl).trans (bN _))▸hx)
 rwa [iR]at this
end
end
section
def Ql{α β:Type}{f:α->ag β}:∀{l:ag α},(∀x∈l,(f x).length<=i)->(l.flatMap f).length<=l.length*i:=by intro l;induction l with|nil=>exactλu=>cF _|cons x l ih=>intro h;rw[Ah,bD,lU,Ax,rC];exact vJ (ih λy hy=>h y (bK _ hy)) (h x aR)
noncomputable def mH(o:aI):aI->aa:=λx=>if x=o then 1 else 0
noncomputable def vd(g:HG)(o:aI):ag aa:=(bS g.n).filter λi=>decide ((g.nd i).1=o)
def aeF:(vd g o).length=Wt g (mH o):=by
 delta vd Wt;induction g.n with
  |zero=>rfl|succ n ih=>
   simp only[IC,Rr,bD,cy,nF,ih];refine aO (_+·) ?_;rw[rq];show(if decide ((g.nd n).1=o)=ai then [n]else []).length=(mH o (g.nd n).1)+0;unfold mH;by_cases q:(g.nd n).1=o;·rw[a0 (c7 q),a0 q];rfl
   ·rw[aX (by exact(dS q)▸fH),aX q];rfl
section
variable{g:HG}{T:aa}{t u:Tm}{o:aI}{ms:ag cI}
noncomputable def ve(g:HG):ag aa:=(bS g.n).filter λc=>decide (g.rt c=c)
noncomputable def vf(g:HG)(k:aa):ag aa:=(bS g.n).filter λc=>decide (g.rt c=k)
def Qm(hk:k<g.n)(e:g.rt k=k):(ve g).length+(vf g k).length<=g.n+1:=by
 have nd:∀p:aa->bw,((bS g.n).filter p).Nodup:=λp=>Ak.filter _;have dM:k∈vf g k:=gM.mpr ⟨dT.mpr hk,c7 e⟩;have h1:(ve g++(vf g k).erase k).Nodup:=gA.mpr ⟨nd _,(nd _).erase _,λa ha b hb eq=>by subst eq;obtain⟨h2,h3⟩:=(aip (nd _)).mp hb;exact h2 ((gD (gM.mp ha).2).symm.trans (gD (gM.mp h3).2))⟩;have h2:=len_sub h1 (ys:=bS g.n) λi hi=>by
  rcases cw.mp hi with hi|hi;·exact(gM.mp hi).1
  ·exact(gM.mp (List.mem_of_mem_erase hi)).1
 simp only[bD,iR,Q4 dM]at h2;have:=afQ dM;exact l4 0x2d30971d3121091 h2 kQ
def Qn(h:Ev (bY g) σ (.bi o t u) c):∃k j,Ev (bY g) σ t k/\Ev (bY g) σ u j/\bY g o [k,j] c:=by refine aq h λk a bg=>aq bg λj b d=>?_;exact⟨k,j,a,b,d⟩
def Qo(ht:Flat t)(hu:u.kids=[])(h1:c6 (bY g) σ t.kids cs)(h2:c6 (bY g) τ t.kids cs)(h3:Ev (bY g) σ u j)(h4:Ev (bY g) τ u j):va σ τ (.bi o t u):=λx hx=>by
 rw[Tm.qR (p:=.bi o t u) rfl]at hx;show _;rcases cw.mp (show x∈t.vars++(u.vars++[])from hx)with hx|hx;·exact HN ht h1 h2 x hx
 ·rw[bN]at hx;exact Qj hu h3 h4 x hx
def aeG(I:HI g T [])(F:Fn (bY g))(ht:Flat t)(hu:u.kids=[])(nd:ms.Nodup)(h:∀q∈ms,FM g (.bi o t u) q):ms.length<=(vd g t.op).length*(ve g).length/\ms.length<=(vd g o).length*(g.n+1-(ve g).length):=by
 constructor;·
  refine bG (zO (L:=(vd g t.op).flatMap λv=>(ve g).map λj=>(v,j)) (P:=λq k=>∃cs,canon g k.1=(t.op,cs)/\bY g o [g.rt k.1,k.2] q.1/\c6 (bY g) (su q.2) t.kids cs/\Ev (bY g) (su q.2) u k.2) nd (λq hq=>?_) λq hq q' kB m k k'=>?_) (Ql λv w=>e9 (aN _));·refine ba (Qn (FR.out (h q hq).2.2).2) λk j h1 h2 h3=>?_;refine aq ((Ev.app ht.1).mp h1) λcs h4 bg=>bL bg λv hv e qp=>?_;subst qp;obtain⟨_,hj⟩:=bY.root I h3;obtain⟨j1,j2⟩:=hj j (bK _ aR);exact(aA ((v,j)) (mN.mpr ⟨v,gM.mpr ⟨dT.mpr hv,c7 (aO DS e)⟩,bt.mpr (aA j (gM.mpr ⟨dT.mpr j1,c7 j2⟩) rfl)⟩) (rH cs e h3 h4 h2))
  ·refine rG k λcs e1 e2 e3 e4=>?_;refine rG k' λqX vb pQ vc HR=>?_;obtain rfl:cs=qX:=aO lW (e1.symm.trans vb);exact FM.eq (h q hq) (h q' kB) (F _ _ _ _ e2 pQ) (Qo ht hu e3 vc e4 HR)
 ·refine bG (zO (L:=(vd g o).flatMap λm=>(vf g (g.rt ((g.nd m).2.headD 0))).map λv=>(m,v)) (P:=λq k=>∃cs j,canon g k.2=(t.op,cs)/\canon g k.1=(o,[g.rt k.2,j])/\g.rt k.1=q.1/\c6 (bY g) (su q.2) t.kids cs/\Ev (bY g) (su q.2) u j) nd (λq hq=>?_) λq hq q' kB m k k'=>?_) (Ql λm hm=>?_);·refine ba (Qn (FR.out (h q hq).2.2).2) λk j h1 h2 bg=>bL bg λm hm em ec=>?_;refine aq ((Ev.app ht.1).mp h1) λcs h4 bg=>bL bg λv hv e qp=>?_;clear F nd h1 bg;subst qp;have ek:(g.nd m).2.map g.rt=[g.rt v,j]:=aO lW em;refine(aA ((m,v)) (mN.mpr ⟨m,gM.mpr ⟨dT.mpr hm,c7 (aO DS em)⟩,bt.mpr (aA v (gM.mpr ⟨dT.mpr hv,c7 ?_⟩) rfl)⟩) (rJ cs j e em ec h4 h2));cases en:(g.nd m).2 with|nil=>rw[en]at ek;contradiction|cons a as=>rw[en]at ek;exact(cq ek).1.symm
  ·refine j4 k λcs j e1 e2 e3 e4 e5=>?_;refine j4 k' λqX j' vb pQ vc HR e5'=>?_;obtain rfl:cs=qX:=aO lW (e1.symm.trans vb);obtain rfl:j=j':=(cq (cq (aO lW (e2.symm.trans pQ))).2).1;exact FM.eq (h q hq) (h q' kB) (e3.symm.trans vc) (Qo ht hu e4 HR e5 e5')
  ·rw[aN];have mn:=dT.mp (gM.mp hm).1;cases en:(g.nd m).2 with
    |nil=>
     have z:∀k,k<g.n->(vf g k).length<=g.n+1-(ve g).length:=λk hk=>by
      have:=Qm (g:=g) (I.eO hk) (I.gX k hk);by_cases q:g.rt k=k;·rw[q]at this;exact l4 0x3170392d12d1091 this kQ
      ·have e0:vf g k=[]:=Q9.mpr λi hi e=>q (by have:=gD e;exact this▸(I.gX i (dT.mp hi)));exact e0▸(cF _)
     exact z _ (I.eO (br (cF _) mn))|cons a as=>have an:=I.kids mn a (en▸aR);have:=Qm (g:=g) (I.eO an) (I.gX a an);refine(?_:(vf g (g.rt a)).length<=_);exact l4 0x3170392d12d1091 this kQ
end
end
section
def iO(rs:ag b8):Prop:=(∃rem,(rem++rs.map b8.rd).Perm defs)/\rs.length<=2/\rs≠[]
def aeH(p:Tm):bw:=!isVar p&&p.kids.all λt=>t.kids.isEmpty
def vg(h:aeH p=ai):Flat p:=by obtain⟨h1,h2⟩:=bM.mp h;exact⟨(p7 _).mp h1,λt ht=>List.isEmpty_iff.mp (f7.mp h2 t ht)⟩
def aeI(x:RD):bw:=g9 x.l.dep 7&&(SF x.l.vars.length 60&&(g9 (gZ x) 5&&(g9 (x.l.wt one) 9&&(g9 (x.r.wt one) 9&&(jF (x.l.wt vω) 0&&(jF (x.r.wt vω) 0&&((x.l.subs++x.r.subs).all λs=>qP s.op&&(isVar s||wR s.op))))))))
structure aeJ(x:RD):Prop where
 dep:x.l.dep<=7
 vs:x.l.vars.length<60
 w2:gZ x<=5
 wl:x.l.wt one<=9
 wr:x.r.wt one<=9
 vl:x.l.wt vω=0
 vr:x.r.wt vω=0
 pl:oy x.l
 pr:oy x.r
def pR(h:x∈defs):aeJ x:=by
 have h:=f7.mp (show defs.all aeI=ai by kernel_rfl) x h;obtain⟨h1,h⟩:=bM.mp h;obtain⟨h2,h⟩:=bM.mp h;obtain⟨h3,h⟩:=bM.mp h;obtain⟨h4,h⟩:=bM.mp h;obtain⟨h5,h⟩:=bM.mp h;obtain⟨h6,h⟩:=bM.mp h;obtain⟨h7,h8⟩:=bM.mp h;have k:∀s∈x.l.subs++x.r.subs,qP s.op=ai/\(isVar s=aD->oo s.op):=λs hs=>by refine bx (bM.mp (f7.mp h8 s hs)) λa b=>?_;refine⟨a,λq=>.of ?_⟩;rwa [q,Bool.false_or]at b
 exact⟨aL h1,aL h2,aL h3,aL h4,aL h5,Rh h6,Rh h7,λs hs=>k s (de _ hs),λs hs=>k s (bC _ hs)⟩
def aeK(h:x∈defs)(hn:n<=30):x.l.bd n<1000000:=by exact aL (f7.mp (f7.mp (show((bS 31).all λn=>defs.all λx=>SF (x.l.bd n) 1000000)=ai by kernel_rfl) n (dT.mpr ((Ai hn)))) x h)
def aeL:(defs.map RD.l).Nodup:=by exact jX.mpr ((jX.mp (by decide+kernel:(defs.map λx=>x.l.subs.map Tm.op).Nodup)).imp λn e=>n (by rw[e]))
section
variable{rs:ag b8}{g:HG}{T:aa}
def iO.mem(h:iO rs)(hx:x∈rs):x.rd∈defs:=by obtain⟨⟨rem,pm⟩,_⟩:=h;exact pm.mem_iff.mp (bC _ (gK hx))
def iO.u7(h:iO rs):(rs.map λx=>x.rd.l).Nodup:=by obtain⟨⟨rem,pm⟩,_⟩:=h;have:=(pm.map RD.l).nodup_iff.mpr aeL;rw[cy,dQ]at this;exact(gA.mp this).2.1
def HS(hx:x∈defs)(I:HI g T [])(F:Fn (bY g))(ib:g.n<=30)(tn:x.nm="turn"->g.n<=12/\Wt g (mH "f")<=10){ms:ag cI}(nd:ms.Nodup)(h:∀q∈ms,FM g x.l q):ms.length<=60:=by
 rcases cg.mp hx with rfl|hx;·exact bG (HO (vg (by kernel_rfl)) nd h) ((oR ib))
 rcases cg.mp hx with rfl|hx;·exact bG (HO (vg (by kernel_rfl)) nd h) ((oR ib))
 rcases cg.mp hx with rfl|hx;·exact bG (HQ F (vg (by kernel_rfl)) nd h) ((oR ib))
 rcases cg.mp hx with rfl|hx;·exact bG (HQ F (vg (by kernel_rfl)) nd h) ((oR ib))
 rcases cg.mp hx with rfl|hx;·exact bG (HO (vg (by kernel_rfl)) nd h) ((oR ib))
 rcases cg.mp hx with rfl|hx;·exact bG (HQ F (vg (by kernel_rfl)) nd h) ((oR ib))
 obtain rfl:=bU.mp hx;obtain⟨n12,f10⟩:=tn rfl;clear tn;obtain⟨h1,h2⟩:=aeG I F (vg (by kernel_rfl)) rfl nd h;have e:(vd g "f").length<=10:=by exact aeF▸f10
 rcases Ay (ve g).length 7 with k|k;·exact bG h1 (RT e (show _<=6 by exact nE k))
 ·exact bG h2 (RT e (show _<=6 by lia))
def sum2(hl:rs.length<=2)(h:∀x∈rs,f x<=k):(rs.map f).sum<=2*k:=by match rs,hl,h with|[],_,_=>exact cF _|[x],_,h=>have:=h x aR;refine(?_:f x+0<=_);exact l2 19911653552385 this|[x,y],_,h=>have:=h x aR;have:=h y (bK _ aR);refine(?_:f x+(f y+0)<=_);exact l3 0x121c0b29097121101 ‹_› this
def aeM(hx:x∈defs)(I:HI g T [])(h:FM g x.l q):pO g 9 q.2 x:=by have d:=pR hx;have r:=pP hx;refine bx (FR.out h.2.2) λtk u=>?_;have fl:=h.2.2.len;have vs:=d.vs;exact⟨tk.nd,(bj (br fl vs) (aL rfl)),λy hy=>by have:=(tk.jC y).mpr hy;cases e:q.2.lookup y with|none=>rw[e]at this;contradiction|some k=>exact(gE k rfl),λy k e=>(FM.low I h y k e).1,r.sub,d.pl,d.pr,r.dl,r.dr⟩
def Qp(I:HI g T [])(w:g.wt=[])(hr:iO rs)(ib:g.n<=30)(tn:∀x∈rs,x.rd.nm="turn"->g.n<=12/\Wt g (mH "f")<=10)(hT:T<90000):RnOk g T 9 rs λu=>60:=by
 have Qq:∀x∈rs,∀ms:ag cI,ms.Nodup->(∀q∈ms,FM g x.rd.l q)->ms.length<=60:=λx hx ms nd h=>HS (hr.mem hx) I (I.fn w) ib (tn x hx) nd h;refine⟨λx hx=>(pP (hr.mem hx)).dl,λx hx=>(pR (hr.mem hx)).pl,λx hx=>df (pR (hr.mem hx)).vs (by decide),λx hx=>aeK (hr.mem hx) ib,λx hx c hc ms nd h=>?_,λx hx q h=>aeM (hr.mem hx) I h,Qq,λu u=>(by decide),?_,?_⟩;·
  induction ms using b7 with
   |nil=>exact DD _|cons s ms=>
    have rt:g.rt c=c:=by refine aq ((Ev.app (pP (hr.mem hx)).nv).mp (FR.out (h s aR)).2) λcs u h2=>?_;exact(bY.root I h2).1.2
    have:=Qq x hx ((s::ms).map λs=>(c,s)) (jX.mpr (nd.imp λn e=>n (aO lW e))) λq hq=>by refine aq (bt.mp hq) λs' hV aC=>?_;rw[←aC];exact(cM hc rt (h s' hV))
    rw[aN]at this;exact br this (aL rfl)
 ·have:=sum2 (f:=λx=>60*gZ x.rd) (k:=300) hr.2.1 λx hx=>by have:=(pR (hr.mem hx)).w2;lia
  exact l2 0x3e83a109812c3a21c111e2a01 ib this
 ·have:=sum2 (f:=λu:b8=>60) (k:=60) hr.2.1 λu u=>bq _;exact l2 0x186a05a10983c2a21c1115f905a02 hT this
def Qr(I:HI g T [])(w:g.wt=[])(hr:iO rs)(ib:g.n<=30)(tn:∀x∈rs,x.rd.nm="turn"->g.n<=12/\Wt g (mH "f")<=10)(hT:T<90000)(hm:many<1000000000)(od:∀x∈rs,∀q∈old x.rd,(q.1<g.n/\(∀y∈q.2,y.2<g.n)/\q.2.length<1000)/\FM g x.rd.l (ja g q))(oz:∀x∈rs,(old x.rd).length<64):xb g T 9 many edges rs old λu=>60:=by
 refine{Qp I w hr ib tn hT with nn:=(l1 0x3f2a021c81e2a01120 ib),hD:=(by decide),mz:=hm,d7:=λx hx=>(pR (hr.mem hx)).dep,u7:=hr.u7,od:=λx hx q hq=>(od x hx q hq).1,oz:=oz,P0:=λx hx ms nd h=>?_};refine br (HS (hr.mem hx) I (I.fn w) ib (tn x hx) nd λq hq=>?_) (by decide);rcases h q hq with h|h;·exact h
 ·refine aq (bt.mp h) λq0 h0 aC=>?_;rw[←aC];exact(od x hx q0 h0).2
end
end
section
def oO(l:ag Node):Prop:=∃t1∈jc 2,∃t2∈jc 1,l=(dO t2 (dO t1 []).2).2
noncomputable def Qs(l:ag Node)(i:aa):aI:=(l.getD i ("",[])).1
def Qt(l:ag Node)(p:Tm)(x:Node):bw:=decide (x.1=p.op)&&(p.kids.zip x.2).all λq=>isVar q.1||decide (Qs l q.2=q.1.op)
def HT(l:ag Node)(p:Tm)(i:aa):bw:=Qt l p (l.getD i ("",[]))
def cnt(l:ag Node)(p:Tm):aa:=((bS l.length).filter (HT l p)).length
noncomputable def lim(x:RD):aa:=if x.nm="swap"then 4 else if x.nm="push"\/x.nm="turn"\/x.nm="leaf"then 1 else 6
def vh(l:ag Node):aa:=(l.map λx=>mH "f" x.1).sum
def Qu(l:ag Node):bw:=g9 1 l.length&&(g9 l.length 6&&(g9 (vh l) 4&&((defs.all λx=>g9 (cnt l x.l) (lim x))&&l.all λx=>!isVar (.lf x.1))))
def aeN(h:oO l):Qu l=ai:=by refine aq h λt1 h1 bg=>aq bg λt2 h2 iF=>?_;rw[iF];exact f7.mp (f7.mp (by kernel_rfl:((jc 2).all λt1=>(jc 1).all λt2=>Qu (dO t2 (dO t1 []).2).2)=ai) t1 h1) t2 h2
structure HU(l:ag Node):Prop where
 pos:1<=l.length
 six:l.length<=6
 nf:vh l<=4
 lm:∀x∈defs,cnt l x.l<=lim x
 ov:∀x∈l,isVar (.lf x.1)=aD
def xf(h:oO l):HU l:=by have h:=aeN h;obtain⟨h1,h⟩:=bM.mp h;obtain⟨h2,h⟩:=bM.mp h;obtain⟨h3,h⟩:=bM.mp h;obtain⟨h4,h5⟩:=bM.mp h;exact⟨aL h1,aL h2,aL h3,λx hx=>aL (f7.mp h4 x hx),λx hx=>(p7 _).mp (f7.mp h5 x hx)⟩
def lists:ag (ag RD):=defs.map (λx=>[x])++defs.flatMap λx=>(defs.filter λy=>decide (y.nm≠x.nm)).map λy=>[x,y]
def n1(xs:ag RD):aa:=6+(xs.map λx=>lim x*x.r.wt one).sum
def f1(xs:ag RD):aa:=4+(xs.map λx=>lim x*x.r.wt (mH "f")).sum
def aeO(h:xs∈lists):n1 xs<=30/\((∃x∈xs,x.nm="turn")->n1 xs<=12/\f1 xs<=10):=by
 refine bx (bM.mp (f7.mp (by kernel_rfl:(lists.all λxs=>g9 (n1 xs) 30&&((xs.all λx=>!decide (x.nm="turn"))||(g9 (n1 xs) 12&&g9 (f1 xs) 10)))=ai) xs h)) λh1 h2=>?_;refine⟨aL h1,λzf=>aq zf λx hx e=>?_⟩;rcases Ie.mp h2 with h2|h2;·have:=f7.mp h2 x hx;rw[c7 e]at this;nomatch this
 ·refine bx (bM.mp h2) λa b=>?_;exact⟨aL a,aL b⟩
def aeP:(defs.map RD.nm).Nodup:=by decide+kernel
def iO.list{rs:ag b8}(h:iO rs):rs.map b8.rd∈lists:=by
 have m:=λx hx=>h.mem (x:=x) hx;obtain⟨⟨rem,pm⟩,h2,h3⟩:=h;have nn:((rs.map b8.rd).map RD.nm).Nodup:=by have:=(pm.map RD.nm).nodup_iff.mpr aeP;rw[cy]at this;exact(gA.mp this).2.1
 clear pm;induction rs using b7 with|nil=>exact bA rfl h3|cons x r=>clear h3;induction r using b7 with|nil=>exact de _ (bt.mpr (aA x.rd (m x aR) rfl))|cons y r=>induction r using b7 with|cons z r=>exact bA (Dt (Dt h2)) (Dw _)|nil=>exact bC _ (mN.mpr ⟨x.rd,m x aR,bt.mpr (aA y.rd (gM.mpr ⟨m y (bK _ aR),c7 λe=>(iZ.mp nn).1 (by exact e▸aR)⟩) rfl)⟩)
end
section
section
variable{g g1:HG}{T:aa}{l:ag Node}{σ τ:Su}{p:Tm}{c:aa}{R:Rel}
def cO.has(F:cO g l)(h:bY g o cs c):Nd g o cs c:=by refine bL h λm hm e hc=>?_;rw[F.rt hm]at hc;rw[←hc];refine(dD hm ?_);exact e▸(jq rfl ((gL λk hk=>F.rt (F.hi.kids hm k hk)).trans (qb _)).symm)
def aeQ:∀{p:Tm}{c:aa},Ev (Nd g) σ p c->Ev (Nd g) τ p c->va σ τ p:=by
 intro p;induction p using Tm.ind with
  |h p ih=>
   intro c h h' x hx;by_cases q:isVar p=ai;·rw[Tm.w4 q]at hx;rw[bU.mp hx];exact(aA c ((Ev.var q).mp h) ((Ev.var q).mp h'))
   ·have q:=mL.mpr q;refine bL ((Ev.app q).mp h) λcs h1 u e=>?_;refine bL ((Ev.app q).mp h') λqX h2 u e'=>?_;obtain rfl:cs=qX:=aO lW (e.symm.trans e');rw[Tm.qR q]at hx;exact Qk (λt ht c=>ih t ht) h1 h2 x hx
def c6.aeR:∀{ts:ag Tm}{cs:ag aa},c6 R σ ts cs->∀q∈ts.zip cs,Ev R σ q.1 q.2:=by
 intro ts;induction ts with
  |nil=>exactλu q hq=>by contradiction|cons t ts ih=>
   intro cs h q hq;refine ba h λc ds aC h1 h2=>?_;clear h;subst aC;rcases cg.mp hq with rfl|hq;·exact h1
   ·exact ih h2 q hq
def cO.getD(F:cO g l)(hi:i<g.n):l.getD i ("",[])=g.nd i:=by rw[zX,F.nd i hi];rfl
def aeS(F:cO g l)(hp:isVar p=aD)(h:Ev (Nd g) σ p c):c<g.n/\HT l p c=ai:=by
 refine bL ((Ev.app hp).mp h) λcs h1 hc e=>?_;refine⟨hc,?_⟩;delta HT Qt;rw[F.getD hc,e];refine bM.mpr ⟨c7 rfl,f7.mpr λq hq=>?_⟩;by_cases v:isVar q.1=ai;·rw[v,Bool.true_or]
 ·refine bL ((Ev.app (mL.mpr v)).mp (h1.aeR q hq)) λds u hk e2=>?_;unfold Qs;rw[F.getD hk,e2];exact Ie.mpr (.inr (c7 rfl))
def FM.nd(F:cO g l)(h:FM g p q):Ev (Nd g) (su q.2) p q.1:=(FR.out h.2.2).2.mono λu u u=>F.has
def aeT(F:cO g l)(hp:isVar p=aD){ms:ag cI}(nd:ms.Nodup)(h:∀q∈ms,FM g p q):ms.length<=cnt l p:=by refine zO (P:=λq i=>q.1=i) nd (λq hq=>?_) λq hq q' kB k e e'=>FM.eq (h q hq) (h q' kB) (e.trans e'.symm) (aeQ ((h q hq).nd F) (by exact e.symm▸e'▸((h q' kB).nd F)));obtain⟨h1,h2⟩:=aeS F hp ((h q hq).nd F);exact(aA q.1 (gM.mpr ⟨dT.mpr (F.n▸h1),h2⟩) rfl)
def cO.list(F:cO g l):l=(bS g.n).map g.nd:=by
 refine Dz λi=>?_;rcases Ay i g.n with q|q;·rw[F.nd i q,sD q]
 ·rw[nD (by exact F.n▸q),nD (by rw[aN,iR];exact q)]
def cO.vh(F:cO g l):vh l=Wt g (mH "f"):=by delta Mine.vh Wt;simp only[F.list,dQ];rfl
def aeU{w:RD->aa}:((rows zs).map λp=>w p.1).sum=(zs.map λp=>p.2.length*w p.1).sum:=by induction zs with|nil=>rfl|cons p zs ih=>unfold rows at ih⊢;simp only[Ah,cy,nF,ih,jk,vK];refine aO (·+_) ?_;unfold rowOf;rw[dQ];induction p.2 with|nil=>simp only[Am,R6];rfl|cons m ms ph=>rw[jk,vK,ph,lU,Ax,rC];rfl
def qY{p:RD×Tab}(h:p∈rows (cX rs fs)):∃(i:aa)(x:b8)(f:Fo)(q:cI),rs[i]?=af x/\fs[i]?=af f/\q∈f.2/\p=(x.rd,q.2):=by refine aq (mN.mp h) λz hz hp=>?_;refine aq (bt.mp hz) λy hy aC=>?_;clear h hz;subst aC;refine aq (bt.mp hp) λq hq aC=>?_;rw[←aC];obtain⟨i,hi⟩:=oP.mp hy;obtain⟨h1,h2⟩:=(Q2 (z:=y)).mp hi;exact(Tb i y.1 y.2 q h1 h2 hq rfl)
structure kD(rs:ag b8)(g:HG):Prop where
 ib:g.n<=30
 tn:∀x∈rs,x.rd.nm="turn"->g.n<=12/\Wt g (mH "f")<=10
 ops:jE g
def kD.grow(h:kD rs g)(G:Grow g g1)(e:g1.n=g.n):kD rs g1:=⟨by rw[e];exact h.ib,λx hx k=>by rw[e,Wt.eq G e];exact h.tn x hx k,h.ops.grow G e⟩
def kD.fresh(F:cO g l)(K:HU l):kD rs g:=by have n:=F.n;have s:=K.six;refine⟨l2 530653790671107 n s,λx hx u=>⟨l2 0xcb076b11103 n s,?_⟩,λi hi=>K.ov _ (e8 (F.nd i hi))⟩;exact F.vh▸(bG K.nf (by decide))
def kD.first(F:cO g l)(K:HU l)(hr:iO rs)(sub:u0 g rs fs)(h:Round g 0 (rows (cX rs fs)) g1):kD rs g1:=by
 have hl:∀p∈rows (cX rs fs),∃m,Ev (Nd g) (su p.2) p.1.l m:=λp hp=>by refine pb (qY hp) λi x f q h1 h2 h3 gF=>?_;rw[gF];exact(gE q.1 (((sub i x f h1 h2).2 q h3).nd F))
 have mem:∀{i:aa}{x:b8},rs[i]?=af x->x.rd∈defs:=λh=>hr.mem (e8 h);have bd:∀ω,((rows (cX rs fs)).map λp=>p.1.r.wt ω).sum<=(rs.map λx=>lim x.rd*x.rd.r.wt ω).sum:=λω=>by rw[aeU (w:=λx=>x.r.wt ω)];refine CZ (w:=λp=>p.2.length*p.1.r.wt ω) (c:=λx=>lim x*x.r.wt ω) λi x f h1 h2=>pX _ ?_;refine bx (sub i x f h1 h2) λnd fm=>?_;exact bG (aeT F (pP (mem h1)).nv nd fm) (K.lm _ (mem h1))
 have w1:=h.Dc (ω:=one) hl;have w2:=h.Dc (ω:=mH "f") hl;have b1:=bd one;have b2:=bd (mH "f");simp only[Wt.one,Wt.one,F.n]at w1;rw[←F.vh]at w2;have k1:=K.six;have k2:=K.nf;have e1:n1 (rs.map b8.rd)=6+(rs.map λx=>lim x.rd*x.rd.r.wt one).sum:=by unfold n1;rw[dQ];rfl
 have e2:f1 (rs.map b8.rd)=4+(rs.map λx=>lim x.rd*x.rd.r.wt (mH "f")).sum:=by unfold f1;rw[dQ];rfl
 refine bx (aeO hr.list) λl1 l2=>?_;refine⟨l5 0x1e2a271e2a4116b9446b3103921101 b1 w1 k1 e1 l1,λx hx e=>?_,(kD.fresh (rs:=rs) F K).ops.round h λp hp=>?_⟩;·refine bx (l2 (aA x.rd (gK hx) e)) λl3 l4=>?_;exact⟨l5 0xcb27cb4116b9446b3103921101 b1 w1 k1 e1 l3,l5 0xab07ab4134b9444b1132121901 w2 b2 k2 e2 l4⟩
 ·refine pb (qY hp) λi x f q h1 h2 h3 gF=>?_;rw[gF];exact⟨(pR (mem h1)).vl,(pR (mem h1)).vr⟩
end
end
section
def Qv(h:x≠y):eX (fg (x,k)) (fg (y,j))=eX (.str x) (.str y):=by show jK [V.str x,nv k] [V.str y,nv j]=_;rw[yg,aX λe=>h (V.str.inj e)]
def aeV{f:aa->aa}(n:(s.map (·.1)).Nodup)(r:jD s):jD (s.map λp=>(p.1,f p.2)):=by unfold jD at r⊢;rw[dQ];refine jX.mpr (ah2 (S:=λa b:aI×aa=>eX (fg b) (fg a)=aD) (R:=λa b:aI×aa=>a.1≠b.1) (λ{a b}ne h=>?_) (jX.mp n) (jX.mp r));refine(?_:eX (fg (b.1,f b.2)) (fg (a.1,f a.2))=aD);rw[Qv (nJ ne),←Qv (k:=b.2) (j:=a.2) (nJ ne)];exact h
section
variable{g g0 g1:HG}{T T0 T1:aa}{p:Tm}{x:RD}{rs:ag b8}{l:ag Node}
def FM.HM(I0:HI g0 T0 [])(I:HI g T [])(G:Grow g0 g)(h:FM g0 p q):FM g p (ja g q):=by
 refine bx (FR.out h.2.2) λtk ev=>?_;have hc:=bj h.1 G.le;have nn:(ja g q).2.map (·.1)=q.2.map (·.1):=dQ ..;refine⟨I.eO hc,I.gX _ hc,FR.of (aeV tk.nd h.2.2.1) ⟨by exact nn▸tk.nd,λy=>?_⟩ ?_⟩;·rw[show(ja g q).2.lookup y=(q.2.lookup y).map g.rt from HL,Option.isSome_map];exact tk.jC y
 ·rw[(vQ λy=>HL:su (ja g q).2=iJ g.rt (su q.2))];exact Ev.map ((G.HC I0).rel I0) ev
def HV(I:HI g T [])(hx:x∈defs)(h:Round g T1 xs g1)(k:∀q,FM g x.l q->(x,q.2)∈xs):sR g x g1:=sR.Qb I (pP hx).nv (pP hx).sub λq hq=>by refine j4 (h.done _ (k q hq)) λm n h1 h2 u u h3=>?_;exact .HD h1 h2 h3
def zP{i:aa}{x:b8}(h1:rs[i]?=af x)(h2:fs[i]?=af f)(h3:q∈f.2):(x.rd,q.2)∈rows (cX rs fs):=mN.mpr (aA ((x.rd,f.2)) (e8 (w9 h1 h2)) (bt.mpr (aA q h3 rfl)))
def at_of{fs:ag Fo}(e:fs.length=rs.length){x:b8}(hx:x∈rs):∃(i:aa)(f:Fo),rs[i]?=af x/\fs[i]?=af f:=by refine dh (oP.mp hx) λi hi=>?_;have:=(iQ.mp hi).1;exact(eK i _ hi (gy (e▸this)))
def zQ(sub:u0 g rs fs):∀p∈rows (cX rs fs),∃c,FM g p.1.l (c,p.2):=λp hp=>by refine pb (qY hp) λi x f q h1 h2 h3 gF=>?_;rw[gF];exact⟨q.1,(sub i x f h1 h2).2 q h3⟩
def Qw(hr:iO rs)(I:HI g T [])(w:g.wt=[])(B:kD rs g)(sub:u0 g rs fs):(rows (cX rs fs)).length<=120:=by rw[Pe];refine bG (CZ (w:=λp=>p.2.length) (c:=λu=>60) λi x f h1 h2=>?_) (sum2 (k:=60) hr.2.1 λu u=>bq _);refine bx (sub i x f h1 h2) λnd fm=>?_;exact HS (hr.mem (e8 h1)) I (I.fn w) B.ib (B.tn x (e8 h1)) nd fm
def Dd(hr:iO rs)(I:HI g T [])(sub:u0 g rs fs)(h:Round g T (rows (cX rs fs)) g1):iN g1 g.n 9:=by
 refine iN.self.round h (λp hp y k e=>?_) λp hp=>?_;·refine dh (zQ sub p hp) λc fm=>?_;exact(FM.low I fm y k e).1
 ·refine pb (qY hp) λi x f q h1 h2 h3 gF=>?_;rw[gF];have d:=pR (hr.mem (e8 h1));exact(dD d.wl d.wr)
def Qx(hr:iO rs)(O:jE g)(h:Round g T (rows (cX rs fs)) g1):jE g1:=O.round h λp hp=>by refine pb (qY hp) λi x f q h1 h2 h3 gF=>?_;rw[gF];have d:=pR (hr.mem (e8 h1));exact(dD d.vl d.vr)
end
def sS(g1 g2:HG):Prop:=∃(φ ψ:aa->aa)(tm Qy:aa->Tm),Wi g1 g2 64 φ tm/\Wi g2 g1 64 ψ Qy
def sS.of{g1 g2:HG}{T1 T2 many b1 b2:aa}(I1:HI g1 T1 [])(w1:g1.wt=[])(I2:HI g2 T2 [])(w2:g2.wt=[])(O1:jE g1)(O2:jE g2)(C1:iN g1 b1 9)(C2:iN g2 b2 9)(z1:b1<=30)(z2:b2<=30)(h:lP many g1 g2):sS g1 g2:=by refine ba h λφ ψ h1 h2 u=>?_;exact(Ta φ ψ _ _ (Wi.of I1 w1 I2 O1 h1 h2 C1 (l1 0x402a9b0981e2a01 z1)) (Wi.of I2 w2 I1 O2 h2 h1 C2 (l1 0x402a9b0981e2a01 z2)))
def lP.fresh{g1 g2:HG}(F1:cO g1 l)(F2:cO g2 l):lP l.length g1 g2:=by
 have key:∀{g g':HG},cO g l->cO g' l->dZ g (bY g') id:=λ{g g'}F F'=>⟨λn hn=>by
  have De:n<g'.n:=by exact F'.n.symm▸F.n▸hn
  refine(bH n De ?_ (F'.rt De));unfold canon;rw[(bR ((F'.nd n De).symm.trans (F.nd n hn))),qb];exact jq rfl ((gL λk hk=>F'.rt (df ((F.hi.iy n hn).2 k hk) De)).trans (qb _)),λi hi=>F.rt hi⟩;exact(bZ id id (key F1 F2) (key F2 F1) (λa ha=>⟨(F2.rt (by rw[F2.n];exact ha)).symm,(F1.rt (by rw[F1.n];exact ha)).symm⟩))
end
section
noncomputable abbrev no:RD->ag cI:=λu=>[]
inductive Inv1(l:ag Node)(rs:ag b8)(jU:Cells)(gW:HG)(TW:aa)(gP:HG)(TP:aa)(b:oJ):Prop|mk(zR fR:HG)(xg:ag Fo):cO zR l->cO fR l->xg.length=rs.length->mF zR rs xg->Round zR 0 (rows (cX rs xg)) gW->TW=(rows (cX rs xg)).length->iM fR 0 0 0 no jU rs [] b->Round fR 0 (rows (cX rs b.2.2.2)) gP->TP=(rows (cX rs b.2.2.2)).length->Inv1 l rs jU gW TW gP TP b
inductive Df(many:aa)(gW:HG)(TW:aa)(gP:HG)(TP:aa):HG->aa->HG->aa->Prop|same:Df many gW TW gP TP gW TW gP TP|told(a b:aa)(ga gb dA dP:HG):a<many->b<many->kC gW TW a b ga->pI ga (TW+1) dA->kC gP TP a b gb->pI gb (TP+1) dP->Df many gW TW gP TP dA (TW+1) dP (TP+1)
noncomputable abbrev aeW:RD->aa:=λu=>60
noncomputable abbrev Qz:RD->aa:=λu=>60
section
variable{l:ag Node}{rs:ag b8}{gW gP dA dP:HG}{TW TP qZ rh:aa}{jU:Cells}{b:oJ}
def QA(h:oO l):0<l.length/\l.length<=10:=⟨(xf h).pos,bG (xf h).six (by decide)⟩
def QB(hb:oO l)(hr:iO rs)(F:cO gW l):xb gW 0 9 0 0 rs no aeW:=by have B:=kD.fresh (rs:=rs) F (xf hb);exact Qr F.hi F.wt hr B.ib B.tn (by decide) (by decide) (λu u u h=>by contradiction) λu u=>DD _
structure aeX(l:ag Node)(rs:ag b8)(gW gP:HG)(TW TP:aa)(b:oJ)(fR:HG):Prop where
 FP:cO fR l
 IW:HI gW TW []
 wW:gW.wt=[]
 IP:HI gP TP []
 wP:gP.wt=[]
 tW:TW<=120
 tP:TP<=120
 BW:kD rs gW
 BP:kD rs gP
 iso:lP l.length gW gP
 nW:l.length<=gW.n
 nP:l.length<=gP.n
 GP:Grow fR gP
 done:∀x∈rs,∀q,FM fR x.rd.l q->∃m n,Ev (Nd gP) (su q.2) x.rd.l m/\Ev (Nd gP) (su q.2) x.rd.r n/\m<gP.n/\n<gP.n/\gP.rt m=gP.rt n
 seen:∀x∈rs,∃sl,Seen b.1 b.2.1 b.2.2.1 x.rd.l fR.n 0 sl/\sl.length<64/\∀q,q∈sl↔FM fR x.rd.l q
 wib:sS gW gP
def Inv1.past(hb:oO l)(hr:iO rs)(h:Inv1 l rs jU gW TW gP TP b):∃fR,aeX l rs gW gP TW TP b fR:=by
 obtain⟨zR,fR,xg,FW,FP,fl,ao,rW,eW,J,rP,eP⟩:=h;have K:=xf hb;have all:∀{i:aa}{x:b8}{f:Fo},rs[i]?=af x->b.2.2.2[i]?=af f->∀q,FM fR x.rd.l q->q∈f.2:=λ{i x f}h1 h2 q hq=>by
  rcases(J.nw i x f h1 h2).2.2 q hq (iK.up (k:=0) (cF _) (.inl (bH q.1 (cF _) hq.1 hq.2.1)))with h|h;·exact h
  ·cases h
 have jf:=J.fl;have sW:=ao.sub;have sP:=J.sub;have BW:=kD.first FW K hr sW rW;have BP:=kD.first FP K hr sP rP;refine il rW.out λIW wW GW u=>?_;refine il rP.out λIP wP GP u=>?_;rw[oZ,←eW]at IW;rw[oZ,←eP]at IP;have iso:lP l.length gW gP:=by
  refine(lP.fresh FW FP).round FW.hi FP.hi (e9 FW.n.symm) (e9 FP.n.symm) rW rP (zQ sW) (zQ sP) (λp hp=>?_) λp hp=>?_;·refine pb (qY hp) λi x f q h1 h2 h3 gF=>?_;subst gF;have fN:=e8 h1;refine eR (at_of fl fN) λj f' k1 k2=>?_;exact HV FW.hi (hr.mem fN) rW λq hq=>zP k1 k2 (((ao j x f' k1 k2).2 q).mpr hq)
  ·refine pb (qY hp) λi x f q h1 h2 h3 gF=>?_;subst gF;have fN:=e8 h1;refine eR (at_of jf fN) λj f' k1 k2=>?_;exact HV FP.hi (hr.mem fN) rP λq hq=>zP k1 k2 (all k1 k2 q hq)
 have s6:=K.six;refine⟨fR,FP,IW,wW,IP,wP,?_,?_,BW,BP,iso,by exact FW.n▸GW.le,by exact FP.n▸GP.le,GP,λx hx q hq=>?_,λx hx=>?_,?_⟩;·rw[eW];exact Qw hr FW.hi FW.wt (kD.fresh FW K) sW
 ·rw[eP];exact Qw hr FP.hi FP.wt (kD.fresh FP K) sP
 ·refine eR (at_of jf hx) λj f' k1 k2=>?_;exact rP.done _ (zP k1 k2 (all k1 k2 q hq))
 ·refine eR (at_of jf hx) λj f' k1 k2=>?_;refine bL (J.kp j x f' k1 k2) λsl s1 s2 s3=>?_;rw[FP.es]at s1;refine(bH sl s1 s2 (λq=>(s3 q).trans ⟨λh=>?_,λh=>.inl (all k1 k2 q h)⟩));rcases h with h|h;·exact(sP j x f' k1 k2).2 q h
  ·contradiction
 ·exact sS.of IW wW IP wP BW.ops BP.ops (Dd hr FW.hi sW rW) (Dd hr FP.hi sP rP) (by rw[FW.n];exact oR s6) (by rw[FP.n];exact oR s6) iso
def QC(hb:oO l)(hr:iO rs)(h:Inv1 l rs jU gW TW gP TP b):sS gW gP/\TW<90000/\TP<90000:=by refine dh (h.past hb hr) λfR P=>?_;have:=P.tW;have:=P.tP;exact(cM P.wib (l1 98956433188989441 ‹_›) (br this (aL rfl)))
def aeY(hb:oO l)(hr:iO rs)(h:Inv1 l rs jU gW TW gP TP b)(m:Df l.length gW TW gP TP dA qZ dP rh):∃(n0:aa)(old:RD->ag cI),RnOk dA qZ 9 rs Qz/\xb dP rh 9 n0 0 rs old Qz/\dA.n<63/\(∀x∈rs,Seen b.1 b.2.1 b.2.2.1 x.rd.l n0 0 (old x.rd))/\∀(fs:ag Fo)(e0:aa)(QD:Cells)(b2:oJ)(gJ g6:HG),fs.length=rs.length->mF dA rs fs->Round dA qZ (rows (cX rs fs)) gJ->iM dP n0 0 e0 old QD rs [] b2->Round dP rh (rows (cX rs b2.2.2.2)) g6->sS gJ g6:=by
 refine dh (h.past hb hr) λfR P=>?_;have tW:=P.tW;have tP:=P.tP;have md:HI dA qZ []/\dA.wt=[]/\HI dP rh []/\dP.wt=[]/\qZ<=121/\rh<=121/\Grow gW dA/\dA.n=gW.n/\Grow gP dP/\dP.n=gP.n/\lP l.length dA dP:=by induction m with|same=>exact⟨P.IW,P.wW,P.IP,P.wP,(Aj tW),(Aj tP),.refl,rfl,.refl,rfl,P.iso⟩|told a b ga gb _ _ ha lI c1 s1 c2 s2=>have iso:=P.iso.told P.IW P.IP P.nW P.nP ha lI c1 s1 c2 s2;obtain⟨_,i1,w1,t1⟩:=s1;obtain⟨_,i2,w2,t2⟩:=s2;exact⟨i1,w1,i2,w2,(Ai tW),(Ai tP),c1.gr.trans t1.toGrow,t1.eq.trans c1.eq,c2.gr.trans t2.toGrow,t2.eq.trans c2.eq,iso⟩
 refine D6 md λIW wW IP wP tW' tP' GW bg=>il bg λnW GP nP iso=>?_;have BW:=P.BW.grow GW nW;have BP:=P.BP.grow GP nP;have G0:=P.GP.trans GP;have F0:=P.FP;have hold:∀x∈rs,(λsl=>Seen b.1 b.2.1 b.2.2.1 x.rd.l fR.n 0 sl/\sl.length<64/\∀q,q∈sl↔FM fR x.rd.l q) (Ii λsl=>Seen b.1 b.2.1 b.2.2.1 x.rd.l fR.n 0 sl/\sl.length<64/\∀q,q∈sl↔FM fR x.rd.l q):=λx hx=>afD (P.seen x hx);have QE:∀x∈rs,∀q,FM fR x.rd.l q->u9 dP.n q.2:=λx hx q hq y k e=>bj (FM.low F0.hi hq y k e).1 G0.le;refine(rJ fR.n (λr=>Ii λsl=>Seen b.1 b.2.1 b.2.2.1 r.l fR.n 0 sl/\sl.length<64/\∀q,q∈sl↔FM fR r.l q) (Qp IW wW hr BW.ib BW.tn ((br tW' (aL rfl)))) (Qr IP wP hr BP.ib BP.tn ((br tP' (aL rfl))) (by rw[F0.n];have:=(xf hb).six;exact br this (aL rfl)) (λx hx q hq=>?_) (λx hx=>(hold x hx).2.1)) (br BW.ib (by decide)) (λx hx=>(hold x hx).1) ?_);·have fm:=((hold x hx).2.2 q).mp hq;refine⟨⟨bj fm.1 G0.le,λy hy=>QE x hx q fm y.1 y.2 ((xe ((FR.out fm.2.2).1).nd).mpr hy),?_⟩,fm.HM F0.hi IP G0⟩;have:=fm.2.2.len;have:=(pR (hr.mem hx)).vs;exact l2 0x3e83a083c2a12101 ‹_› this
 ·intro fs e0 QD b2 gJ g6 fl ao rW J rP;refine il rW.out λIW2 wW2 GW2 u=>?_;refine il rP.out λIP2 wP2 QF u=>?_;have aeZ:lP l.length gJ g6:=by
   refine iso.round IW IP (by rw[nW];exact P.nW) (by rw[nP];exact P.nP) rW rP (zQ ao.sub) (zQ J.sub) (λp hp=>?_) λp hp=>?_;·refine pb (qY hp) λi x f q h1 h2 h3 gF=>?_;rw[gF];have fN:=e8 h1;refine eR (at_of fl fN) λj f' k1 k2=>?_;exact HV IW (hr.mem fN) rW λq hq=>zP k1 k2 (((ao j x f' k1 k2).2 q).mpr hq)
   ·refine pb (qY hp) λi x f q h1 h2 h3 gF=>?_;rw[gF];have fN:=e8 h1;have xd:=hr.mem fN;refine eR (at_of J.fl fN) λj f' k1 k2=>?_;refine sR.Qb IP (pP xd).nv (pP xd).sub λq hq=>?_;have known:∀q0,FM fR x.rd.l q0->oK (bY g6) g6.rt x.rd (ja dP q0).2:=λq0 QG=>by refine j4 (P.done x fN q0 QG) λm n e1 e2 lm ln e3=>?_;have G:=GP.trans QF;exact oK.HM IP QF (QE x fN q0 QG) (.HD (e1.mono (Nd.grow G)) (e2.mono (Nd.grow G)) (G.co m n lm ln e3))
    have fin:q∈f'.2\/∃q0,FM fR x.rd.l q0/\q=ja dP q0:=by
     by_cases r:iK dP (qT dP fR.n 0) (x.rd.l.dep-1) q.1;·
      rcases(J.nw j x f' k1 k2).2.2 q hq r with h|h;·exact .inl h
      ·refine aq (bt.mp h) λq0 h0 aC=>?_;rw[←aC];exact .inr (aA q0 (((hold x fN).2.2 q0).mp h0) rfl)
     ·obtain⟨h1,h2⟩:=semi IP F0 G0 (pP xd).nv hq r;exact .inr (aA q h1 h2.symm)
    clear hq;rcases fin with h|⟨q0,h0,rfl⟩;·refine j4 (rP.done _ (zP k1 k2 h)) λm n e1 e2 u u e3=>?_;exact .HD e1 e2 e3
    ·exact known q0 h0
  exact sS.of IW2 wW2 IP2 wP2 (Qx hr BW.ops rW) (Qx hr BP.ops rP) (Dd hr IW ao.sub rW) (Dd hr IP J.sub rP) BW.ib BP.ib aeZ
end
def ae0(h1:t1∈jc 2)(h2:t2∈jc 1):(dO t1 []).2.length<999/\(dO t2 (dO t1 []).2).2.length<999:=by exact⟨br (aL (f7.mp (by kernel_rfl:((jc 2).all λt1=>g9 (dO t1 []).2.length 6)=ai) t1 h1)) (by decide),br (xf (aA t1 h1 (aA t2 h2 rfl))).six (by decide)⟩
def HI.zero:HI HG.none 0 []:=by have z:∀{i:aa}{P:Prop},i<HG.none.n->P:=λh=>bA h (nG _);exact⟨DD _,DD _,⟨λu h=>z h,λu h=>z h,λu h=>z h⟩,λu h=>z h,λu h=>z h,λu h=>z h,λu u h=>z h,.nil,λc=>⟨λh=>(nomatch h),λh=>z h.1⟩,bq _,rfl,rfl,λu h=>(nomatch h),bq _,λu h=>(nomatch h),λu h=>z h,λu h=>(by contradiction),λu h=>(by contradiction),bq _,λu h=>z h,λu h=>(by contradiction),λu h=>z h⟩
def cO.zero:cO HG.none []:=⟨HI.zero,rfl,rfl,rfl,rfl,λi h=>bA h (nG i)⟩
end
section
section
variable{F R C W P X U:Cells}{q:aa×aV}
def QH:(F++(R++(C++(W++(P++(X++(q::U))))))).Perm ((R++(W++U))++(F++(C++(P++(X++[q]))))):=by classical exact gz.mpr λx=>by simp only[gB,ll,vI];exact l8 0x70b9594929096391997695949392919099
def QI:(F++(R++(C++(W++(P++X))))).Perm ((C++(P++X))++(F++(R++W))):=by classical exact gz.mpr λx=>by simp only[gB];exact l6 0x31909549299549392919099
def lp3:(F++(R++(C++(W++(P++X))))).Perm ((W++P)++(F++(R++(C++X)))):=by classical exact gz.mpr λx=>by simp only[gB];exact l6 0x52919094399549392919099
def lp4:(F++(R++(C++(W++(P++X))))).Perm ((P++W)++(F++(R++(C++X)))):=by classical exact gz.mpr λx=>by simp only[gB];exact l6 0x52919093499549392919099
end
def ae1(P:bh):dN (KK P) 623 "one_round" 613:=.of (by kernel_rfl)
abbrev vi:cG:=dG (b1 (sA 31)).tail.tail.tail.tail.tail.tail
abbrev lh(fd w p many ru n c:aa):Lc:=.cons "feed" (.ref fd) (.cons "whole" (.ref w) (.cons "part" (.ref p) (.cons "many" (nv many) (.cons "rules_now" (.ref ru) (.cons "runner" (.ref n) (.cons "changes_now" (.ref c) .nil))))))
abbrev je(ru:aa)(rs:ag b8):Cells:=(ru,.list (rs.map cf))::fG rs
abbrev jV(F:Cells)(A:NA)(C:CA)(w p:aa)(rs:ag b8)(his:ag V)(k:aa)(es bV:ag (V×V))(HW HP:HA)(gW gP:HG)(Y:Cells):Cells:=F++(dg A w (rs.map cf) his k++(eF C p es bV++(aJ HW gW++(aJ HP gP++Y))))
section
variable{F X:Cells}{A:NA}{C:CA}{HW HP:HA}{gW gP:HG}{rs:ag b8}{his:ag V}{k ru TW TP m0 edges e0 fd many rg sl spot:aa}{xs:ag bp}{es bV:ag (V×V)}{jb ae2:RD->aa}{old:RD->ag cI}{R:V->Cells->Prop}{N:Lc->Cells->Prop}{l:Lc}
def QJ(okW:RnOk gW TW 9 rs jb)(IW:HI gW TW [])(wW:gW.wt=[])(hn:gW.n<63)(okP:xb gP TP 9 m0 edges rs old ae2)(IP:HI gP TP [])(rz:rs.length<60)(ez:e0<100)(hz:his.length<900)(lg:iM gP m0 edges e0 old (X++je ru rs) [] rs (es,bV,X++je ru rs,[]))(wi:∀(fs:ag Fo)(b2:oJ)(gJ g6:HG),fs.length=rs.length->mF gW rs fs->Round gW TW (rows (cX rs fs)) gJ->iM gP m0 edges e0 old (X++je ru rs) rs [] b2->Round gP TP (rows (cX rs b2.2.2.2)) g6->sS gJ g6)(kk:∀(mI pS:HA)(gJ g6:HG)(iX:ag V)(fs:ag Fo)(b2:oJ)(X2:Cells),mI.a=HW.a->pS.a=HP.a->iX.length<=his.length+rs.length->fs.length=rs.length->mF gW rs fs->Round gW TW (rows (cX rs fs)) gJ->iM gP m0 edges e0 old (X++je ru rs) rs [] b2->Round gP TP (rows (cX rs b2.2.2.2)) g6->b2.2.2.1=X2++je ru rs->N (lh fd HW.a HP.a many ru A.n C.c) (jV ((rg,.range 0 2)::cN fd sl spot xs) A C HW.a HP.a rs iX (k+1) b2.1 b2.2.1 mI pS gJ g6 (X2++je ru rs))):WS (.fn (sA 31) 672) (b1 vi).tail 80 R N (lh fd HW.a HP.a many ru A.n C.c) (jV ((rg,.range 0 2)::cN fd sl spot xs) A C HW.a HP.a rs his k es bV HW HP gW gP (X++je ru rs)):=by
 refine WS.cons (W1.expr (EV.m PE.name (Mt.inst 3 4 ae1) (AV.p0 (CV.call (adI (A:=A) (H:=HW) (his:=his) (k:=k) rz IW wW hn okW hz) (QH (F:=(rg,.range 0 2)::cN fd sl spot xs) (C:=eF C HP.a es bV) (P:=aJ HP gP) (X:=X) (q:=(ru,.list (rs.map cf)))) (λv L z=>?_)))));obtain⟨mI,gJ,fs,iX,ha,fl,ao,rd,hl,rfl⟩:=z;refine WS.perm (M:=jV ((rg,.range 0 2)::cN fd sl spot xs) A C HW.a HP.a rs iX (k+1) es bV mI HP gJ gP (X++je ru rs)) (QH (F:=(rg,.range 0 2)::cN fd sl spot xs) (R:=dg A HW.a (rs.map cf) iX (k+1)) (C:=eF C HP.a es bV) (W:=aJ mI gJ) (P:=aJ HP gP) (X:=X) (q:=(ru,.list (rs.map cf)))).symm ?_;refine WS.cons (W1.expr (EV.fn (AV.p3 PE.name PE.name PE.name (CV.call (aeq (C:=C) (H:=HP) okP IP rz ez lg (bC _ aR) (λx hx=>⟨bC _ (bK _ (uY hx).1),bC _ (bK _ (uY hx).2)⟩)) (QI (F:=(rg,.range 0 2)::cN fd sl spot xs) (R:=dg A HW.a (rs.map cf) iX (k+1)) (C:=eF C HP.a es bV) (W:=aJ mI gJ) (P:=aJ HP gP)) (λv L z=>?_))) adM adN));obtain⟨pS,g6,b2,rfl,hb,J,HX,rfl⟩:=z;obtain⟨X2,hX⟩:=J.pl;have hX:b2.2.2.1=(X2++X)++je ru rs:=by simp only[hX,bW]
 simp only[hX];refine WS.perm (M:=jV ((rg,.range 0 2)::cN fd sl spot xs) A C HW.a HP.a rs iX (k+1) b2.1 b2.2.1 mI pS gJ g6 ((X2++X)++je ru rs)) (QI (F:=(rg,.range 0 2)::cN fd sl spot xs) (R:=dg A HW.a (rs.map cf) iX (k+1)) (C:=eF C HP.a b2.1 b2.2.1) (W:=aJ mI gJ) (P:=aJ pS g6)).symm ?_;refine SX (wi fs b2 gJ g6 fl ao rd J HX) λφ ψ tm Qy w1 w2=>?_;have rd':=rd;have ae3:=HX;obtain⟨g1,_,_,i1,s1,_⟩:=rd';obtain⟨g2,_,_,i2,s2,_⟩:=ae3;refine WS.cons (W1.fF (PT.Gy (PT.B9 (PT.of (EV.fn (AV.p2 PE.name PE.name (ha▸hb▸CP.call (PW (H1:=mI) (H2:=pS) i1 i2 s2 w1) (lp3 (F:=(rg,.range 0 2)::cN fd sl spot xs)))) Pr Pt)) rfl) (PT.B9 (PT.of (EV.fn (AV.p2 PE.name PE.name (ha▸hb▸CP.call (PW (H1:=pS) (H2:=mI) i2 i1 s1 w2) (lp4 (F:=(rg,.range 0 2)::cN fd sl spot xs)))) Pr Pt)) rfl)) rfl (WS.nil (WS.nil (kk mI pS gJ g6 iX fs b2 (X2++X) ha hb hl fl ao rd J HX hX))))
end
end
section
section
variable{F R C W P X:Cells}
def zU:(F++(R++(C++(W++X)))).Perm (W++(F++(R++(C++X)))):=by classical exact gz.mpr λx=>by simp only[gB];exact l5 0x4291909394392919099
def QK:(F++(R++(C++(W++(P++X))))).Perm (F++(R++(C++(P++(W++X))))):=((fj.append_left C).append_left R).append_left F
end
abbrev HY:ag cG:=b1 (dG (b1 vi))
inductive vj(g:HG)(T a b:aa)(g':HG):Prop|mk(ga:HG):kC g T a b ga->pI ga (T+1) g'->vj g T a b g'
abbrev Dg(fd w p many ru n c a b:aa):Lc:=.cons "feed" (.ref fd) (.cons "whole" (.ref w) (.cons "part" (.ref p) (.cons "many" (nv many) (.cons "rules_now" (.ref ru) (.cons "runner" (.ref n) (.cons "changes_now" (.ref c) (.cons "a" (nv a) (.cons "b" (nv b) .nil))))))))
section
variable{X Y:Cells}{A:NA}{C:CA}{H HW HP:HA}{g gW gP:HG}{rs:ag b8}{us his:ag V}{k ru T TW TP m0 edges e0 fd many rg sl spot w p a b:aa}{xs:ag bp}{es bV:ag (V×V)}{R:V->Cells->Prop}{N:Lc->Cells->Prop}{l:Lc}
def QL(qw:l.get "heap_now"=af (.ref H.a))(j9:l.get "a"=af (nv a))(hl3:l.get "b"=af (nv b))(I:HI g T [])(hT:T+1<100000)(ha:a<g.n)(hb:b<g.n)(kk:∀(H':HA)(g':HG),H'.a=H.a->vj g T a b g'->WS (.fn (sA 31) 672) (b1 (dG HY.tail)).tail.tail 80 R N l (((rg,.range 0 2)::cN fd sl spot xs)++(dg A w us his k++(eF C p es bV++(aJ H' g'++Y))))):WS (.fn (sA 31) 672) (b1 (dG HY.tail)) 80 R N l (((rg,.range 0 2)::cN fd sl spot xs)++(dg A w us his k++(eF C p es bV++(aJ H g++Y)))):=by refine WS.cons (W1.expr (EV.m (PE.name qw) (Mt.inst 20 21 Ht) (AV.p3 (PE.name j9) (PE.name hl3) (EV.tuple (AV.p2 PE.str PE.str ⟨aL rfl,rfl,rfl⟩)) (CV.call (Hq (H:=H) I hT ha hb) (zU (F:=(rg,.range 0 2)::cN fd sl spot xs)) (λv L z=>?_)))));obtain⟨H1,g1,e1,⟨⟨t,rfl⟩,P1⟩,rfl⟩:=z;refine WS.perm (zU (F:=(rg,.range 0 2)::cN fd sl spot xs) (R:=dg A w us his k) (C:=eF C p es bV)).symm ?_;refine WS.cons (W1.expr (EV.m (PE.name (qw.trans (aO (λx=>af (V.ref x)) e1.symm))) (Mt.inst 20 21 zD) (AV.p0 (CV.call (y4 (H:=H1) P1.hi) (zU (F:=(rg,.range 0 2)::cN fd sl spot xs)) (λv L z=>?_)))));obtain⟨H2,g2,e2,⟨rfl,P2⟩,rfl⟩:=z;refine WS.perm (zU (F:=(rg,.range 0 2)::cN fd sl spot xs) (R:=dg A w us his k) (C:=eF C p es bV)).symm (kk H2 g2 (e2.trans e1) ⟨g1,P1,P2⟩)
inductive Dh(w p a b:aa)(HW HP:HA)(gW gP:HG)(TW TP:aa):ag V->HA×HG×HA×HG->Prop|zero:Dh w p a b HW HP gW gP TW TP [.ref w,.ref p] (HW,gW,HP,gP)|one(fq:HA)(dA:HG):fq.a=HW.a->vj gW TW a b dA->Dh w p a b HW HP gW gP TW TP [.ref p] (fq,dA,HP,gP)|two(fq g7:HA)(dA dP:HG):fq.a=HW.a->g7.a=HP.a->vj gW TW a b dA->vj gP TP a b dP->Dh w p a b HW HP gW gP TW TP [] (fq,dA,g7,dP)
def ae4(IW:HI gW TW [])(IP:HI gP TP [])(hT:TW+1<100000)(yB:TP+1<100000)(ha:a<gW.n)(hb:b<gW.n)(ha':a<gP.n)(lI:b<gP.n)(kk:∀(fq g7:HA)(dA dP:HG),fq.a=HW.a->g7.a=HP.a->vj gW TW a b dA->vj gP TP a b dP->N (Dg fd HW.a HP.a many ru A.n C.c a b) (jV ((rg,.range 0 2)::cN fd sl spot xs) A C HW.a HP.a rs his k es bV fq g7 dA dP Y)):W1 (.fn (sA 31) 672) (dG HY.tail) 80 R N (Dg fd HW.a HP.a many ru A.n C.c a b) (jV ((rg,.range 0 2)::cN fd sl spot xs) A C HW.a HP.a rs his k es bV HW HP gW gP Y):=by
 refine W1.for (EV.tuple (AV.p2 PE.name PE.name ⟨aL rfl,⟨.tup,λu:HA×HG×HA×HG=>Dg fd HW.a HP.a many ru A.n C.c a b,λs=>jV ((rg,.range 0 2)::cN fd sl spot xs) A C HW.a HP.a rs his k es bV s.1 s.2.2.1 s.2.1 s.2.2.2 Y,Dh HW.a HP.a a b HW HP gW gP TW TP,(HW,gW,HP,gP),.zero,rfl,rfl,λv rest s z=>⟨cZ,?_⟩,λs z=>⟨cZ,?_⟩⟩⟩)) (.inl (d8 _ _ rfl));·refine(aA _ (.name _ _ rfl rfl) ?_);cases z with|zero=>exact QL (H:=HW) rfl rfl rfl IW hT ha hb λH' g' e t=>WS.fin (bH ((H',g',HP,gP)) rfl rfl (.one H' g' e t)) rfl|one fq dA e t=>refine WS.perm (M:=((rg,.range 0 2)::cN fd sl spot xs)++(dg A HW.a (rs.map cf) his k++(eF C HP.a es bV++(aJ HP gP++(aJ fq dA++Y))))) QK ?_;refine QL (H:=HP) rfl rfl rfl IP yB ha' lI λH' g' e' t'=>?_;exact WS.perm (M:=jV ((rg,.range 0 2)::cN fd sl spot xs) A C HW.a HP.a rs his k es bV fq H' dA g' Y) QK (WS.fin (bH ((fq,dA,H',g')) rfl rfl (.two fq H' dA g' e e' t t')) rfl)
 ·cases z with|two fq g7 dA dP e e' t t'=>exact kk fq g7 dA dP e e' t t'
end
end
section
def WS.less(hm:m.In l)(h:WS E xs r R N m L):WS E xs r R N l L:=λX w a st p A P s' ao g F=>h X w a st p A P s' ao g (F.less hm.le)
def Inv1.out(h:Inv1 l rs jU gW TW gP TP b):HI gW TW []/\gW.wt=[]/\HI gP TP []/\gP.wt=[]/\l.length<=gW.n/\l.length<=gP.n:=by obtain⟨zR,fR,xg,FW,FP,_,_,r1,rfl,_,r2,rfl⟩:=h;obtain⟨g1,a1,_,i1,s1,t1⟩:=r1;obtain⟨g2,a2,_,i2,s2,t2⟩:=r2;rw[oZ]at i1 i2;exact(AJ i1 s1 i2 s2 (by rw[←FW.n,t1.eq];exact a1.out.2.1.le) (by exact FP.n▸t2.eq.symm▸a2.out.2.1.le))
section
variable{X Y:Cells}{A:NA}{C:CA}{H HW HP:HA}{g gW gP:HG}{rs:ag b8}{us his:ag V}{k ru T TW TP m0 edges e0 fd many rg sl spot w p a b:aa}{xs:ag bp}{es bV:ag (V×V)}{R:V->Cells->Prop}{N:Lc->Cells->Prop}{l:Lc}
def ae5(IW:HI gW TW [])(IP:HI gP TP [])(hT:TW+1<100000)(yB:TP+1<100000)(wW:gW.wt=[])(wP:gP.wt=[])(hm:0<many)(mW:many<=gW.n)(mP:many<=gP.n)(hs:spot<900)(hx:xs.length<100)(kk:∀(fq g7:HA)(dA dP:HG)(qZ rh mG:aa),fq.a=HW.a->g7.a=HP.a->mG<1000->Df many gW TW gP TP dA qZ dP rh->HI dA qZ []->dA.wt=[]->HI dP rh []->dP.wt=[]->WS (.fn (sA 31) 672) (b1 vi).tail 80 R N (lh fd HW.a HP.a many ru A.n C.c) (jV ((rg,.range 0 2)::cN fd sl mG xs) A C HW.a HP.a rs his k es bV fq g7 dA dP Y)):WS (.fn (sA 31) 672) (b1 vi) 80 R N ((lh fd HW.a HP.a many ru A.n C.c).put "turn" (nv 1)) (jV ((rg,.range 0 2)::cN fd sl spot xs) A C HW.a HP.a rs his k es bV HW HP gW gP Y):=by
 have dp:∀{s:aa},jV ((rg,.range 0 2)::cN fd sl s xs) A C HW.a HP.a rs his k es bV HW HP gW gP Y=[(rg,.range 0 2)]++(cN fd sl s xs++(dg A HW.a (rs.map cf) his k++(eF C HP.a es bV++(aJ HW gW++(aJ HP gP++Y))))):=λ{s}=>rfl;refine WS.cons (W1.qG (TV.sG (TV.use (PT.cmp .Gt PE.name (PE.nat 0)) ((a0 rfl).mpr (TV.cmp .Eq (EV.drop (EV.fn (AV.p2 PE.name (PE.nat 3) (CV.call (u6 (fd:=fd) (sl:=sl) (spot:=spot) (xs:=xs) (many:=3) (by decide) ((lp _ hs)) hx) (dp▸fj (A:=[(rg,.range 0 2)])) (λv L z=>?_))) u4 u5)))))));obtain⟨q,_,rfl,rfl⟩:=z;refine⟨jV ((rg,.range 0 2)::cN fd sl (spot+1) xs) A C HW.a HP.a rs his k es bV HW HP gW gP Y,[],(fj (B:=[(rg,.range 0 2)])).trans (.of_eq (bN _).symm),EV.use (PE.nat 0) (BV.to (BV.lH rfl) (aA _ rfl ?_))⟩;by_cases e:q=0;·rw[c7 e];refine WS.cons (W1.sE ["a","b"] (EV.tuple (AV.cons (EV.drop (EV.fn (AV.p2 PE.name PE.name (CV.call (u6 (fd:=fd) (sl:=sl) (spot:=spot+1) (xs:=xs) (many:=many) hm ((br hs (aL rfl))) hx) (dp▸fj (A:=[(rg,.range 0 2)])) (λv L z=>?_))) u4 u5)))));obtain⟨a,ha,rfl,rfl⟩:=z;refine⟨jV ((rg,.range 0 2)::cN fd sl (spot+1+1) xs) A C HW.a HP.a rs his k es bV HW HP gW gP Y,[],(fj (B:=[(rg,.range 0 2)])).trans (.of_eq (bN _).symm),?_⟩;refine AV.cons (EV.drop (EV.fn (AV.p2 PE.name PE.name (CV.call (u6 (fd:=fd) (sl:=sl) (spot:=spot+1+1) (xs:=xs) (many:=many) hm (l1 0x3e83a0dd83843a02 hs) hx) (dp▸fj (A:=[(rg,.range 0 2)])) (λv L z=>?_))) u4 u5));obtain⟨b,hb,rfl,rfl⟩:=z;refine⟨jV ((rg,.range 0 2)::cN fd sl (spot+1+1+1) xs) A C HW.a HP.a rs his k es bV HW HP gW gP Y,[],(fj (B:=[(rg,.range 0 2)])).trans (.of_eq (bN _).symm),AV.nil ⟨aL rfl,⟨rfl,?_⟩⟩⟩;refine WS.less (m:=Dg fd HW.a HP.a many ru A.n C.c a b) rfl (WS.cons (ae4 IW IP hT yB (bj ha mW) (bj hb mW) (bj ha mP) (bj hb mP) λfq g7 dA dP e1 e2 t1 t2=>WS.nil ?_));obtain⟨ga,t1,s1⟩:=t1;obtain⟨gb,t2,s2⟩:=t2;have s1':=s1;have s2':=s2;obtain⟨_,i1,w1,_⟩:=s1';obtain⟨_,i2,w2,_⟩:=s2';exact WS.less (m:=lh fd HW.a HP.a many ru A.n C.c) rfl (kk fq g7 dA dP _ _ _ e1 e2 (l1 0x3e83a0ddd83843a02 hs) (.told a b ga gb dA dP ha hb t1 s1 t2 s2) i1 w1 i2 w2)
 ·rw[dS e];exact WS.nil (WS.less (m:=lh fd HW.a HP.a many ru A.n C.c) rfl (kk HW HP gW gP _ _ _ rfl rfl ((br hs (aL rfl))) .same IW wW IP wP))
end
end
section
set_option genSizeOf false in set_option genInjectivity false in structure xh where
 spot:aa
 HW:HA
 HP:HA
 gW:HG
 gP:HG
 his:ag V
 k:aa
 es:ag (V×V)
 bV:ag (V×V)
 X:Cells
inductive ri(l:ag Node)(rs:ag b8)(ru w p:aa):ag V->xh->Prop|zero(b:xh):b.HW.a=w->b.HP.a=p->cO b.gW l->cO b.gP l->b.his=[]->b.es=[]->b.bV=[]->b.X=[]->b.spot<800->ri l rs ru w p [nv 0,nv 1] b|one(b:xh)(fs:ag Fo)(TW TP:aa):b.HW.a=w->b.HP.a=p->Inv1 l rs (je ru rs) b.gW TW b.gP TP (b.es,b.bV,b.X++je ru rs,fs)->b.his.length<=2->b.spot<800->ri l rs ru w p [nv 1] b|two(b:xh):ri l rs ru w p [] b
section
variable{A:NA}{C:CA}{HW HP:HA}{gW gP:HG}{rs:ag b8}{his:ag V}{k ru fd sl spot w p:aa}{xs:ag bp}{R:V->Cells->Prop}{N:Lc->Cells->Prop}{ns:ag Node}
abbrev xi(fd sl rg:aa)(xs:ag bp)(A:NA)(C:CA)(w p ru:aa)(rs:ag b8)(b:xh):Cells:=jV ((rg,.range 0 2)::cN fd sl b.spot xs) A C w p rs b.his b.k b.es b.bV b.HW b.HP b.gW b.gP (b.X++je ru rs)
def iM.start{es bV:ag (V×V)}(k1:oI es)(k2:oI bV)(z1:es.length<=e0)(z2:bV.length<=e0)(sn:∀x∈rs,Seen es bV Pl x.rd.l m0 edges (old x.rd)):iM g m0 edges e0 old Pl [] rs (es,bV,Pl,[]):=⟨rfl,k1,k2,z1,z2,⟨[],rfl⟩,sn,λi x f e u=>(nomatch e),λi x f e u=>(nomatch e),λf h=>(by contradiction)⟩
def ae6(hb:oO ns)(hr:iO rs)(hx:xs.length<100)(z:ri ns rs ru w p [nv 0,nv 1] b):WS (.fn (sA 31) 672) (b1 vi) 80 R (λl2 L2=>∃b',l2=lh fd w p ns.length ru A.n C.c/\L2=xi fd sl rg xs A C w p ru rs b'/\ri ns rs ru w p [nv 1] b') ((lh fd w p ns.length ru A.n C.c).put "turn" (nv 0)) (xi fd sl rg xs A C w p ru rs b):=by
 obtain⟨spot,HW,HP,gW,gP,his,k,es,bV,X⟩:=b;have rz:=hr.2.1;cases z with
  |zero _ e1 e2 FW FP h1 h2 h3 h4 hs=>
   have e1:HW.a=w:=e1;have e2:HP.a=p:=e2;have FW:cO gW ns:=FW;have FP:cO gP ns:=FP;obtain rfl:his=[]:=h1;obtain rfl:es=[]:=h2;obtain rfl:bV=[]:=h3;obtain rfl:X=[]:=h4;rw[←e1];rw[←e2];have n10:=(QA hb).2;refine WS.cons (W1.fF (TV.sG (TV.use (PT.cmp .Gt PE.name (PE.nat 0)) ((aX (by decide)).mpr ⟨rfl,rfl⟩))) rfl (WS.nil (WS.less (m:=lh fd HW.a HP.a ns.length ru A.n C.c) rfl ?_)));refine QJ (X:=[]) (QB hb hr FW).toRnOk FW.hi FW.wt (by rw[FW.n];exact br n10 (aL rfl)) (QB hb hr FP) FP.hi (e0:=0) ((br rz (aL rfl))) (by decide) (DD _) (iM.start (λu h=>(by contradiction)) (λu h=>(by contradiction)) (bq _) (bq _) λx u=>.none) (λfs b2 gJ g6 h1 h2 h3 h4 h5=>?_) λmI pS gJ g6 iX fs b2 X2 e1 e2 e3 h1 h2 h3 h4 h5 h6=>?_;·exact(QC hb hr ⟨gW,gP,fs,FW,FP,h1,h2,h3,rfl,h4,h5,rfl⟩).1
   ·refine(bH ⟨spot,mI,pS,gJ,g6,iX,k+1,b2.1,b2.2.1,X2⟩ rfl rfl (.one _ b2.2.2.2 _ _ e1 e2 ⟨gW,gP,fs,FW,FP,h1,h2,h3,rfl,?_,h5,rfl⟩ ?_ hs));·exact h6▸h4
    ·exact bG e3 (by simp only[Am,oZ];exact rz)
def ae7(hb:oO ns)(hr:iO rs)(hx:xs.length<100)(z:ri ns rs ru w p [nv 1] b):WS (.fn (sA 31) 672) (b1 vi) 80 R (λl2 L2=>∃b',l2=lh fd w p ns.length ru A.n C.c/\L2=xi fd sl rg xs A C w p ru rs b'/\ri ns rs ru w p [] b') ((lh fd w p ns.length ru A.n C.c).put "turn" (nv 1)) (xi fd sl rg xs A C w p ru rs b):=by
 obtain⟨spot,HW,HP,gW,gP,his,k,es,bV,X⟩:=b;have rz:=hr.2.1;cases z with
  |one _ fs TW TP e1 e2 J hz hs=>
   have e1:HW.a=w:=e1;have e2:HP.a=p:=e2;have J:Inv1 ns rs (je ru rs) gW TW gP TP (es,bV,X++je ru rs,fs):=J;rw[←e1];rw[←e2];refine gf (QC hb hr J) λu t1 t2=>?_;refine D5 J.out λIW wW IP wP nW nP=>?_;have kp:oI es/\oI bV/\es.length<=0+rs.length/\bV.length<=0+rs.length:=by obtain⟨_,_,_,_,_,_,_,_,_,jd,_⟩:=J;exact(ip jd.k1 jd.k2 jd.z1 jd.z2)
   refine ae5 IW IP ((br t1 (aL rfl))) ((br t2 (aL rfl))) wW wP (QA hb).1 nW nP ((lp _ hs)) hx λfq g7 dA dP qZ rh mG e1 e2 h1 m i1 w1 i2 w2=>?_;refine j4 (aeY hb hr J m) λn0 old Ct ok2 n63 sn wi=>?_;exact e1▸e2▸(QJ (X:=X) Ct i1 w1 n63 ok2 i2 (e0:=0+rs.length) ((br rz (aL rfl))) (by exact l1 0x642a00b982b01 rz) ((br hz (aL rfl))) (iM.start kp.1 kp.2.1 kp.2.2.1 kp.2.2.2 sn) (λfs b2 gJ g6 h1 h2 h3 h4 h5=>wi fs _ _ b2 gJ g6 h1 h2 h3 h4 h5) λmI pS gJ g6 iX fs b2 X2 e3 e4 e5 h1 h2 h3 h4 h5 h6=>(bH ⟨mG,mI,pS,gJ,g6,iX,k+1,b2.1,b2.2.1,X2⟩ rfl rfl (.two _)))
def ae8(hb:oO ns)(hr:iO rs)(hx:xs.length<100)(hs:spot<800)(FW:cO gW ns)(FP:cO gP ns)(kk:∀rg b,N (lh fd HW.a HP.a ns.length ru A.n C.c) (xi fd sl rg xs A C HW.a HP.a ru rs b)):W1 (.fn (sA 31) 672) vi 80 R N (lh fd HW.a HP.a ns.length ru A.n C.c) (jV (cN fd sl spot xs) A C HW.a HP.a rs [] 0 [] [] HW HP gW gP (je ru rs)):=by refine W1.for (EV.bi (.type "range") kt (AV.p1 (PE.nat 2) (CV.range (λrg=>?_) (by decide)))) (.inl (d8 _ _ rfl));refine⟨.uC (n:=2) (.head _) (by decide),λu:xh=>lh fd HW.a HP.a ns.length ru A.n C.c,xi fd sl rg xs A C HW.a HP.a ru rs,ri ns rs ru HW.a HP.a,⟨spot,HW,HP,gW,gP,[],0,[],[],[]⟩,(show ri ns rs ru HW.a HP.a [nv 0,nv 1] _ from .zero _ rfl rfl FW FP rfl rfl rfl rfl hs),rfl,rfl,λv rest b z=>⟨cZ,?_⟩,λb z=>⟨cZ,kk rg b⟩⟩;cases z with|zero _ h1 h2 h3 h4 h5 h6 h7 h8 h9=>exact(aA _ (.name _ _ rfl rfl) (ae6 hb hr hx (.zero _ h1 h2 h3 h4 h5 h6 h7 h8 h9)))|one _ fs TW TP h1 h2 h3 h4 h5=>exact(aA _ (.name _ _ rfl rfl) (ae7 hb hr hx (.one _ fs TW TP h1 h2 h3 h4 h5)))
end
end
section
def ae9:FnAt 672 (sA 31) ["script"]:=.eI
def QM:∀(d:aa){t:Tm},t∈jc d->t.all wR=ai/\t.dep<=d+1:=by
 intro d;have ka:wR "a"=ai:=by kernel_rfl
 have QN:wR "b"=ai:=by kernel_rfl
 induction d with
  |zero=>
   intro t h;rcases cg.mp h with rfl|h;·exact⟨ka,aL rfl⟩
   ·rw[bU.mp h];exact⟨QN,aL rfl⟩|succ d ih=>
   intro t h;rcases cw.mp h with h|h;·
    rcases cg.mp h with rfl|h;·exact⟨ka,bG (aL rfl:(Tm.lf "a").dep<=1) (ie ..)⟩
    ·rw[bU.mp h];exact⟨QN,bG (aL rfl:(Tm.lf "b").dep<=1) (ie ..)⟩
   ·rcases cw.mp h with h|h;·refine aq (bt.mp h) λu hu aC=>?_;subst aC;refine bx (ih hu) λh1 h2=>?_;exact⟨bM.mpr ⟨(by kernel_rfl),h1⟩,by show 1+u.dep<=_;exact l2 32779653291265 h2⟩
    ·refine aq (mN.mp h) λu hu h=>?_;refine aq (bt.mp h) λv hv aC=>?_;rw[←aC];refine bx (ih hu) λh1 h2=>?_;refine bx (ih hv) λh3 h4=>?_;exact⟨bM.mpr ⟨(by kernel_rfl),bM.mpr ⟨h1,h3⟩⟩,by show 1+max u.dep v.dep<=_;lia⟩
end
section
section
variable{T F W P R U Z C:Cells}
def HZ:(T++(F++(W++P))).Perm (W++((T++F)++P)):=by classical exact gz.mpr λx=>by simp only[gB];exact l4 0x310992932919099
def QO:(W++((T++F)++P)).Perm ((T++(F++(P++W)))++[]):=by classical exact gz.mpr λx=>by simp only[gB,vI];exact l4 0xb0392919932199099
def lq4:(C++((R++Z)++(F++(W++P)))).Perm (F++(R++(C++(P++(W++Z))))):=by classical exact gz.mpr λx=>by simp only[gB];exact l6 0x24959091939549392199099
def lq5:(P++(F++(R++(C++(W++Z))))).Perm (F++(R++(C++(W++(P++Z))))):=by classical exact gz.mpr λx=>by simp only[gB];exact l6 0x50949392919549392919099
end
noncomputable abbrev xj(fd w p:aa):Lc:=.cons "feed" (.ref fd) (.cons "whole" (.ref w) (.cons "part" (.ref p) .nil))
abbrev vk(te fd sl sp:aa)(xs:ag bp)(ts:ag V)(HW HP:HA)(gW gP:HG):Cells:=[(te,.list ts)]++(cN fd sl sp xs++(aJ HW gW++aJ HP gP))
abbrev H0:cG:=dG (b1 (sA 31)).tail.tail
section
variable{te fd sl sp:aa}{xs:ag bp}{ts:ag V}{HW HP:HA}{gW gP:HG}{R:V->Cells->Prop}{N:Lc->Cells->Prop}{t:Tm}{l:ag Node}
def QP(ha:t.all wR=ai)(hd:t.dep<=9)(hl:(dO t l).2.length<999)(FW:cO gW l)(FP:cO gP l)(k:∀(fq g7:HA)(dA dP:HG),fq.a=HW.a->g7.a=HP.a->cO dA (dO t l).2->cO dP (dO t l).2->WS (.fn (sA 31) 672) (b1 H0).tail 80 R N ((xj fd HW.a HP.a).put "t" (aS t)) (vk te fd sl sp xs ts fq g7 dA dP)):WS (.fn (sA 31) 672) (b1 H0) 80 R N ((xj fd HW.a HP.a).put "t" (aS t)) (vk te fd sl sp xs ts HW HP gW gP):=by refine WS.cons (W1.qG (TV.cmp .NotEq (EV.drop (EV.m PE.name (Mt.inst 3 4 G5) (AV.p1 PE.name (CV.call (NR (H:=HW) (λu=>oo.of) t hd ha FW hl) (HZ (T:=[(te,.list ts)])) (λv L z=>?_)))))));obtain⟨H1,g1,e1,⟨rfl,F1,_⟩,rfl⟩:=z;refine⟨[(te,.list ts)]++(cN fd sl sp xs++(aJ HP gP++aJ H1 g1)),[],QO,?_⟩;refine EV.drop (EV.m PE.name (Mt.inst 3 4 G5) (AV.p1 PE.name (CV.call (NR (H:=HP) (λu=>oo.of) t hd ha FP hl) (HZ (T:=[(te,.list ts)])) (λv L z=>?_))));obtain⟨H2,g2,e2,⟨rfl,F2,_⟩,rfl⟩:=z;refine⟨vk te fd sl sp xs ts H1 H2 g1 g2,[],QO,BV.to (BV.lH rfl) (aA aD (aO V.bool (uJ rfl)) ?_)⟩;exact WS.nil (k H1 H2 g1 g2 e1 e2 F1 F2)
inductive Di(t1 t2:Tm)(w p:aa):ag V->HA×HG×HA×HG->Prop|zero(b:HA×HG×HA×HG):b.1.a=w->b.2.2.1.a=p->cO b.2.1 []->cO b.2.2.2 []->Di t1 t2 w p [aS t1,aS t2] b|one(b:HA×HG×HA×HG):b.1.a=w->b.2.2.1.a=p->cO b.2.1 (dO t1 []).2->cO b.2.2.2 (dO t1 []).2->Di t1 t2 w p [aS t2] b|two(b:HA×HG×HA×HG):b.1.a=w->b.2.2.1.a=p->cO b.2.1 (dO t2 (dO t1 []).2).2->cO b.2.2.2 (dO t2 (dO t1 []).2).2->Di t1 t2 w p [] b
def afa{l:Lc}(hl:(xj fd HW.a HP.a).In l)(ht:l.get "terms"=af (.ref te))(h1:t1∈jc 2)(h2:t2∈jc 1)(k:∀(fq g7:HA)(gW gP:HG),fq.a=HW.a->g7.a=HP.a->cO gW (dO t2 (dO t1 []).2).2->cO gP (dO t2 (dO t1 []).2).2->N (xj fd HW.a HP.a) (vk te fd sl sp xs [aS t1,aS t2] fq g7 gW gP)):W1 (.fn (sA 31) 672) H0 80 R N l (vk te fd sl sp xs [aS t1,aS t2] HW HP .none .none):=by
 refine bx (QM 2 h1) λa1 d1=>?_;refine bx (QM 1 h2) λa2 d2=>?_;obtain⟨z1,z2⟩:=ae0 h1 h2;refine W1.for (EV.use (PE.name ht) ⟨.list (vs:=[aS t1,aS t2]) (.head _) (aL rfl),λu:HA×HG×HA×HG=>xj fd HW.a HP.a,λb=>vk te fd sl sp xs [aS t1,aS t2] b.1 b.2.2.1 b.2.1 b.2.2.2,Di t1 t2 HW.a HP.a,(HW,.none,HP,.none),.zero _ rfl rfl .zero .zero,hl,rfl,λv rest b z=>(dD (.head _) (aA _ (.name _ _ rfl rfl) ?_)),λb z=>⟨.head _,?_⟩⟩) (.inl (d8 _ _ rfl));·obtain⟨H1,g1,H2,g2⟩:=b;cases z with|zero _ e1 e2 F1 F2=>have e1:H1.a=HW.a:=e1;have e2:H2.a=HP.a:=e2;rw[←e1,←e2];exact QP a1 ((oR d1)) z1 F1 F2 λfq g7 dA dP q1 q2 G1 G2=>WS.fin (bH ((fq,dA,g7,dP)) rfl rfl (.one _ q1 q2 G1 G2)) rfl|one _ e1 e2 F1 F2=>have e1:H1.a=HW.a:=e1;have e2:H2.a=HP.a:=e2;rw[←e1,←e2];exact QP a2 ((oR d2)) z2 F1 F2 λfq g7 dA dP q1 q2 G1 G2=>WS.fin (bH ((fq,dA,g7,dP)) rfl rfl (.two _ q1 q2 G1 G2)) rfl
 ·obtain⟨H1,g1,H2,g2⟩:=b;cases z with|two _ e1 e2 F1 F2=>exact k H1 H2 g1 g2 e1 e2 F1 F2
end
end
section
inductive H4(v:V)(L:Cells):Prop|mk:v=.bool ai->H4 v L
section
variable{fd sl sp ru:aa}{xs:ag bp}{HW HP:HA}{gW gP:HG}{rs:ag b8}{R:V->Cells->Prop}{N:Lc->Cells->Prop}{ns:ag Node}{l:Lc}
def afb(hb:oO ns)(hr:iO rs)(hx:xs.length<100)(hs:sp<800)(FW:cO gW ns)(FP:cO gP ns)(hl:(lh fd HW.a HP.a ns.length ru A.n C.c).In l)(hp:l.get "part"=af (.ref HP.a))(hR:∀L,R (.bool ai) L):WS (.fn (sA 31) 672) (b1 (sA 31)).tail.tail.tail.tail.tail 80 R N l (cN fd sl sp xs++(dg A HW.a (rs.map cf) [] 0++(eF C HP.a [] []++(aJ HP gP++(aJ HW gW++je ru rs))))):=by refine WS.cons (W1.expr (EV.m (PE.name hp) (Mt.inst 19 20 zD) (AV.p0 (CV.call (y4 (H:=HP) FP.hi) (zU (F:=cN fd sl sp xs)) (λv L z=>?_)))));obtain⟨H2,g2,e2,⟨rfl,se,_,_,_⟩,rfl⟩:=z;clear a_3;obtain rfl:=se FP.wt;refine WS.perm (M:=jV (cN fd sl sp xs) A C HW.a HP.a rs [] 0 [] [] HW H2 gW g2 (je ru rs)) (lq5 (R:=dg A HW.a (rs.map cf) [] 0)) (WS.less hl ?_);exact e2▸(WS.cons (ae8 hb hr hx hs FW FP λrg b=>WS.ret (EV.use (PE.bool ai) (hR _))))
def afc(h1:t1∈jc 2)(h2:t2∈jc 1)(hx:xs.length<100)(hs:sp<700)(FW:cO gW (dO t2 (dO t1 []).2).2)(FP:cO gP (dO t2 (dO t1 []).2).2)(hR:∀L,R (.bool ai) L):WS (.fn (sA 31) 672) (b1 (sA 31)).tail.tail.tail 80 R N (xj fd HW.a HP.a) (vk te fd sl sp xs [aS t1,aS t2] HW HP gW gP):=by
 refine WS.cons (W1.sE ["many","rules_now"] (EV.tuple (AV.cons (EV.use (EV.m PE.name (Mt.inst 3 4 zo) (AV.p0 (CP.call (yT (H:=HW) FW.hi.ok) (HZ (T:=[(te,.list [aS t1,aS t2])]))))) (AV.cons (EV.drop (EV.fn (AV.p1 PE.name (CV.call (ad3 (fd:=fd) (sl:=sl) (spot:=sp) (xs:=xs) (l1 0x3843a082bc3a02 hs) hx) (fj (A:=[(te,.list [aS t1,aS t2])]) (B:=cN fd sl sp xs) (C:=aJ HW gW++aJ HP gP)) (λv L z=>?_))) adK adL)))))));obtain⟨ru,QQ,rs,rem,rfl,ne,le,pm,hV,rfl⟩:=z;refine⟨[(ru,.list (rs.map cf))]++(fG rs++(cN fd sl QQ xs++(aJ HW gW++aJ HP gP))),[(te,.list [aS t1,aS t2])],?_,AV.nil ⟨aL rfl,⟨rfl,?_⟩⟩⟩;·classical exact gz.mpr λx=>by simp only[gB,ll,vI];exact l6 0x30b9549091920b99954930b992109999
 have hr:iO rs:=(cM (gE rem pm) le ne);have hn:(rs.map λx=>x.rd.nm).Nodup:=by have k2:=(pm.map RD.nm).nodup_iff.mpr (by decide+kernel);rw[cy,dQ]at k2;exact(gA.mp k2).2.1
 refine WS.cons (W1.sE ["runner","changes_now"] (EV.tuple (AV.cons (EV.fn (AV.cons (EV.use PE.name (AV.cons (EV.use PE.name (AV.cons (EV.om λop=>AV.nil (CV.make λx dx=>Sp.frame (L:=(x,.inst 623 dx)::(dx,.attrs [])::(op,.dict [])::(ru,.list (rs.map cf))::fG rs) (adp (h:=HW.a) hn (l1 258403216129 le)) λv L z=>?_))))))) adQ adR))));obtain⟨A,rfl,rfl,rfl,rfl⟩:=z;refine⟨rfl,AV.cons (EV.fn (AV.p1 PE.name (CV.make λc dc=>Sp.frame (L:=[_,_]) (acx (h:=HP.a)) λv L z=>?_)) adS adT)⟩;obtain⟨C,rfl,rfl,rfl⟩:=z;refine⟨rfl,AV.nil ⟨aL rfl,⟨rfl,?_⟩⟩⟩;refine WS.perm (M:=cN fd sl QQ xs++(dg A HW.a (rs.map cf) [] 0++(eF C HP.a [] []++(aJ HP gP++(aJ HW gW++je ru rs))))) (lq4 (C:=eF C HP.a [] []) (R:=dg A HW.a (rs.map cf) [] 0)) ?_;rw[FW.n];exact afb (aA t1 h1 (aA t2 h2 rfl)) hr hx (l2 0x3203a183b09112bc3a02 hs hV) FW FP rfl rfl hR
end
end
section
end
section
section
variable [X:Hid]
variable{w:aZ}{K K':cJ}{r:aa}{env:bI}{loc:Loc}{st:aE}
def WE.sT(hK:∀h,Gd K' h->Gd K h)(h:WE pw w K r env t loc st Q):WE pw w K' r env t loc st Q:=λA P s a g F=>h A P s a (hK _ g) F
def WL.sT(hK:∀h,Gd K' h->Gd K h)(h:WL pw w K r env t loc st Q):WL pw w K' r env t loc st Q:=λA P s a g F=>h A P s a (hK _ g) F
def OV.sT(hK:∀h,Gd K' h->Gd K h)(h:OV pw w K r env t vs loc st Q):OV pw w K' r env t vs loc st Q:=λA P s xs a g F=>h A P s xs a (hK _ g) F
def WF.sT(hK:∀h,Gd K' h->Gd K h)(h:WF pw w K r env t loc st N R):WF pw w K' r env t loc st N R:=λA P s a g F=>h A P s a (hK _ g) F
def afd{m l n:aa}(ho:K'.lookup l=af ob)(hc:ob.cls=.type "list")(hd:ob.data=.seq items n)(hv:∀h:cL,bB h vs items.toList)(hz:vs.length<=16777216)(h:WE pw w K' r env (bc x env) loc st λu aQ=>u=.ref l/\∀b,aQ b=ah->Q (.ref b) (aQ.put b (.list (vs.take m)))):WE pw w K' r env (bc (.Subscript x (.Slice ah (af (.Constant (.int m) k p1)) ah p) pos) env) loc st Q:=λA P s a g F=>by
 refine Jb (h.use a g F λy s1 u aQ ru F1 z1 z=>?_);obtain⟨rfl,z1⟩:=z1;rw[ru];have e:=(g.keeps F1.keep).dM l _ ho;have hl:items.size=vs.length:=by exact(hv s1.heap).length
 refine Sn (Ag (RH (Iw (Ag ?_))));have e':(s1.heap.push {cls:=.type "slice",data:=.fields #[.none,.int m s1.toks,.none]}).get? l=af ob:=cB _ e;have hsz:(s1.heap.push {cls:=.type "slice",data:=.fields #[.none,.int m s1.toks,.none]}).get? s1.heap.objs.size=af {cls:=.type "slice",data:=.fields #[.none,.int m s1.toks,.none]}:=eG _ rfl;refine AE (T:="list") (aA _ e' hc) agT.lookup (wpAny_getItem_list_slice (bH ob e' hc (gE n hd)) (bH _ hsz rfl rfl) .none (.int _ _) .none nofun ?_ (by rw[hl,j8];exact hz)) rfl;have hp:(DT items ah (af (m:bp)) ah).toList=items.toList.take m:=by
  by_cases q:m<=items.size;·rw[slicePick_upto items m q]
  ·have e1:DT items ah (af (m:bp)) ah=DT items ah ah ah:=by
    unfold DT;have:Sq ah (af (m:bp)) ah items.size=Sq ah ah ah items.size:=by unfold Sq;dsimp;lia
    rw[this]
   simp only[e1,slicePick_all,z7 (by rw[fh];exact Nat.le_of_not_le q)]
 refine bx (((F1.grow (h':=s1.heap.push {cls:=.type "slice",data:=.fields #[.none,.int m s1.toks,.none]}) λb o e=>cB _ e).tok (s1.toks+1)).new (o:=.list (vs.take m)) (ro:={cls:=.type "list",data:=.seq (DT items ah (af (m:bp)) ah)}) rfl λh' k=>(eK _ 0 rfl (by exact hp▸((hv _).take m)))) λnn F3=>?_;exact⟨_,_,.ref _,F3,z1 _ nn⟩
end
end
section
abbrev pU:cG:=dG (b1 (sA 31))
abbrev eT:aT:=sv pU
abbrev eL:aT:=fE (es eT)
abbrev eC:aT:=fE (es eL)
abbrev lE:EF:=.fn (sA 31) 672
section
variable [X:Hid]
variable{w:aZ}{K':cJ}{sc n:aa}{items:b9 aF}{ys:ag bp}{st:aE}
def afe(hK:∀h,Gd K' h->Gd (KW w) h)(ho:K'.lookup sc=af ob)(zV:ob.cls=.type "list")(wJ:ob.data=.seq items n)(hv:∀h:cL,bB h (ys.map V.int) items.toList)(hn:hH K' fw "list"=af ah)(hy:ys.length<100)(a:Ar)(Rp:Rep st []):WE pw w K' 80 (lE.env a) (bc eC (lE.env a)) (Lc.cons "script" (.ref sc) .nil).get st (gU λv L=>∃sl,v=.ref sl/\L=[(sl,.list ((ys.map V.int).take 60))]):=by obtain⟨p1,p2,p3,p4,p5,p6,k2,hc⟩:∃p1 p2 p3 p4 p5 p6 k2,eC=.Call (.Name "list" p1) [.Subscript (.Name "script" p5) (.Slice ah (af (.Constant (.int (60:aa)) k2 p2)) ah p3) p4] [] p6:=⟨_,_,_,_,_,_,_,rfl⟩;have hx:PE lE (.Name "script" p5) 80 (Lc.cons "script" (.ref sc) .nil) [] (.ref sc):=PE.name rfl rfl rfl;rw[hc];refine UL hn rfl (by decide) kS.type (A1 (afd (vs:=ys.map V.int) ho zV wJ hv (by rw[aN];exact bF (bj hy (aL rfl))) ((WE.sT hK (hx X w a st Rp)).mono λu aQ y=>?_))) (hx:=(EF.oh (E:=lE) (x:="list") rfl a).1);obtain⟨L,R1,⟨rfl,rfl⟩⟩:=y;refine⟨rfl,λb hb=>JZ ?_⟩;have cv:CV 80 (.type "list") [.ref b] (λv L=>∃sl,v=.ref sl/\L=[(sl,aV.list ((ys.map V.int).take 60)),(b,.list ((ys.map V.int).take 60))]) [(b,.list ((ys.map V.int).take 60))]:=CV.Gw 0 (by rw[RA,aN];exact l1 0x10000007a073c2a01 (IF _ _)) λsl=>(aA sl rfl rfl);exactλA P s xs ao g F rx=>cC ((OV.sT hK (cv X w (lE.env a) (Lc.cons "script" (.ref sc) .nil).get _ (R1.new _ hb))) A P s xs ao g F rx) (λv' s' y=>by obtain⟨v,ak,h1,h2,L,R2,sl,rfl,rfl⟩:=y;exact⟨_,ak,h1,h2,[(sl,.list ((ys.map V.int).take 60))],R2.left (M:=[(b,.list ((ys.map V.int).take 60))]),sl,rfl,rfl⟩) λo o x=>x
def aff(hK:∀h,Gd K' h->Gd (KW w) h)(ho:K'.lookup sc=af ob)(zV:ob.cls=.type "list")(wJ:ob.data=.seq items n)(hv:∀h:cL,bB h (ys.map V.int) items.toList)(hn:hH K' fw "list"=af ah)(hy:ys.length<100)(a:Ar)(Rp:Rep st []):WE pw w K' 80 (lE.env a) (bc eL (lE.env a)) (Lc.cons "script" (.ref sc) .nil).get st (gU λv L=>∃fd sl,v=.ref fd/\L=cN fd sl 0 (ys.take 60)):=by have he:eL=.List (es eL) eL.pos:=rfl;have hb:kI eL.pos (kF (es eL) (lE.env a))=(aD,bc eC (lE.env a))::jQ (es eL).tail (lE.env a):=rfl;rw[he];refine J1 ?_;rw[hb];refine A1 ((afe hK ho zV wJ hv hn hy a Rp).mono λv aQ y=>?_);obtain⟨L,R1,sl,rfl,rfl⟩:=y;exactλA P s ao g F=>cC (WL.sT hK ((AV.p1 (PE.nat 0) ⟨rfl,rfl⟩:AV lE (es eL).tail 80 (λvs M=>vs=[nv 0]/\M=[(sl,aV.list ((ys.map V.int).take 60))]) (Lc.cons "script" (.ref sc) .nil) [(sl,.list ((ys.map V.int).take 60))]) X w a aQ R1) A P s ao g F) (λxs s' y=>by obtain⟨vs,bP,h1,h2,L2,R2,rfl,rfl⟩:=y;refine⟨_,bP,h1,h2,le_size (aL rfl),λfd hfd=>⟨_,R2.new _ hfd,fd,sl,rfl,?_⟩⟩;unfold cN;rw[List.map_take]) λu u x=>x
def afg(hK:∀h,Gd K' h->Gd (KW w) h)(ho:K'.lookup sc=af ob)(zV:ob.cls=.type "list")(wJ:ob.data=.seq items n)(hv:∀h:cL,bB h (ys.map V.int) items.toList)(hn:hH K' fw "list"=af ah)(hy:ys.length<100)(a:Ar)(Rp:Rep st [])(k:∀(fd sl:aa)(HW HP:HA),WS lE (b1 (sA 31)).tail 80 R N (.cons "script" (.ref sc) (.cons "part" (.ref HP.a) (.cons "whole" (.ref HW.a) (.cons "feed" (.ref fd) .nil)))) (aJ HP .none++(aJ HW .none++cN fd sl 0 (ys.take 60)))):WF pw w K' 80 (lE.env a) (mV (b1 (sA 31)) (lE.env a)) (Lc.cons "script" (.ref sc) .nil).get st (mB N) (gU R):=by
 have hb:b1 (sA 31)=pU::(b1 (sA 31)).tail:=rfl;rw[hb];refine JQ ?_;have hs:pU=.Assign [.Tuple (es (tg pU)) (kk (tg pU)) (tg pU).pos] eT (sp pU):=rfl;rw[hs];have hx:∀a,xF [.Tuple (es (tg pU)) (kk (tg pU)) (tg pU).pos] eT (lE.env a)=pure (af (["feed","whole","part"]:ag aI)):=λu=>rfl;refine LC ?_ (hx a) ((λu=>rfl) a) (f7.mpr λx hx=>(EF.qF (f7.mp rfl x hx) a).1);have he:eT=.Tuple (es eT) (kk eT) eT.pos:=rfl;have hb:kI eT.pos (kF (es eT) (lE.env a))=(aD,bc eL (lE.env a))::jQ (es eT).tail (lE.env a):=rfl;rw[he];refine J0 ?_;rw[hb];refine A1 ((aff hK ho zV wJ hv hn hy a Rp).mono λv aQ y=>?_);obtain⟨L,R1,fd,sl,rfl,rfl⟩:=y;have av:AV lE (es eT).tail 80 (λvs M=>∃HW HP:HA,vs=[.ref HW.a,.ref HP.a]/\M=aJ HP .none++(aJ HW .none++cN fd sl 0 (ys.take 60))) (Lc.cons "script" (.ref sc) .nil) (cN fd sl 0 (ys.take 60)):=by refine AV.cons (EV.fn (AV.p0 (CV.make λw dw=>Sp.frame (L:=[_,_]) NM λv L z=>?_)) Pu Pw);obtain⟨HW,rfl,rfl,rfl⟩:=z;refine⟨rfl,AV.cons (EV.fn (AV.p0 (CV.make λp dp=>Sp.frame (L:=[_,_]) NM λv L z=>?_)) Pu Pw)⟩;obtain⟨HP,rfl,rfl,rfl⟩:=z;exact⟨rfl,AV.nil (eK HW HP rfl rfl)⟩
 exactλA P s ao g F=>cC (WL.sT hK (av X w a aQ R1) A P s ao g F) (λxs s' y=>by obtain⟨vs,bP,h1,h2,L2,R2,HW,HP,rfl,rfl⟩:=y;refine⟨_,bP,h1,h2,le_size (aL rfl),_,rfl,rfl,?_⟩;have:=WF.sT hK (k fd sl HW HP X w a bP R2);exact Lc.uA (l:=Lc.cons "script" (.ref sc) .nil) ["part","whole","feed"] [.ref HP.a,.ref HW.a,.ref fd] _▸this) λu u x=>x
end
end
section
def afh{ys:ag bp}(hR:∀L,R (.bool ai) L)(hy:ys.length<100):WS lE (b1 (sA 31)).tail 80 R (λu M=>R .none M) (.cons "script" (.ref sc) (.cons "part" (.ref HP.a) (.cons "whole" (.ref HW.a) (.cons "feed" (.ref fd) .nil)))) (aJ HP .none++(aJ HW .none++cN fd sl 0 (ys.take 60))):=by
 have hx:(ys.take 60).length<100:=by rw[RA];exact l1 0x642a083c2a01 (IF _ _)
 refine WS.perm (M:=cN fd sl 0 (ys.take 60)++(aJ HW .none++aJ HP .none)) ?_ ?_;·classical exact gz.mpr λx=>by simp only[gB];exact l3 108064247961
 refine WS.cons (W1.set (EV.list (AV.cons (EV.fn (AV.p2 PE.name (PE.nat 2) (CV.call (PB 2 (fd:=fd) (sl:=sl) (spot:=0) (xs:=ys.take 60) (by decide) (by decide) hx) (.refl _) (λv L z=>?_))) zG zH))));obtain⟨t1,s1,h1,rfl,c1,rfl⟩:=z;have k2:cost 2=7:=rfl;have k1:cost 1=3:=rfl;refine AV.cons (EV.fn (AV.p2 PE.name (PE.nat 1) (CV.call (PB 1 (fd:=fd) (sl:=sl) (spot:=s1) (xs:=ys.take 60) (by decide) (l3 0x3843a20983b237b1310b901 c1 k2 k1) hx) (.refl _) (λv L z=>?_))) zG zH);obtain⟨t2,s2,h2,rfl,c2,rfl⟩:=z;refine AV.nil ⟨aL rfl,λte=>?_⟩;exact WS.cons (afa (te:=te) (sp:=s2) rfl rfl h1 h2 λfq g7 gW gP e1 e2 FW FP=>by exact e1▸e2▸(afc h1 h2 hx (l4 0x2bc3a38209313b237b1310b901 c1 k2 k1 c2) FW FP hR))
def KX(w:aZ)(sc:aa)(ob:cY):cJ:=KW w++[(sc,ob)]
def QR{a:aa}{K L:cJ}(h:K.lookup a=af o):(K++L).lookup a=af o:=by rw[Ro,h];rfl
def afi [X:Hid]{ys:ag bp}{st:aE}(ho:(KX w sc ob).lookup sc=af ob)(hc:ob.cls=.type "list")(hd:ob.data=.seq items n)(hv:∀h:cL,bB h (ys.map V.int) items.toList)(hy:ys.length<100)(Rp:Rep st []):Spec pw w (KX w sc ob) 81 672 [.ref sc] st (gU H4):=by have F:=ae9;obtain⟨k1,hk⟩:=bM.mp F.ok;obtain⟨k2,hk⟩:=bM.mp hk;obtain⟨k3,hk⟩:=bM.mp hk;obtain⟨k4,hk⟩:=bM.mp hk;obtain⟨k5,k6⟩:=bM.mp hk;refine kM (F.fd w.params) λh1 h2 h3 h4 h5=>?_;rw[←h2]at k1 k3 k4 k5 k6;refine J6 (QR (F.ob w.params)) h1 h3 h4 h5 (by kernel_rfl) (F.bd _) rfl (gD k2) k1 (gD k3) ((p7 _).mp k4) ((p7 _).mp k5) (eq_of_beq k6) λA cells q c=>?_;rw[h2,←Lc.of_get];exact(afg (R:=H4) (N:=λu M=>H4 .none M) (λh g=>⟨λa o e=>g.dM a o (QR e),g.top,g.lim⟩) ho hc hd hv (by kernel_rfl) hy ⟨A,cells,q,c,0⟩ Rp λfd sl HW HP=>afh (λL=>⟨rfl⟩) hy).mono (λl ak z=>by obtain⟨m,L',_,R',z⟩:=z;exact⟨L',R',z⟩) λu u z=>z
end
section
set_option tactic.hygienic true
set_option tactic.hygienic true
def afj [dq:Hid]{vs:ag aF}{ns:ag bp}(h:SM vs ns)(hp:cL):bB hp (ns.map V.int) vs:=by induction h with|nil=>exact .nil|cons n t _ ih=>exact .cons (.int n t) ih
def walk:WalkO qq ux (XL qq []) HH.says rr.toRowW dd [] λf vs=>ag9 f vs:=by
 intro w s₀ s₁ mg mb G Y fa o pm cd doc dV kV ho hd J7 hD QS hg args vals as afk afl hrd hwl jw;have KI:=kIn_of Y;refine Ground.open G ?_;intro T B D TE TW;wrow_args afk afl hrd hwl jw;refine enter_call ?_;rename_i ys b1 b2 b3 b4 b5 l4 l3 sc vs l0 hL ra w1 r0 hI hr0 hc1 hc2;have ef:fa=672:=by have:=mg_of KI T.g (show hH (KK w.params) fw "law"=af (af (.ref 672))by kernel_rfl);have e:mg dd.name=af (.ref 672):=this;rw[QS]at e;exact IE (bR e)
 clear QS;subst ef;refine bL hL λob e1 e2 bg=>dh bg λn e3=>?_;let X:Hid:=⟨λ_=>aD⟩;have lk:(KX w sc ob).lookup sc=af ob:=by unfold KX;rw[Ro];cases q:(KW w).lookup sc with|none=>exact afV|some o'=>have:=(KI sc o' q).symm.trans e1;rw[bR this];rfl
 have gk:∀a o',(KX w sc ob).lookup a=af o'->s₁.heap.get? a=af o':=λa o' e=>by
  unfold KX at e;rw[Ro]at e;cases q:(KW w).lookup a with
   |some o2=>rw[q]at e;exact bR e▸KI a o2 q|none=>
    rw[q]at e;have e:=e;dsimp only[lj]at e;split at e;·next z=>exact(beq_iff_eq.mp z).symm▸(bR e)▸e1
    ·exact by contradiction
 have gd:Gd (KX w sc ob) s₁.heap:=⟨gk,(bZ mg mb T.g T.b T.builtins),T.nolimit⟩;have sp:=afi (w:=w) (sc:=sc) (n:=n) (ob:=ob) (items:=vs.toArray) (ys:=ys) (st:=λ_=>ah) lk e2 e3 (λh=>by exact afj hI h) (by lia) ⟨.nil,λ_ h=>(by contradiction)⟩;refine xH (sp callerA ⟨s₁.heap,s₁.os,s₁.gens⟩ s₁ [.ref sc] ⟨rfl,by decide,by decide⟩ gd ⟨λ_ _ e=>e,λ_ _ e=>(nomatch e),λ_ _ e=>(nomatch e),rfl,rfl,λ_ _ e=>(nomatch e),(eK 672 o (by decide) ho),λ_ e=>(rA e)⟩ (.cons (.ref _) .nil)) λres s' z=>?_;obtain⟨x,v,ak,rfl,rv,S,L,R,⟨rfl⟩⟩:=z;obtain rfl:x=.bool ai:=rv;refine(ip (.inl (AK _ _ _ rfl (raisesW_false (by wrow_none_raised)) (.bool ai) (postW_of (by wrow_shape) (by wtm_val) (by str_meet;first|done|w_fin)) unshared_nil)) (.of_keep S.keep) S.os ?_);exact .of_eq (S.gens.trans hg)
end
end
end Mine
theorem PySem.Challenge.cw_pq0129_01_holds : PySem.Challenge.rw_pq0129_01.Holds :=
 Mine.wJ Mine.walk
