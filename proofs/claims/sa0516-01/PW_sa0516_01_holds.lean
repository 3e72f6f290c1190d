import PyProof.Rows.All
import Wide.All
import OpenK.AllK
import Wide.FinOn
import PySem.Challenge.RW_sa0516_01
set_option maxRecDepth 100000
set_option linter.unusedVariables false
set_option maxHeartbeats 8000000
set_option linter.unusedSectionVars false
set_option Elab.async false
set_option tactic.hygienic false
set_option bootstrap.genMatcherCode false
set_option compiler.extract_closed false
set_option genSizeOf false
set_option genInjectivity false
open Array renaming length_toList->aF,getElem?_toList->di,getElem?_eq_none->i9,any_toList->jG,getElem?_eq_some_iff->kS,toList_append->qm,isEmpty_iff_size_eq_zero->tU,getElem?_eq_getElem->xM,empty_append->FU,size_append->HT,isEmpty->NF
open Bool renaming true->ai,false->ak,and_eq_true->aO,and_eq_true_iff->cX,or_eq_false_iff->fp,or_eq_true->iJ,noConfusion->jR,not_not->nQ,or_false->qR,false_eq_true->rW,or_true->tm,eq_iff_iff->wT,false_or->AR,false_ne_true->HS,not_eq_true'->Ik,true_and->Ov
open Classical renaming epsilon_spec->aF',epsilon->aG',byContradiction->aH'
open Eq renaming symm->Lj
open Exists renaming elim->an
open ForInStep renaming yield->Ew
open Function renaming comp->ey
open Iff renaming rfl->CZ
open Int renaming le_trans->ba,natCast_nonneg->cb,ofNat_lt->d7,add_le_add_right->ef,lt_of_lt_of_le->eQ,le_of_eq->ft,lt_of_le_of_lt->ga,ofNat_le->gY,ne_of_lt->kR,toNat_natCast->mD,le_refl->mE,add_assoc->mL,not_lt->nZ,natCast_pos->pb,negSucc_lt_zero->qQ,not_le->r9,le_of_lt->tS,natCast_sub->w6,natCast_add->w7,add_zero->CY,max_eq_right->Lf,fdiv_nonneg->NE,ofNat_inj->Rs,ne_of_gt->RT,add_comm->RU
open LawfulBEq renaming eq_of_beq->RJ
open List renaming length_map->af,mem_cons->ao,mem_singleton->ap,map_cons->au,nodup_cons->av,mem_map_of_mem->ax,mem_map->az,map_append->aA,mem_append->aJ,mem_append_right->aK,length_append->aS,all_eq_true->aU,find?_cons->bh,getElem?_map->bj,mem_cons_self->bo,take_of_length_le->bt,nodup_append->bC,mem_append_left->bF,map_nil->bI,map_congr_left->bM,length_singleton->bQ,append_nil->bR,map_map->bS,not_mem_nil->cf,take_add_one->ci,mem_filterMap->cm,getElem?_eq_some_iff->cq,mem_of_getElem?->cF,length_cons->cK,getElem?_eq_getElem->cM,perm_append_comm_assoc->cP,contains_cons->dt,any_eq_true->dA,any_cons->dF,range->dH,length_range->dI,length_filter_le->dW,contains_iff_mem->dX,lookup_cons->d1,filter_cons->d4,replicate->d8,length_reverse->eC,drop_of_length_le->eI,any_map->fm,filterMap_cons->fM,length_eq_zero_iff->fO,of_mem_zip->ge,append_assoc->gu,perm_middle->gS,getElem?_eq_none_iff->gX,filterMap_cons_some->iB,mem_filter->iI,pairwise_cons->iM,map_fst_zip->jQ,toList_toArray->kC,map->kU,getD_eq_getElem?_getD->kW,find?_eq_none->kX,size_toArray->lO,map_id->lP,foldl_append->lQ,map_reverse->m9,zip->pW,length_take_le->qN,flatten_append->qO,filter_append->rT,Nodup->rU,pairwise_map->td,find?_append->te,nodup_nil->xI,mem_range->xJ,getElem?_append_right->xK,mem_of_find?_eq_some->yQ,drop_eq_getElem_cons->yR,reverse_eq_nil_iff->AY,pairwise_mergeSort->AZ,pairwise_reverse->CV,getElem?_eq_none->CW,filterMap_append->CX,reverse_reverse->Er,pairwise_filter->Es,mem_of_mem_drop->Et,mem_cons_of_mem->Eu,lookup->Ev,replicate_succ->FP,mergeSort_perm->FQ,length_pos_iff->FR,getElem?_range->FS,flatMap_append->FT,zip_cons_cons->HO,prefix_append->HP,reverse_cons->Ie,flatten_cons->Ig,flatMap_cons->Ih,any_eq_false->Ii,mem_reverse->KJ,flatMap_nil->KL,cons_append->KM,range_succ->Lb,foldl_cons->Ld,find?_some->Le,forIn_nil->NC,filterMap->ND,length->RQ,foldl->Wn,Perm->Xa
open List.Pairwise renaming imp_of_mem->RS
open List.Perm renaming cons->aB'
open List.Sublist renaming refl->Wo,map->Wp,append->Wq
open List.cons renaming inj->HQ
open Nat renaming le_trans->ae,le_of_ble_eq_true->aj,le_refl->aI,zero_le->a7,add_le_add_left->bn,not_lt->bu,le_of_eq->bv,lt_of_le_of_lt->bJ,ne_of_lt->bP,add_le_add->bX,succ_le_succ->b6,le_of_not_lt->b7,le_of_lt->b8,le_add_right->cg,le_succ->cD,lt_succ_self->c9,lt_of_lt_of_le->du,mul_le_mul_left->dO,lt_of_succ_lt_succ->f8,add_right_comm->f9,lt_succ_of_lt->gG,ne_of_gt->gU,lt_trans->gV,ble->gW,not_lt_zero->iL,succ_pos->jj,max_le->lD,le_succ_of_le->mA,le_of_succ_le->mB,lt_irrefl->mK,ne_of_beq_eq_false->nY,le_of_lt_succ->tQ,beq->tR,le_antisymm->w4,eq_of_beq_eq_true->Ep,add_le_add_right->FN,add_sub_cancel->Ic,lt_succ_of_le->KI,succ_ne_self->K8,min_eq_right->K9,min_eq_left->NA,add_assoc->Rq,le_total->RO,add_comm->RP
open Nat.succ renaming inj->j3
open Ne renaming symm->o9
open Option renaming some->ac,none->aq,map_eq_some_iff->aD,toList_some->ct,isSome_iff_exists->cu,bind_eq_some_iff->cC,getD_some->eH,map_some->ie,bind_some->tb,map_eq_none_iff->AQ,map->Eo,isSome_map->FM,none->Os
open Option.some renaming inj->aB,injEq->W9
open Prod renaming ext->En
open Prod.mk renaming inj->jF,injEq->w1
open PyProof.Rows renaming subscriptTail->i7,sortedHeap->uB,seqObj->yF,Assign_Tuple_swapped->Ll,entry_list_sort->V8,tail_any->WT,slot_list_sort->WU,args_list_sort->W7
open PySem renaming wpAny_bind->ah,Shared->ay,Value->aE,wpAny_pure->aH,wpAny_mono->aQ,Str->aV,Addr->aW,eval->a9,wpAny->bd,model->bf,compareOp->bi,starEach->br,wpAny_holding->bG,Expr->bZ,mainGlobals->ce,backTo->cy,wpAny_standAt->cG,importedModules->cN,cellsFrom->cQ,wpAny_bindName->c8,wpAny_newObj_type->dm,spliced->dB,codeAny_mono->dR,builtinsNs->d9,wpAny_loadPart_at->eE,execs->eG,rawInt->fb,exec->fc,callEnvC->fe,PyData->fz,sliceBounds->fH,codeAny->fJ,binaryOp->fK,sysModules->fQ,Around->fR,wpAny_unpackItems_tuple->fY,sizeLine->fZ,World->f6,compEnvC->gH,swapsWith->gO,Program->gR,Builtin->gT,wpAny_of_eq->hO,excClassObj->hX,treeTable->iH,typeOf->iN,bindArgs->i8,wpAny_execs_nil->ja,codeAny_builtin->jb,allTrue->jc,Heap->jl,keywordEach->jx,getMethod->jy,foldedSetIterable->jV,Stmt->jW,plainObj_wpAny_Assign_Attribute->j7,wpAny_call_entry->kz,wpAny_call->kA,wpAny_isSubtype_exc->lL,seqIndex?->mz,DictEntry->mF,callEnv->nN,swapsWithSole->nS,swappedStores->nT,plainId_quiet->nU,behindInMarks->nX,backToKw->pM,wpAny_rule->qi,call_meetsIn->qj,call_meets->qk,Reads->qM,wpAny_field->rX,unpackItems->rY,subscripted->rZ,refuseLoop_ref->r0,firstArgMember->r6,callWith->r7,standAt->sZ,pairTrees->s8,evalPairs->s9,wpAny_evalPart_some->tN,wpAny_evalPart_none->tO,sliceRange->uC,Obj->uD,wpAny_typeOf->wX,wpAny_pyIter_list->wY,notedBy->wZ,getAttr?->w0,OsState->w2,FuncData->w8,ExcBaseFacts->w9,BindsTo->xa,Pos->xH,opaqueClassAbove->yG,noFill_tuple_add->yH,arm_assign_Tuple->yJ,Result->yL,frameOf->yM,wpAny_typeNameOfWhole_keyiter->AK,sizeLine_eq->AL,importBound->AM,wpAny_updateSeq->AW,valueAt->CF,wpAny_setField->CM,wpAny_runValue->CN,wpAny_loadPart->CO,pyNext->CP,ReadsAll->CT,wpAt_of_wpAny->Em,wpAny_typeNameOf_keyiter->FF,wpAny_onRaise->FG,wpAny_comprehension_free->FH,wpAny_attempt->FI,seq_tuple_add->FJ,attributeBase->FK,wpAny_callSpecial?_slot->HJ,slicePick->HK,setFlight->HL,Sem->HN,wpAny_pyNext_list_item->HW,wpAny_pyNext_dict_item->HX,operate->HZ,newList->H0,intKind->H5,getItem->H7,entryPlaceOf->H8,concat_meets->H9,bootBuiltins->Ia,builtinLookup_eq_fast->KG,wpAt_bind->KH,wpAny_storeName_cell->KU,wpAny_pyIter_revIter->KW,wpAny_pyIter_keyiter->KY,wpAny_newFunctionEnv->KZ,unsupported->K0,setField->K1,meets_dict_pop_there->K3,codeAny_call_builtin->K5,cLine->K6,bm_if_false->K7,merged_nil_of_nodup->Ny,wpAny_load->Od,wpAny_Name->Oe,typeLookup->Of,slot_listiter_next->Og,refuseLoop->Oh,isType->Ol,isInstance->Om,getattributeRaised->On,codeAny_call_cells->Oo,closureFor->Op,Env->Ou,wpAny_pyIter_dict->Rf,wpAny_Assign_Name->Rg,slot_list_getitem->Ri,getMethod_builtin->Rl,classAt->Rn,Scope->Ro,ItemsOf->Rr,wpAny_isInstance->Rz,wpAny_execs_cons->RB,wpAny_Try_except->RC,wpAny_Dict_empty->RD,updateSeq->RE,noteFrame->RG,isinstance_outer->RH,getAttrBy->RI,entryFor_of_tree->RK,codeAny_call_def->RL,checkBuiltinCall->RM,call->RN,Arguments->RW,wpAny_looks_onW->VW,wpAny_Dict_walk->VX,typeLookup_type->VY,letOwnedTupleGo->VZ,wpAny_seqItems->WS,preSum->WV,newTuple->WW,newExc->WX,letTemporaryGo->WY,isSubtype_stop->W0,entryFor->W5,behindIsImport->W6,IntMulOk->Xb,wpAny_newList->ZT,wpAny_UnaryOp->ZU,methodCallPos->ZV
open PySem.Around renaming frames_deeper->e9,under_plainId->jS
open PySem.AutoListH renaming list___mul___list_int_3->aI'
open PySem.BindsTo renaming of_defaults->CH
open PySem.Builtin.Dict renaming updateFrom->tT,selfAndRest->Wt,pairItems->Wu
open PySem.Builtin.Dict_items renaming ownsTuple->KQ
open PySem.Builtin.Int renaming intBits->Xe
open PySem.Builtin.List renaming listExtendWith->jz,listFitsIndex->rV,listTooLong->ti,listSameRef->tj
open PySem.Builtin.ObjectAttr renaming storeTaker?->KN,storeInOwnDict->KO,storeInDict->KP
open PySem.Builtin.Range renaming rangeSize->th,small->wS,rangeFitsLong->RV
open PySem.Builtin.Tuple renaming tupleExact->sb
open PySem.Calls renaming call_function_entry->xL,Name_function_global->La,loadGlobal_builtin->Oj,loadGlobal_global->Rj
open PySem.Challenge renaming rw_sa0516_01->ck,pw_sa0516_01->Oq
open PySem.Code renaming builtin->tf,quiet_builtin->HR
open PySem.DictEntry renaming refKey->aE'
open PySem.EntryCells renaming newEntry->nP
open PySem.ExcName renaming means->pX
open PySem.F renaming slot_list_getattribute->ji,args_tuple_add_2->lB,entry_tuple_add->lN,slot_tuple_add->mH,entry_dict_pop->mJ,slot_dict_pop->nK,slot_dict_keyiterator_next->ql,plain_extend_loop->wN,excBase_Exception->wO,store_Exception->xE,plain_list_iadd->xF,args_dict_pop_3->xG,entry_dict_get->yN,slot_int_rmul->AN,slot_dict_get->AO,args_object_init_2->Ij,type_list_extend->Lg,slot_list_extend->Lh,type_dict_pop->Rt,slot_dict_pop->Ru
open PySem.Heap renaming get?_push_size->aN,lt_size->aR,get?_push_of_some->aX,dictOf_iff->bc,size_push->bV,get?_update_self->cp,get?_update_other->jd,ExtBut->lR,size_update->ng,SameBut->nO,update->uE
open PySem.Heap.DictOf renaming new->jk
open PySem.Heap.SameBut renaming update->cW,refl->Ws
open PySem.Manifest renaming isStub->FO
open PySem.MeetsSeq renaming list_pop_last->Rp
open PySem.Moved renaming eq_with->NB
open PySem.NameKind renaming free->wR,globalImplicit->w5
open PySem.Obj renaming data_mapFields->lC,isFreed_of_fields->pO,isFreed_of_seq->r8,data_mapSeq->w3,mapSeq->yO,cls_mapSeq->yP,mapFields->AX,putName->Wm
open PySem.PyData renaming eqv->a8,eqvAll->f7,int->iA,canLayAll0->i6,depthAll->j0,keyHash->wP,canLay0->wQ,depth->AP
open PySem.Sem renaming wp->CS,wp_mono->FL
open PySem.SeqAt renaming shaped->a6,canLay_of_shaped->nI,EqAt->nJ
open PySem.SeqAt.EqAt renaming same->CR,str_str->ZX,of_refs->ZY,int_int->ZZ
open PySem.SeqAt.RcAt renaming tuples->ZW
open PySem.SeqAt.RcNeAt renaming tuples->V9,lists_lengths->Wa,lists->Wb
open PySem.SeqAt.Reads renaming unique->yK
open PySem.Spec renaming ltCps->Z8
open PySem.Str renaming ofString->aa
open PySem.Value renaming ref->cs,type->cV,none->dn,isStrOf_shape->kn,isStr->pN,str->tP,isInt_shape->HM,isStrOf->Nz
open PySem.W renaming instObj->cn,behindTheImports->dE,dictOf->jh,looks_findIn->jU,findIn->kB,openSeen->kQ,Looks->lM,codeIn->nW,plainGet_of->r4,handedIn->r5,emptyDict->yI,topStub->CG,codeRec_of->CQ,typeIn->HY,hideAll_none->H6,plainGet->K2,looks_clsIn->K4,namesBound->Oi,Frag->Ot,subIn->Rh,hideAll->Rk,clsIn->Rm,staticsOk->RF,laidKept->WZ,gensDone->W4,any_some->W8,GoodWG->Xc,CodeHd->Xd
open PySem.W.Fast renaming tw14364793385576792824->gF,tw9446332074065402090->Wc,tw15667345088766844465->Wd,tw14082659384304107361->We,tw10110043849684766642->Wf,te9446332074065402090->Wg,te15667345088766844465->Wh,te14364793385576792824->Wi,te14082659384304107361->Wj,te10110043849684766642->Wl
open PySem.W.Looks renaming of_pure->ig,ld->CU
open PySem.W.OpenLaw renaming row->tc
open PySem.W.WData renaming int->Ib
open PySem.W.WShape renaming hasItems->um
open PySem PySem.W PySem.Calls PyProof.Rows
namespace Mine
theorem aZ{P1 P2 C:Prop}(h:P1/\P2)(k:P1->P2->C):C:=k h.1 h.2
theorem aY{α1:Type}{P1:α1->Prop}{C:Prop}(h:∃x1,(P1 x1))(k:∀x1,(P1 x1)->C):C:=an h fun x1 h1=>k x1 h1
theorem jM{P1 P2 P3 C:Prop}(h:P1/\P2/\P3)(k:P1->P2->P3->C):C:=k h.1 h.2.1 h.2.2
theorem Fj{α1:Type}{P1:Prop}{P2:α1->Prop}{C:Prop}(h:P1/\∃x1,(P2 x1))(k:P1->∀x1,(P2 x1)->C):C:=an h.2 fun x1 h1=>k h.1 x1 h1
theorem ar{α1:Type}{P1 P2:α1->Prop}{C:Prop}(h:∃x1,(P1 x1)/\(P2 x1))(k:∀x1,(P1 x1)->(P2 x1)->C):C:=an h fun x1 h1=>k x1 h1.1 h1.2
theorem g7{α1 α2:Type}{P1:α1->α2->Prop}{C:Prop}(h:∃x1,∃x2,(P1 x1 x2))(k:∀x1,∀x2,(P1 x1 x2)->C):C:=an h fun x1 h1=>an h1 fun x2 h2=>k x1 x2 h2
theorem jY{P1 P2 P3 P4 C:Prop}(h:P1/\P2/\P3/\P4)(k:P1->P2->P3->P4->C):C:=k h.1 h.2.1 h.2.2.1 h.2.2.2
theorem sS{α1:Type}{P1:Prop}{P2 P3:α1->Prop}{C:Prop}(h:P1/\∃x1,(P2 x1)/\(P3 x1))(k:P1->∀x1,(P2 x1)->(P3 x1)->C):C:=an h.2 fun x1 h1=>k h.1 x1 h1.1 h1.2
theorem As{α1 α2:Type}{P1:Prop}{P2:α1->α2->Prop}{C:Prop}(h:P1/\∃x1,∃x2,(P2 x1 x2))(k:P1->∀x1,∀x2,(P2 x1 x2)->C):C:=an h.2 fun x1 h1=>an h1 fun x2 h2=>k h.1 x1 x2 h2
theorem bp{α1:Type}{P1 P2 P3:α1->Prop}{C:Prop}(h:∃x1,(P1 x1)/\(P2 x1)/\(P3 x1))(k:∀x1,(P1 x1)->(P2 x1)->(P3 x1)->C):C:=an h fun x1 h1=>k x1 h1.1 h1.2.1 h1.2.2
theorem wu{α1 α2:Type}{P1:α1->Prop}{P2:α1->α2->Prop}{C:Prop}(h:∃x1,(P1 x1)/\∃x2,(P2 x1 x2))(k:∀x1,(P1 x1)->∀x2,(P2 x1 x2)->C):C:=an h fun x1 h1=>an h1.2 fun x2 h2=>k x1 h1.1 x2 h2
theorem cY{α1 α2:Type}{P1 P2:α1->α2->Prop}{C:Prop}(h:∃x1,∃x2,(P1 x1 x2)/\(P2 x1 x2))(k:∀x1,∀x2,(P1 x1 x2)->(P2 x1 x2)->C):C:=an h fun x1 h1=>an h1 fun x2 h2=>k x1 x2 h2.1 h2.2
theorem sR{α1 α2 α3:Type}{P1:α1->α2->α3->Prop}{C:Prop}(h:∃x1,∃x2,∃x3,(P1 x1 x2 x3))(k:∀x1,∀x2,∀x3,(P1 x1 x2 x3)->C):C:=an h fun x1 h1=>an h1 fun x2 h2=>an h2 fun x3 h3=>k x1 x2 x3 h3
theorem rH{P1 P2 P3 P4 P5 C:Prop}(h:P1/\P2/\P3/\P4/\P5)(k:P1->P2->P3->P4->P5->C):C:=k h.1 h.2.1 h.2.2.1 h.2.2.2.1 h.2.2.2.2
theorem Au{α1:Type}{P1 P2:Prop}{P3 P4:α1->Prop}{C:Prop}(h:P1/\P2/\∃x1,(P3 x1)/\(P4 x1))(k:P1->P2->∀x1,(P3 x1)->(P4 x1)->C):C:=an h.2.2 fun x1 h1=>k h.1 h.2.1 x1 h1.1 h1.2
theorem Fi{α1:Type}{P1:Prop}{P2 P3 P4:α1->Prop}{C:Prop}(h:P1/\∃x1,(P2 x1)/\(P3 x1)/\(P4 x1))(k:P1->∀x1,(P2 x1)->(P3 x1)->(P4 x1)->C):C:=an h.2 fun x1 h1=>k h.1 x1 h1.1 h1.2.1 h1.2.2
theorem Fh{α1 α2:Type}{P1:Prop}{P2 P3:α1->α2->Prop}{C:Prop}(h:P1/\∃x1,∃x2,(P2 x1 x2)/\(P3 x1 x2))(k:P1->∀x1,∀x2,(P2 x1 x2)->(P3 x1 x2)->C):C:=an h.2 fun x1 h1=>an h1 fun x2 h2=>k h.1 x1 x2 h2.1 h2.2
theorem jE{α1:Type}{P1 P2 P3 P4:α1->Prop}{C:Prop}(h:∃x1,(P1 x1)/\(P2 x1)/\(P3 x1)/\(P4 x1))(k:∀x1,(P1 x1)->(P2 x1)->(P3 x1)->(P4 x1)->C):C:=an h fun x1 h1=>k x1 h1.1 h1.2.1 h1.2.2.1 h1.2.2.2
theorem Fg{α1 α2:Type}{P1 P2:α1->Prop}{P3:α1->α2->Prop}{C:Prop}(h:∃x1,(P1 x1)/\(P2 x1)/\∃x2,(P3 x1 x2))(k:∀x1,(P1 x1)->(P2 x1)->∀x2,(P3 x1 x2)->C):C:=an h fun x1 h1=>an h1.2.2 fun x2 h2=>k x1 h1.1 h1.2.1 x2 h2
theorem Ar{α1 α2:Type}{P1:α1->Prop}{P2 P3:α1->α2->Prop}{C:Prop}(h:∃x1,(P1 x1)/\∃x2,(P2 x1 x2)/\(P3 x1 x2))(k:∀x1,(P1 x1)->∀x2,(P2 x1 x2)->(P3 x1 x2)->C):C:=an h fun x1 h1=>an h1.2 fun x2 h2=>k x1 h1.1 x2 h2.1 h2.2
theorem M0{α1 α2 α3:Type}{P1:α1->Prop}{P2:α1->α2->α3->Prop}{C:Prop}(h:∃x1,(P1 x1)/\∃x2,∃x3,(P2 x1 x2 x3))(k:∀x1,(P1 x1)->∀x2,∀x3,(P2 x1 x2 x3)->C):C:=an h fun x1 h1=>an h1.2 fun x2 h2=>an h2 fun x3 h3=>k x1 h1.1 x2 x3 h3
theorem aM{α1 α2:Type}{P1 P2 P3:α1->α2->Prop}{C:Prop}(h:∃x1,∃x2,(P1 x1 x2)/\(P2 x1 x2)/\(P3 x1 x2))(k:∀x1,∀x2,(P1 x1 x2)->(P2 x1 x2)->(P3 x1 x2)->C):C:=an h fun x1 h1=>an h1 fun x2 h2=>k x1 x2 h2.1 h2.2.1 h2.2.2
theorem fx{α1 α2 α3:Type}{P1 P2:α1->α2->α3->Prop}{C:Prop}(h:∃x1,∃x2,∃x3,(P1 x1 x2 x3)/\(P2 x1 x2 x3))(k:∀x1,∀x2,∀x3,(P1 x1 x2 x3)->(P2 x1 x2 x3)->C):C:=an h fun x1 h1=>an h1 fun x2 h2=>an h2 fun x3 h3=>k x1 x2 x3 h3.1 h3.2
theorem ux{α1 α2 α3 α4:Type}{P1:α1->α2->α3->α4->Prop}{C:Prop}(h:∃x1,∃x2,∃x3,∃x4,(P1 x1 x2 x3 x4))(k:∀x1,∀x2,∀x3,∀x4,(P1 x1 x2 x3 x4)->C):C:=an h fun x1 h1=>an h1 fun x2 h2=>an h2 fun x3 h3=>an h3 fun x4 h4=>k x1 x2 x3 x4 h4
theorem iZ{P1 P2 P3 P4 P5 P6 C:Prop}(h:P1/\P2/\P3/\P4/\P5/\P6)(k:P1->P2->P3->P4->P5->P6->C):C:=k h.1 h.2.1 h.2.2.1 h.2.2.2.1 h.2.2.2.2.1 h.2.2.2.2.2
theorem oS{α1:Type}{P1 P2 P3 P4:Prop}{P5:α1->Prop}{C:Prop}(h:P1/\P2/\P3/\P4/\∃x1,(P5 x1))(k:P1->P2->P3->P4->∀x1,(P5 x1)->C):C:=an h.2.2.2.2 fun x1 h1=>k h.1 h.2.1 h.2.2.1 h.2.2.2.1 x1 h1
theorem J7{α1 α2:Type}{P1 P2 P3:Prop}{P4:α1->α2->Prop}{C:Prop}(h:P1/\P2/\P3/\∃x1,∃x2,(P4 x1 x2))(k:P1->P2->P3->∀x1,∀x2,(P4 x1 x2)->C):C:=an h.2.2.2 fun x1 h1=>an h1 fun x2 h2=>k h.1 h.2.1 h.2.2.1 x1 x2 h2
theorem J6{α1 α2:Type}{P1 P2:Prop}{P3 P4:α1->α2->Prop}{C:Prop}(h:P1/\P2/\∃x1,∃x2,(P3 x1 x2)/\(P4 x1 x2))(k:P1->P2->∀x1,∀x2,(P3 x1 x2)->(P4 x1 x2)->C):C:=an h.2.2 fun x1 h1=>an h1 fun x2 h2=>k h.1 h.2.1 x1 x2 h2.1 h2.2
theorem J5{α1 α2:Type}{P1:Prop}{P2 P3 P4:α1->α2->Prop}{C:Prop}(h:P1/\∃x1,∃x2,(P2 x1 x2)/\(P3 x1 x2)/\(P4 x1 x2))(k:P1->∀x1,∀x2,(P2 x1 x2)->(P3 x1 x2)->(P4 x1 x2)->C):C:=an h.2 fun x1 h1=>an h1 fun x2 h2=>k h.1 x1 x2 h2.1 h2.2.1 h2.2.2
theorem J4{α1 α2 α3:Type}{P1:Prop}{P2 P3:α1->α2->α3->Prop}{C:Prop}(h:P1/\∃x1,∃x2,∃x3,(P2 x1 x2 x3)/\(P3 x1 x2 x3))(k:P1->∀x1,∀x2,∀x3,(P2 x1 x2 x3)->(P3 x1 x2 x3)->C):C:=an h.2 fun x1 h1=>an h1 fun x2 h2=>an h2 fun x3 h3=>k h.1 x1 x2 x3 h3.1 h3.2
theorem J3{α1 α2 α3 α4:Type}{P1:Prop}{P2:α1->α2->α3->α4->Prop}{C:Prop}(h:P1/\∃x1,∃x2,∃x3,∃x4,(P2 x1 x2 x3 x4))(k:P1->∀x1,∀x2,∀x3,∀x4,(P2 x1 x2 x3 x4)->C):C:=an h.2 fun x1 h1=>an h1 fun x2 h2=>an h2 fun x3 h3=>an h3 fun x4 h4=>k h.1 x1 x2 x3 x4 h4
theorem J2{α1:Type}{P1 P2 P3 P4 P5:α1->Prop}{C:Prop}(h:∃x1,(P1 x1)/\(P2 x1)/\(P3 x1)/\(P4 x1)/\(P5 x1))(k:∀x1,(P1 x1)->(P2 x1)->(P3 x1)->(P4 x1)->(P5 x1)->C):C:=an h fun x1 h1=>k x1 h1.1 h1.2.1 h1.2.2.1 h1.2.2.2.1 h1.2.2.2.2
theorem mq{α1 α2 α3:Type}{P1 P2:α1->Prop}{P3:α1->α2->α3->Prop}{C:Prop}(h:∃x1,(P1 x1)/\(P2 x1)/\∃x2,∃x3,(P3 x1 x2 x3))(k:∀x1,(P1 x1)->(P2 x1)->∀x2,∀x3,(P3 x1 x2 x3)->C):C:=an h fun x1 h1=>an h1.2.2 fun x2 h2=>an h2 fun x3 h3=>k x1 h1.1 h1.2.1 x2 x3 h3
theorem wt{α1 α2:Type}{P1:α1->Prop}{P2 P3 P4:α1->α2->Prop}{C:Prop}(h:∃x1,(P1 x1)/\∃x2,(P2 x1 x2)/\(P3 x1 x2)/\(P4 x1 x2))(k:∀x1,(P1 x1)->∀x2,(P2 x1 x2)->(P3 x1 x2)->(P4 x1 x2)->C):C:=an h fun x1 h1=>an h1.2 fun x2 h2=>k x1 h1.1 x2 h2.1 h2.2.1 h2.2.2
theorem wq{α1 α2 α3 α4:Type}{P1:α1->Prop}{P2:α1->α2->α3->α4->Prop}{C:Prop}(h:∃x1,(P1 x1)/\∃x2,∃x3,∃x4,(P2 x1 x2 x3 x4))(k:∀x1,(P1 x1)->∀x2,∀x3,∀x4,(P2 x1 x2 x3 x4)->C):C:=an h fun x1 h1=>an h1.2 fun x2 h2=>an h2 fun x3 h3=>an h3 fun x4 h4=>k x1 h1.1 x2 x3 x4 h4
theorem bB{α1 α2:Type}{P1 P2 P3 P4:α1->α2->Prop}{C:Prop}(h:∃x1,∃x2,(P1 x1 x2)/\(P2 x1 x2)/\(P3 x1 x2)/\(P4 x1 x2))(k:∀x1,∀x2,(P1 x1 x2)->(P2 x1 x2)->(P3 x1 x2)->(P4 x1 x2)->C):C:=an h fun x1 h1=>an h1 fun x2 h2=>k x1 x2 h2.1 h2.2.1 h2.2.2.1 h2.2.2.2
theorem bl{α1 α2 α3:Type}{P1 P2 P3:α1->α2->α3->Prop}{C:Prop}(h:∃x1,∃x2,∃x3,(P1 x1 x2 x3)/\(P2 x1 x2 x3)/\(P3 x1 x2 x3))(k:∀x1,∀x2,∀x3,(P1 x1 x2 x3)->(P2 x1 x2 x3)->(P3 x1 x2 x3)->C):C:=an h fun x1 h1=>an h1 fun x2 h2=>an h2 fun x3 h3=>k x1 x2 x3 h3.1 h3.2.1 h3.2.2
theorem d5{α1 α2 α3 α4:Type}{P1 P2:α1->α2->α3->α4->Prop}{C:Prop}(h:∃x1,∃x2,∃x3,∃x4,(P1 x1 x2 x3 x4)/\(P2 x1 x2 x3 x4))(k:∀x1,∀x2,∀x3,∀x4,(P1 x1 x2 x3 x4)->(P2 x1 x2 x3 x4)->C):C:=an h fun x1 h1=>an h1 fun x2 h2=>an h2 fun x3 h3=>an h3 fun x4 h4=>k x1 x2 x3 x4 h4.1 h4.2
theorem eu{α1 α2 α3 α4 α5:Type}{P1:α1->α2->α3->α4->α5->Prop}{C:Prop}(h:∃x1,∃x2,∃x3,∃x4,∃x5,(P1 x1 x2 x3 x4 x5))(k:∀x1,∀x2,∀x3,∀x4,∀x5,(P1 x1 x2 x3 x4 x5)->C):C:=an h fun x1 h1=>an h1 fun x2 h2=>an h2 fun x3 h3=>an h3 fun x4 h4=>an h4 fun x5 h5=>k x1 x2 x3 x4 x5 h5
theorem Hp{α1 α2:Type}{P1 P2 P3:Prop}{P4 P5:α1->α2->Prop}{C:Prop}(h:P1/\P2/\P3/\∃x1,∃x2,(P4 x1 x2)/\(P5 x1 x2))(k:P1->P2->P3->∀x1,∀x2,(P4 x1 x2)->(P5 x1 x2)->C):C:=an h.2.2.2 fun x1 h1=>an h1 fun x2 h2=>k h.1 h.2.1 h.2.2.1 x1 x2 h2.1 h2.2
theorem sT{α1 α2:Type}{P1 P2:Prop}{P3 P4 P5:α1->α2->Prop}{C:Prop}(h:P1/\P2/\∃x1,∃x2,(P3 x1 x2)/\(P4 x1 x2)/\(P5 x1 x2))(k:P1->P2->∀x1,∀x2,(P3 x1 x2)->(P4 x1 x2)->(P5 x1 x2)->C):C:=an h.2.2 fun x1 h1=>an h1 fun x2 h2=>k h.1 h.2.1 x1 x2 h2.1 h2.2.1 h2.2.2
theorem Ho{α1 α2:Type}{P1:Prop}{P2 P3 P4 P5:α1->α2->Prop}{C:Prop}(h:P1/\∃x1,∃x2,(P2 x1 x2)/\(P3 x1 x2)/\(P4 x1 x2)/\(P5 x1 x2))(k:P1->∀x1,∀x2,(P2 x1 x2)->(P3 x1 x2)->(P4 x1 x2)->(P5 x1 x2)->C):C:=an h.2 fun x1 h1=>an h1 fun x2 h2=>k h.1 x1 x2 h2.1 h2.2.1 h2.2.2.1 h2.2.2.2
theorem pI{α1 α2:Type}{P1 P2 P3 P4 P5:α1->α2->Prop}{C:Prop}(h:∃x1,∃x2,(P1 x1 x2)/\(P2 x1 x2)/\(P3 x1 x2)/\(P4 x1 x2)/\(P5 x1 x2))(k:∀x1,∀x2,(P1 x1 x2)->(P2 x1 x2)->(P3 x1 x2)->(P4 x1 x2)->(P5 x1 x2)->C):C:=an h fun x1 h1=>an h1 fun x2 h2=>k x1 x2 h2.1 h2.2.1 h2.2.2.1 h2.2.2.2.1 h2.2.2.2.2
theorem Hn{α1 α2 α3:Type}{P1:α1->α2->Prop}{P2 P3 P4:α1->α2->α3->Prop}{C:Prop}(h:∃x1,∃x2,(P1 x1 x2)/\∃x3,(P2 x1 x2 x3)/\(P3 x1 x2 x3)/\(P4 x1 x2 x3))(k:∀x1,∀x2,(P1 x1 x2)->∀x3,(P2 x1 x2 x3)->(P3 x1 x2 x3)->(P4 x1 x2 x3)->C):C:=an h fun x1 h1=>an h1 fun x2 h2=>an h2.2 fun x3 h3=>k x1 x2 h2.1 x3 h3.1 h3.2.1 h3.2.2
theorem eD{α1 α2 α3:Type}{P1 P2 P3 P4:α1->α2->α3->Prop}{C:Prop}(h:∃x1,∃x2,∃x3,(P1 x1 x2 x3)/\(P2 x1 x2 x3)/\(P3 x1 x2 x3)/\(P4 x1 x2 x3))(k:∀x1,∀x2,∀x3,(P1 x1 x2 x3)->(P2 x1 x2 x3)->(P3 x1 x2 x3)->(P4 x1 x2 x3)->C):C:=an h fun x1 h1=>an h1 fun x2 h2=>an h2 fun x3 h3=>k x1 x2 x3 h3.1 h3.2.1 h3.2.2.1 h3.2.2.2
theorem fE{α1 α2 α3 α4:Type}{P1 P2 P3:α1->α2->α3->α4->Prop}{C:Prop}(h:∃x1,∃x2,∃x3,∃x4,(P1 x1 x2 x3 x4)/\(P2 x1 x2 x3 x4)/\(P3 x1 x2 x3 x4))(k:∀x1,∀x2,∀x3,∀x4,(P1 x1 x2 x3 x4)->(P2 x1 x2 x3 x4)->(P3 x1 x2 x3 x4)->C):C:=an h fun x1 h1=>an h1 fun x2 h2=>an h2 fun x3 h3=>an h3 fun x4 h4=>k x1 x2 x3 x4 h4.1 h4.2.1 h4.2.2
theorem pH{α1 α2 α3 α4 α5:Type}{P1 P2:α1->α2->α3->α4->α5->Prop}{C:Prop}(h:∃x1,∃x2,∃x3,∃x4,∃x5,(P1 x1 x2 x3 x4 x5)/\(P2 x1 x2 x3 x4 x5))(k:∀x1,∀x2,∀x3,∀x4,∀x5,(P1 x1 x2 x3 x4 x5)->(P2 x1 x2 x3 x4 x5)->C):C:=an h fun x1 h1=>an h1 fun x2 h2=>an h2 fun x3 h3=>an h3 fun x4 h4=>an h4 fun x5 h5=>k x1 x2 x3 x4 x5 h5.1 h5.2
theorem Hm{α1 α2 α3 α4 α5 α6:Type}{P1:α1->α2->α3->α4->α5->α6->Prop}{C:Prop}(h:∃x1,∃x2,∃x3,∃x4,∃x5,∃x6,(P1 x1 x2 x3 x4 x5 x6))(k:∀x1,∀x2,∀x3,∀x4,∀x5,∀x6,(P1 x1 x2 x3 x4 x5 x6)->C):C:=an h fun x1 h1=>an h1 fun x2 h2=>an h2 fun x3 h3=>an h3 fun x4 h4=>an h4 fun x5 h5=>an h5 fun x6 h6=>k x1 x2 x3 x4 x5 x6 h6
theorem DW{P1 P2 P3 P4 P5 P6 P7 P8 C:Prop}(h:P1/\P2/\P3/\P4/\P5/\P6/\P7/\P8)(k:P1->P2->P3->P4->P5->P6->P7->P8->C):C:=k h.1 h.2.1 h.2.2.1 h.2.2.2.1 h.2.2.2.2.1 h.2.2.2.2.2.1 h.2.2.2.2.2.2.1 h.2.2.2.2.2.2.2
theorem gB{α1 α2:Type}{P1:Prop}{P2 P3 P4 P5 P6:α1->α2->Prop}{C:Prop}(h:P1/\∃x1,∃x2,(P2 x1 x2)/\(P3 x1 x2)/\(P4 x1 x2)/\(P5 x1 x2)/\(P6 x1 x2))(k:P1->∀x1,∀x2,(P2 x1 x2)->(P3 x1 x2)->(P4 x1 x2)->(P5 x1 x2)->(P6 x1 x2)->C):C:=an h.2 fun x1 h1=>an h1 fun x2 h2=>k h.1 x1 x2 h2.1 h2.2.1 h2.2.2.1 h2.2.2.2.1 h2.2.2.2.2
theorem DU{α1 α2 α3:Type}{P1 P2:α1->Prop}{P3 P4 P5:α1->α2->α3->Prop}{C:Prop}(h:∃x1,(P1 x1)/\(P2 x1)/\∃x2,∃x3,(P3 x1 x2 x3)/\(P4 x1 x2 x3)/\(P5 x1 x2 x3))(k:∀x1,(P1 x1)->(P2 x1)->∀x2,∀x3,(P3 x1 x2 x3)->(P4 x1 x2 x3)->(P5 x1 x2 x3)->C):C:=an h fun x1 h1=>an h1.2.2 fun x2 h2=>an h2 fun x3 h3=>k x1 h1.1 h1.2.1 x2 x3 h3.1 h3.2.1 h3.2.2
theorem wr{α1 α2:Type}{P1:α1->Prop}{P2 P3 P4 P5 P6:α1->α2->Prop}{C:Prop}(h:∃x1,(P1 x1)/\∃x2,(P2 x1 x2)/\(P3 x1 x2)/\(P4 x1 x2)/\(P5 x1 x2)/\(P6 x1 x2))(k:∀x1,(P1 x1)->∀x2,(P2 x1 x2)->(P3 x1 x2)->(P4 x1 x2)->(P5 x1 x2)->(P6 x1 x2)->C):C:=an h fun x1 h1=>an h1.2 fun x2 h2=>k x1 h1.1 x2 h2.1 h2.2.1 h2.2.2.1 h2.2.2.2.1 h2.2.2.2.2
theorem wo{α1 α2:Type}{P1 P2 P3 P4 P5 P6:α1->α2->Prop}{C:Prop}(h:∃x1,∃x2,(P1 x1 x2)/\(P2 x1 x2)/\(P3 x1 x2)/\(P4 x1 x2)/\(P5 x1 x2)/\(P6 x1 x2))(k:∀x1,∀x2,(P1 x1 x2)->(P2 x1 x2)->(P3 x1 x2)->(P4 x1 x2)->(P5 x1 x2)->(P6 x1 x2)->C):C:=an h fun x1 h1=>an h1 fun x2 h2=>k x1 x2 h2.1 h2.2.1 h2.2.2.1 h2.2.2.2.1 h2.2.2.2.2.1 h2.2.2.2.2.2
theorem qG{α1 α2 α3:Type}{P1 P2:α1->α2->Prop}{P3 P4 P5:α1->α2->α3->Prop}{C:Prop}(h:∃x1,∃x2,(P1 x1 x2)/\(P2 x1 x2)/\∃x3,(P3 x1 x2 x3)/\(P4 x1 x2 x3)/\(P5 x1 x2 x3))(k:∀x1,∀x2,(P1 x1 x2)->(P2 x1 x2)->∀x3,(P3 x1 x2 x3)->(P4 x1 x2 x3)->(P5 x1 x2 x3)->C):C:=an h fun x1 h1=>an h1 fun x2 h2=>an h2.2.2 fun x3 h3=>k x1 x2 h2.1 h2.2.1 x3 h3.1 h3.2.1 h3.2.2
theorem bU{α1 α2 α3:Type}{P1 P2 P3 P4 P5:α1->α2->α3->Prop}{C:Prop}(h:∃x1,∃x2,∃x3,(P1 x1 x2 x3)/\(P2 x1 x2 x3)/\(P3 x1 x2 x3)/\(P4 x1 x2 x3)/\(P5 x1 x2 x3))(k:∀x1,∀x2,∀x3,(P1 x1 x2 x3)->(P2 x1 x2 x3)->(P3 x1 x2 x3)->(P4 x1 x2 x3)->(P5 x1 x2 x3)->C):C:=an h fun x1 h1=>an h1 fun x2 h2=>an h2 fun x3 h3=>k x1 x2 x3 h3.1 h3.2.1 h3.2.2.1 h3.2.2.2.1 h3.2.2.2.2
theorem eh{α1 α2 α3 α4:Type}{P1 P2 P3 P4:α1->α2->α3->α4->Prop}{C:Prop}(h:∃x1,∃x2,∃x3,∃x4,(P1 x1 x2 x3 x4)/\(P2 x1 x2 x3 x4)/\(P3 x1 x2 x3 x4)/\(P4 x1 x2 x3 x4))(k:∀x1,∀x2,∀x3,∀x4,(P1 x1 x2 x3 x4)->(P2 x1 x2 x3 x4)->(P3 x1 x2 x3 x4)->(P4 x1 x2 x3 x4)->C):C:=an h fun x1 h1=>an h1 fun x2 h2=>an h2 fun x3 h3=>an h3 fun x4 h4=>k x1 x2 x3 x4 h4.1 h4.2.1 h4.2.2.1 h4.2.2.2
theorem DT{α1 α2 α3 α4 α5 α6 α7:Type}{P1:α1->α2->α3->α4->α5->α6->α7->Prop}{C:Prop}(h:∃x1,∃x2,∃x3,∃x4,∃x5,∃x6,∃x7,(P1 x1 x2 x3 x4 x5 x6 x7))(k:∀x1,∀x2,∀x3,∀x4,∀x5,∀x6,∀x7,(P1 x1 x2 x3 x4 x5 x6 x7)->C):C:=an h fun x1 h1=>an h1 fun x2 h2=>an h2 fun x3 h3=>an h3 fun x4 h4=>an h4 fun x5 h5=>an h5 fun x6 h6=>an h6 fun x7 h7=>k x1 x2 x3 x4 x5 x6 x7 h7
theorem iG{α1 α2 α3 α4:Type}{P1 P2 P3 P4 P5:α1->α2->α3->α4->Prop}{C:Prop}(h:∃x1,∃x2,∃x3,∃x4,(P1 x1 x2 x3 x4)/\(P2 x1 x2 x3 x4)/\(P3 x1 x2 x3 x4)/\(P4 x1 x2 x3 x4)/\(P5 x1 x2 x3 x4))(k:∀x1,∀x2,∀x3,∀x4,(P1 x1 x2 x3 x4)->(P2 x1 x2 x3 x4)->(P3 x1 x2 x3 x4)->(P4 x1 x2 x3 x4)->(P5 x1 x2 x3 x4)->C):C:=an h fun x1 h1=>an h1 fun x2 h2=>an h2 fun x3 h3=>an h3 fun x4 h4=>k x1 x2 x3 x4 h4.1 h4.2.1 h4.2.2.1 h4.2.2.2.1 h4.2.2.2.2
theorem eZ{α1 α2 α3:Type}{P1 P2 P3 P4 P5 P6 P7:α1->α2->α3->Prop}{C:Prop}(h:∃x1,∃x2,∃x3,(P1 x1 x2 x3)/\(P2 x1 x2 x3)/\(P3 x1 x2 x3)/\(P4 x1 x2 x3)/\(P5 x1 x2 x3)/\(P6 x1 x2 x3)/\(P7 x1 x2 x3))(k:∀x1,∀x2,∀x3,(P1 x1 x2 x3)->(P2 x1 x2 x3)->(P3 x1 x2 x3)->(P4 x1 x2 x3)->(P5 x1 x2 x3)->(P6 x1 x2 x3)->(P7 x1 x2 x3)->C):C:=an h fun x1 h1=>an h1 fun x2 h2=>an h2 fun x3 h3=>k x1 x2 x3 h3.1 h3.2.1 h3.2.2.1 h3.2.2.2.1 h3.2.2.2.2.1 h3.2.2.2.2.2.1 h3.2.2.2.2.2.2
theorem bE{α1 α2 α3 α4:Type}{P1 P2 P3 P4 P5 P6:α1->α2->α3->α4->Prop}{C:Prop}(h:∃x1,∃x2,∃x3,∃x4,(P1 x1 x2 x3 x4)/\(P2 x1 x2 x3 x4)/\(P3 x1 x2 x3 x4)/\(P4 x1 x2 x3 x4)/\(P5 x1 x2 x3 x4)/\(P6 x1 x2 x3 x4))(k:∀x1,∀x2,∀x3,∀x4,(P1 x1 x2 x3 x4)->(P2 x1 x2 x3 x4)->(P3 x1 x2 x3 x4)->(P4 x1 x2 x3 x4)->(P5 x1 x2 x3 x4)->(P6 x1 x2 x3 x4)->C):C:=an h fun x1 h1=>an h1 fun x2 h2=>an h2 fun x3 h3=>an h3 fun x4 h4=>k x1 x2 x3 x4 h4.1 h4.2.1 h4.2.2.1 h4.2.2.2.1 h4.2.2.2.2.1 h4.2.2.2.2.2
theorem bq{α1:Type}{P1 P2:α1->Prop}(x1:α1)(h1:P1 x1)(h2:P2 x1):∃x1,(P1 x1)/\(P2 x1):=⟨x1,h1,h2⟩
theorem jP{α1 α2:Type}{P1 P2:α1->α2->Prop}(x1:α1)(x2:α2)(h2:P1 x1 x2)(h3:P2 x1 x2):∃x1,∃x2,(P1 x1 x2)/\(P2 x1 x2):=⟨x1,x2,h2,h3⟩
theorem o6{α1 α2 α3:Type}{P1 P2:α1->α2->α3->Prop}(x1:α1)(x2:α2)(x3:α3)(h3:P1 x1 x2 x3)(h4:P2 x1 x2 x3):∃x1,∃x2,∃x3,(P1 x1 x2 x3)/\(P2 x1 x2 x3):=⟨x1,x2,x3,h3,h4⟩
theorem jT{P1 P2 P3:Prop}(h0:P1)(h1:P2)(h2:P3):(P1)/\(P2)/\(P3):=⟨h0,h1,h2⟩
theorem o7{P1 P2 P3 P4:Prop}(h0:P1)(h1:P2)(h2:P3)(h3:P4):(P1)/\(P2)/\(P3)/\(P4):=⟨h0,jT h1 h2 h3⟩
theorem ZJ{α1:Type}{P1 P2:Prop}{P3:α1->Prop}(h0:P1)(h1:P2)(x1:α1)(h3:P3 x1):(P1)/\(P2)/\∃x1,(P3 x1):=⟨h0,h1,x1,h3⟩
theorem cB{α1:Type}{P1 P2 P3:α1->Prop}(x1:α1)(h1:P1 x1)(h2:P2 x1)(h3:P3 x1):∃x1,(P1 x1)/\(P2 x1)/\(P3 x1):=⟨x1,jT h1 h2 h3⟩
theorem nH{α1:Type}{P1:Prop}{P2 P3 P4:α1->Prop}(h0:P1)(x1:α1)(h2:P2 x1)(h3:P3 x1)(h4:P4 x1):(P1)/\∃x1,(P2 x1)/\(P3 x1)/\(P4 x1):=⟨h0,cB x1 h2 h3 h4⟩
theorem qh{α1:Type}{P1 P2 P3 P4:α1->Prop}(x1:α1)(h1:P1 x1)(h2:P2 x1)(h3:P3 x1)(h4:P4 x1):∃x1,(P1 x1)/\(P2 x1)/\(P3 x1)/\(P4 x1):=⟨x1,o7 h1 h2 h3 h4⟩
theorem dK{α1 α2:Type}{P1 P2:α1->Prop}{P3:α1->α2->Prop}(x1:α1)(h1:P1 x1)(h2:P2 x1)(x2:α2)(h4:P3 x1 x2):∃x1,(P1 x1)/\(P2 x1)/\∃x2,(P3 x1 x2):=⟨x1,ZJ h1 h2 x2 h4⟩
theorem bO{α1 α2:Type}{P1 P2 P3:α1->α2->Prop}(x1:α1)(x2:α2)(h2:P1 x1 x2)(h3:P2 x1 x2)(h4:P3 x1 x2):∃x1,∃x2,(P1 x1 x2)/\(P2 x1 x2)/\(P3 x1 x2):=⟨x1,cB x2 h2 h3 h4⟩
theorem dw{α1 α2:Type}{P1 P2 P3 P4:α1->α2->Prop}(x1:α1)(x2:α2)(h2:P1 x1 x2)(h3:P2 x1 x2)(h4:P3 x1 x2)(h5:P4 x1 x2):∃x1,∃x2,(P1 x1 x2)/\(P2 x1 x2)/\(P3 x1 x2)/\(P4 x1 x2):=⟨x1,qh x2 h2 h3 h4 h5⟩
theorem i5{α1 α2 α3:Type}{P1 P2 P3:α1->α2->α3->Prop}(x1:α1)(x2:α2)(x3:α3)(h3:P1 x1 x2 x3)(h4:P2 x1 x2 x3)(h5:P3 x1 x2 x3):∃x1,∃x2,∃x3,(P1 x1 x2 x3)/\(P2 x1 x2 x3)/\(P3 x1 x2 x3):=⟨x1,bO x2 x3 h3 h4 h5⟩
theorem eB{α1 α2 α3:Type}{P1 P2 P3 P4:α1->α2->α3->Prop}(x1:α1)(x2:α2)(x3:α3)(h3:P1 x1 x2 x3)(h4:P2 x1 x2 x3)(h5:P3 x1 x2 x3)(h6:P4 x1 x2 x3):∃x1,∃x2,∃x3,(P1 x1 x2 x3)/\(P2 x1 x2 x3)/\(P3 x1 x2 x3)/\(P4 x1 x2 x3):=⟨x1,dw x2 x3 h3 h4 h5 h6⟩
theorem kj{α1 α2 α3 α4:Type}{P1 P2 P3:α1->α2->α3->α4->Prop}(x1:α1)(x2:α2)(x3:α3)(x4:α4)(h4:P1 x1 x2 x3 x4)(h5:P2 x1 x2 x3 x4)(h6:P3 x1 x2 x3 x4):∃x1,∃x2,∃x3,∃x4,(P1 x1 x2 x3 x4)/\(P2 x1 x2 x3 x4)/\(P3 x1 x2 x3 x4):=⟨x1,i5 x2 x3 x4 h4 h5 h6⟩
theorem c7{α1 α2 α3:Type}{P1 P2 P3 P4 P5:α1->α2->α3->Prop}(x1:α1)(x2:α2)(x3:α3)(h3:P1 x1 x2 x3)(h4:P2 x1 x2 x3)(h5:P3 x1 x2 x3)(h6:P4 x1 x2 x3)(h7:P5 x1 x2 x3):∃x1,∃x2,∃x3,(P1 x1 x2 x3)/\(P2 x1 x2 x3)/\(P3 x1 x2 x3)/\(P4 x1 x2 x3)/\(P5 x1 x2 x3):=⟨x1,x2,x3,h3,h4,h5,h6,h7⟩
theorem fG{α1 α2 α3 α4:Type}{P1 P2 P3 P4:α1->α2->α3->α4->Prop}(x1:α1)(x2:α2)(x3:α3)(x4:α4)(h4:P1 x1 x2 x3 x4)(h5:P2 x1 x2 x3 x4)(h6:P3 x1 x2 x3 x4)(h7:P4 x1 x2 x3 x4):∃x1,∃x2,∃x3,∃x4,(P1 x1 x2 x3 x4)/\(P2 x1 x2 x3 x4)/\(P3 x1 x2 x3 x4)/\(P4 x1 x2 x3 x4):=⟨x1,eB x2 x3 x4 h4 h5 h6 h7⟩
theorem jw{α1 α2 α3 α4:Type}{P1 P2 P3 P4 P5:α1->α2->α3->α4->Prop}(x1:α1)(x2:α2)(x3:α3)(x4:α4)(h4:P1 x1 x2 x3 x4)(h5:P2 x1 x2 x3 x4)(h6:P3 x1 x2 x3 x4)(h7:P4 x1 x2 x3 x4)(h8:P5 x1 x2 x3 x4):∃x1,∃x2,∃x3,∃x4,(P1 x1 x2 x3 x4)/\(P2 x1 x2 x3 x4)/\(P3 x1 x2 x3 x4)/\(P4 x1 x2 x3 x4)/\(P5 x1 x2 x3 x4):=⟨x1,c7 x2 x3 x4 h4 h5 h6 h7 h8⟩
theorem cJ{α1 α2 α3 α4:Type}{P1 P2 P3 P4 P5 P6:α1->α2->α3->α4->Prop}(x1:α1)(x2:α2)(x3:α3)(x4:α4)(h4:P1 x1 x2 x3 x4)(h5:P2 x1 x2 x3 x4)(h6:P3 x1 x2 x3 x4)(h7:P4 x1 x2 x3 x4)(h8:P5 x1 x2 x3 x4)(h9:P6 x1 x2 x3 x4):∃x1,∃x2,∃x3,∃x4,(P1 x1 x2 x3 x4)/\(P2 x1 x2 x3 x4)/\(P3 x1 x2 x3 x4)/\(P4 x1 x2 x3 x4)/\(P5 x1 x2 x3 x4)/\(P6 x1 x2 x3 x4):=⟨x1,x2,x3,x4,h4,h5,h6,h7,h8,h9⟩
theorem je(h:a<=b)(k:gW b c=ai):a<=c:=ae h (aj k)
theorem xn(h:a<b)(k:gW b (c+1)=ai):a<=c:=tQ (du h (aj k))
theorem Pl(h:¬b<a)(k:gW b c=ai):a<=c:=je (b7 h) k
theorem GH(h:a<=b)(k:gW (b+1) c=ai):a<c:=du (KI h) (aj k)
theorem I3(h:a<b)(k:gW b c=ai):a<c:=du h (aj k)
theorem E9{a b c:Int}(h:a<=b)(k:decide (b<=c)=ai):a<=c:=ba h (of_decide_eq_true k)
theorem G6{a b c:Int}(h:a<b)(k:decide (b<=c)=ai):a<c:=eQ h (of_decide_eq_true k)
theorem Qt{a b c:Int}(h:a<=b)(k:decide (b<c)=ai):a<c:=ga h (of_decide_eq_true k)
theorem UQ{a b c:Int}(h:b<=a)(k:decide (c<=b)=ai):c<=a:=ba (of_decide_eq_true k) h
theorem Y8{n:Nat}{c:Int}(k:decide (c<=0)=ai):c<=(n:Int):=ba (of_decide_eq_true k) (cb n)
theorem US{n b:Nat}{c:Int}(h:n<b)(k:decide ((b:Int)<=c)=ai):(n:Int)<c:=eQ (d7.mpr h) (of_decide_eq_true k)
theorem G7{n b:Nat}{c:Int}(h:n<=b)(k:decide ((b:Int)<=c)=ai):(n:Int)<=c:=ba (gY.mpr h) (of_decide_eq_true k)
theorem ip{n:Nat}(h:0<n):(0:Int)<(n:Int):=pb.mpr h
theorem I0{a A b d:Nat}(h0:a<=A)(h1:b<=a+d):b<=A+d:=ae h1 (FN h0 _)
theorem Mg{a A b d:Int}(h0:a<=A)(h1:b<=a+d):b<=A+d:=ba h1 (ef h0 _)
theorem Pm{a b c d:Nat}(h:a+b<c)(k:gW d b=ai):a+d<c:=bJ (bn (aj k) _) h
theorem LM(h:a+m*(b+1)<c)(k:gW d m=ai):a+d+m*b<c:=bJ (by rw[Nat.mul_succ,Rq,RP d];exact bn (bn (aj k) _) _) h
theorem Lz{a:Int}{n:Nat}(h:a<n)(k:0<n):a.toNat<n:=(by cases a with|ofNat m=>exact d7.mp h|negSucc m=>exact k)
theorem LY{a b:Int}(h0:0<=a)(h1:a<=b)(k:decide (b.natAbs<c)=ai):a.natAbs<c:=bJ (by cases a with|ofNat m=>(cases b with|ofNat n=>exact gY.mp h1|negSucc n=>exact absurd (ba h0 h1) (r9.mpr (qQ n)))|negSucc m=>exact absurd h0 (r9.mpr (qQ m))) (of_decide_eq_true k)
theorem om0(h0:x0<=1000):x0+1<=16777216+1:=b6 (je h0 rfl)
theorem om1(h0:x0=1)(h1:x1+4*(x2+1)<900):x1+x0+4*x2<900:=by subst h0;exact LM h1 rfl
theorem om2(h0:x0=1)(h1:x1+20*(x2+1)<9000):x1+x0+20*x2<9000:=by subst h0;exact LM h1 rfl
theorem om3(h0:x0+20*x1<9000):x0+100<9900:=Nat.add_lt_add_of_lt_of_le (bJ (cg _ _) (du h0 (by decide:9000<=9800))) (aI 100)
theorem om4(h0:x0+100<x1):x0+64<x1:=Pm h0 rfl
theorem om5(h0:x0+100<x1):x0+1+64<x1:=(Pm (d:=65) h0 rfl:x0+65<x1)
theorem XX(h0:x0<x1):x1-(x0+1)<x1-x0:=Nat.sub_lt_sub_left h0 (c9 _)
theorem om8(h0:x0+4*(x1+1)<900):x0+1+4*x1<900:=LM h0 rfl
theorem om9(h0:x0+20*(x1+1)<9000):x0+3+20*x1<9000:=LM h0 rfl
theorem YO{x1:Nat}(h0:x0<x1):(↑x1:Int)-1-(↑x0:Int)=(↑(x1-1-x0):Int):=by rw[w6 (Nat.le_sub_one_of_lt h0),w6 (bJ (a7 _) h0)];rfl
theorem YN{x0 x1:Nat}(h0:x0<x1):(↑(x1-1-x0):Int)-1=(↑x1:Int)-1-(↑(x0+1):Int):=by omega
theorem YM:(↑x0:Int)-1-(↑x0:Int)=-1:=by omega
theorem T3{x0:Nat}(h0:x0<=1000000):(↑x0:Int)<2 ^ 63:=US (KI h0) rfl
theorem BB(h0:x0+100<x1):x0<x1:=Pm (d:=0) h0 rfl
theorem YL{x0:Nat}(h0:x0<1000000):(↑x0:Int)<2 ^ 63-1:=US h0 rfl
theorem YK:0<=64:=a7 _
theorem YJ{x0:Int}(h0:x0≠0):x0.natAbs≠0:=fun h=>h0 (Int.natAbs_eq_zero.mp h)
theorem YI(h0:x0<=x1)(h1:x2+4*x1<900):x2+4*x0<900:=bJ (bn (dO _ h0) _) h1
theorem YH(h0:x0<=x1)(h1:x2+20*x1<9000):x2+20*x0<9000:=bJ (bn (dO _ h0) _) h1
theorem YG(h0:x0+4*x1<900):x0<1000:=I3 (bJ (cg _ _) h0) rfl
theorem YF{x0:Nat}:¬(↑x0:Int)<0:=nZ.mpr (cb _)
theorem Tw:2<6+x0:=du (aj rfl) (cg 6 x0)
theorem Tv{x0 x1:Int}:x0<=x1\/x1<=x0:=Int.le_total x0 x1
theorem Tu:x0<=x0+1+1+1:=cg _ 3
theorem YE(h0:x0+1<=x1):x0<=x1:=mB h0
theorem YD(h0:x0+1<=x1):x0<x1:=h0
theorem YC{x0:Int}(h0:0<=x0)(h1:x0<=1000000):-9223372036854775808<=x0/\x0<9223372036854775808:=⟨UQ h0 rfl,Qt h1 rfl⟩
theorem YB(h0:x0+(x1+1)<x2):x0<x2:=bJ (cg _ _) h0
theorem YA(h0:x0+(x1+1)<x2):x0+1+x1<x2:=bJ (bv (f9 x0 1 x1)) h0
theorem Yz{x3:Nat}(h0:x0+max x1 x2<x3):x0+x1<x3:=bJ (bn (Nat.le_max_left _ _) _) h0
theorem Yx{x3:Nat}(h0:x0+max x1 x2<x3):x0+x2<x3:=bJ (bn (Nat.le_max_right _ _) _) h0
theorem Yw(h0:x0<=60)(h1:x1+100<x2):x1+1+x0<x2:=bJ (by rw[Rq];exact bn (ae (bn h0 1) (by decide)) x1) h1
theorem Yv{x1:Int}(h0:x0<x1.toNat):0<(↑x1.toNat:Int)-(↑x0:Int):=Int.sub_pos_of_lt (d7.mpr h0)
theorem Yu{x0:Nat}:(0<=-1+((↑x0:Int)+1)/\-1+((↑x0:Int)+1)<(↑x0:Int)+1)/\(-1+((↑x0:Int)+1)).toNat=x0:=(show(0<=-1+((x0+1:Nat):Int)/\-1+((x0+1:Nat):Int)<((x0+1:Nat):Int))/\(-1+((x0+1:Nat):Int)).toNat=x0 from by rw[show -1+((x0+1:Nat):Int)=(x0:Int) from by rw[w7,RU,mL];exact CY _];exact⟨⟨cb x0,d7.mpr (c9 x0)⟩,rfl⟩)
theorem Yt(h0:x0<=100)(h1:x1<x0)(h2:x2<=3*x1):x2<=300:=je (ae h2 (dO 3 (ae (b8 h1) h0))) rfl
theorem Ys(h0:x0<=300)(h1:x1<=x0+1):x1<=1000000:=je (I0 h0 h1) rfl
theorem Yr(h0:x0<=3*x1)(h1:x2<=x0+1)(h2:x3<=x2+1)(h3:x4<=x3+1):x4<=3*(x1+1):=ae h3 (b6 (ae h2 (b6 (ae h1 (b6 h0)))))
theorem Yq(h0:x0<=300)(h1:x1<=x0+1)(h2:x2<=x1+1):x2<=1000000:=je (I0 (I0 h0 h1) h2) rfl
theorem Yp(h0:x0<=900)(h1:x1<=900)(h2:x2<x1)(h3:x3<=x0+x2):x3<=1000000:=je (ae h3 (bX h0 (ae (b8 h2) h1))) rfl
theorem Yo(h0:x0<=x1+x2)(h1:x1<=x3+1):x0<=x3+(x2+1):=ae h0 (ae (FN h1 _) (bv (f9 x3 1 x2)))
theorem Yn{x0:Nat}(h0:0<x0):(0<=-1+(↑x0:Int)/\-1+(↑x0:Int)<(↑x0:Int))/\(-1+(↑x0:Int)).toNat=x0-1:=by cases x0 with|zero=>exact absurd h0 (mK 0)|succ n=>(rw[show -1+((n+1:Nat):Int)=(n:Int) from by rw[w7,RU,mL];exact CY _];exact⟨⟨cb n,d7.mpr (c9 n)⟩,rfl⟩)
theorem Ym(h0:x0<=900)(h1:x1<=100)(h2:x2<x1)(h3:x3<=x2)(h4:x4<=x0+x3):x4<=2000:=je (ae h4 (bX h0 (ae h3 (ae (b8 h2) h1)))) rfl
theorem Yl(h0:x0+1<x1+1):x0<x1:=f8 h0
theorem Yk(h0:x0<=100)(h1:x1<x2)(h2:x2<=x0):x1<1000000:=I3 (du h1 (ae h2 h0)) rfl
theorem xm{x0:Int}(h0:0<x0):x0≠0:=RT h0
theorem Pj{x0:Int}(h0:0<x0)(h1:x0<=900):x0.natAbs<1073741824:=LY (tS h0) h1 rfl
theorem Yi{x0:Int}(h0:0<x0):-1000000<x0:=Int.lt_trans (of_decide_eq_true rfl) h0
theorem Yh{x0:Int}(h0:x0<=900):x0.toNat<=1000000:=Int.toNat_le.mpr (E9 h0 rfl)
theorem Yg{x0:Int}(h0:0<=x0)(h1:x0<=901):x0.natAbs<2 ^ 60:=LY h0 h1 rfl
theorem Ye{x0:Int}(h0:x0<=900)(h1:x1<=x0.toNat):(↑x1:Int)<=901:=by omega
theorem Yd{x0:Nat}:0<=(↑x0:Int)+1:=cb (x0+1)
theorem Yb{x0:Int}(h0:x0<=900)(h1:x1<=x0.toNat):(↑x1:Int)+1<=901:=by cases x0 with|ofNat m=>exact ef (ba (gY.mpr h1) h0) 1|negSucc m=>exact ef (ba (gY.mpr h1) (show(0:Int)<=900 by decide)) 1
theorem X9{x1:Int}(h0:¬(900<x0\/x1<=0\/900<x1)):x0<=900:=b7 fun h=>h0 (.inl h)
theorem X8{x1:Int}(h0:¬(900<x0\/x1<=0\/900<x1)):0<x1:=r9.mp fun h=>h0 (.inr (.inl h))
theorem X7{x1:Int}(h0:¬(900<x0\/x1<=0\/900<x1)):x1<=900:=nZ.mp fun h=>h0 (.inr (.inr h))
theorem X6{x0:Int}(h0:2<=x0):¬x0<2:=nZ.mpr h0
theorem X5(h0:x0<=800)(h1:x1=x0)(h2:x2<=x1):x2<=900:=je (ae h2 (ae (bv h1) h0)) rfl
theorem X4{x0:Int}(h0:2<=x0):0<x0:=eQ (of_decide_eq_true rfl) h0
theorem X3(h0:x0<=800)(h1:x1<=x0+1):x1<=900:=je (I0 h0 h1) rfl
theorem X2(h0:x0<=800)(h1:x1<=x0+1)(h2:x2<=x1+1):x2<=900:=je (I0 (I0 h0 h1) h2) rfl
theorem X1{x0:Nat}(h0:¬0<(↑x0:Int)):Int.toNat 0=x0:=(Nat.eq_zero_of_not_pos fun h=>h0 (d7.mpr h)).symm
theorem Tt{x0:Int}:x0<=x0+1:=Int.le_add_of_nonneg_right (of_decide_eq_true rfl)
theorem Ts{x0:Int}(h0:0<x0)(h1:x0<=1000):x0.natAbs<1073741824:=LY (tS h0) h1 rfl
theorem X0{x0:Int}(h0:0<=x0)(h1:x0<=1000):x0.natAbs<2 ^ 60:=LY h0 h1 rfl
theorem XZ(h0:0<(↑x0:Int)):(↑x0:Int)≠0:=RT h0
theorem XY{x0:Nat}{x1:Int}(h0:0<(↑x0:Int))(h1:x1<(↑x0:Int)):x1.toNat<x0:=Lz h1 (pb.mp h0)
theorem XW{x0:Nat}{x1:Int}(h0:x0<=63)(h1:x1<(↑x0:Int)):x1<2 ^ 63:=eQ h1 (G7 h0 rfl)
theorem XV{x0:Int}{x1:Nat}(h0:0<=x0)(h1:¬x0>=(↑x1:Int)):x0.toNat<x1:=(Int.toNat_lt h0).mpr (r9.mp h1)
theorem Tr{x0:Int}(h0:x0<=1000):x0<2 ^ 63:=Qt h0 rfl
theorem XU{x0:Int}(h0:¬x0<0):0<=x0:=nZ.mp h0
theorem XT(h0:x0+1<=900)(h1:x1<=900)(h2:x2<=x0):x2+1+x1<=1000000:=je (bX (ae (b6 h2) h0) h1) rfl
theorem XS(h0:¬800<x0)(h1:x1<=x0+1):x1<=1000000:=je (I0 (b7 h0) h1) rfl
theorem XR(h0:x0<=2*x1)(h1:x2<=2):x0+x2<=2*(x1+1):=bX h0 h1
theorem XQ{x0:Nat}:¬1=(↑x0:Int)+1+1+1/\¬2=(↑x0:Int)+1+1+1:=by omega
theorem XO{x0:Nat}(h0:2<x0):(↑x0:Int)>2:=(d7.mpr h0:((2:Nat):Int)<x0)
theorem XN{x0:Nat}(h0:¬2<x0):¬(↑x0:Int)>2:=fun h=>h0 (d7.mp (h:((2:Nat):Int)<x0))
theorem XM(h0:x0<=x1)(h1:x1<=2000)(h2:x2<=1):x0+x2<=1000000:=je (bX (ae h0 h1) h2) rfl
theorem XK{x0 x1:Int}(h0:x0<=500)(h1:x1<=x0+1):x1<=1000:=E9 (Mg h0 h1) rfl
theorem XJ{x0 x1 x2:Int}(h0:x0<=500)(h1:x1<=x0+1)(h2:x2<=x1+1):x2<=1000:=E9 (Mg (Mg h0 h1) h2) rfl
theorem XI{x0:Nat}{x1:Int}(h0:0<x0)(h1:x1<(↑x0:Int)):x1.toNat<x0:=Lz h1 h0
theorem XH{x0:Nat}{x1:Int}(h0:x0<=60)(h1:x1<(↑x0:Int)):x1<2 ^ 63:=eQ h1 (G7 h0 rfl)
theorem Pi{x0:Int}(h0:0<=x0):x0=(↑x0.toNat:Int):=(Int.toNat_of_nonneg h0).symm
theorem XG{x0:Int}(h0:x0<7):x0.toNat<7:=Lz (n:=7) h0 (jj _)
theorem Tq{x0:Int}(h0:x0<6):x0.toNat<6:=Lz (n:=6) h0 (jj _)
theorem XD{x0:Nat}:-2 ^ 63<=(↑x0:Int):=Y8 rfl
theorem XC{x0:Nat}(h0:x0<7):(↑x0:Int)<2 ^ 63:=US h0 rfl
theorem Tp{x0:Nat}(h0:(↑x0:Int)=6):x0=6:=Rs.mp h0
theorem XB{x0:Nat}(h0:¬x0=6):(↑x0:Int)≠6:=fun h=>h0 (Rs.mp h)
theorem XA{x0:Nat}:-2 ^ 63<=(↑x0:Int)-1:=ba (of_decide_eq_true rfl:-2 ^ 63<=(0:Int)-1) (Int.sub_le_sub_right (cb _) 1)
theorem Xz{x0:Nat}(h0:x0<6):(↑x0:Int)-1<2 ^ 63:=ga (Int.sub_le_self _ (of_decide_eq_true rfl)) (US h0 rfl)
theorem To(h0:x0<6):x0-1<5:=by cases x0 with|zero=>exact Nat.zero_lt_succ _|succ n=>exact f8 h0
theorem Xy{x0:Nat}(h0:(↑x0:Int)>0):x0≠0:=Nat.pos_iff_ne_zero.mp (pb.mp h0)
theorem Xx{x0:Nat}(h0:¬x0=0):(↑x0:Int)>0:=pb.mpr (Nat.pos_of_ne_zero h0)
theorem Xw(h0:x0<=900)(h1:x1<x0)(h2:x2<=2*x1):x2<=2000:=je (ae h2 (dO 2 (ae (b8 h1) h0))) rfl
theorem Xv(h0:x0<=900)(h1:x1<x0)(h2:x2<=2*x1)(h3:x3<=x2+1):x3<=2000:=je (ae h3 (b6 (ae h2 (dO 2 (ae (b8 h1) h0))))) rfl
theorem Xu{x0 x1 x2 x3:Int}(h0:x0<=x1+1)(h1:x2<=x0+1)(h2:x3<=x2+1):x3<=x1+3:=ba h2 (ba (ef h1 1) (ba (ef (ef h0 1) 1) (ft (by rw[mL,mL];rfl))))
theorem Uv{x0 x1:Nat}(h0:x0<8)(h1:x1+1<=4):910<=910+4*(↑x0:Int)+(↑x1:Int)/\910+4*(↑x0:Int)+(↑x1:Int)<=941:=⟨gY.mpr (show 910<=910+4*x0+x1 from ae (cg 910 (4*x0)) (cg _ _)),gY.mpr (show 910+4*x0+x1<=941 from bX (bn (dO 4 (tQ h0)) 910) (Nat.le_of_succ_le_succ h1))⟩
theorem Uu(h0:x0<=20)(h1:x1<=x0+1):x1<=2000:=je (I0 h0 h1) rfl
theorem Ut(h0:x0<=20)(h1:x1<=x0+1)(h2:x2<=x1+1):x2<=22:=je (I0 (I0 h0 h1) h2) rfl
theorem Us(h0:x0<=1):4+x0<=1000000:=je (bn h0 4) rfl
theorem Ur{x0:Int}:x0<=x0+(↑0:Int):=ft (CY _).symm
theorem Uq{x0:Int}{x1:Nat}{x2:Int}(h0:x0<=500)(h1:x1<8)(h2:x2<=x0+(↑x1:Int)):x2<=1000:=E9 (ba h2 (Int.add_le_add h0 (G7 (c:=8) (b8 h1) rfl))) rfl
theorem Up{x0:Int}(h0:0<=x0):-1000000<x0:=eQ (of_decide_eq_true rfl) h0
theorem Uo{x0:Int}(h0:x0<4)(h1:x1<x0.toNat):x1<4:=gV h1 (Lz (n:=4) h0 (jj _))
theorem Un{x0:Int}(h0:x0<4)(h1:x1<x0.toNat):x1<=4:=b8 (gV h1 (Lz (n:=4) h0 (jj _)))
theorem Um{x3:Int}(h0:x0<=20)(h1:x1<8)(h2:x2<=2+4*x1)(h3:x3<4)(h4:x4<x3.toNat)(h5:x5<=x0+(x2+x4)):x5<=2000:=je (ae h5 (bX h0 (bX (ae h2 (bn (dO 4 (b8 h1)) 2)) (b8 (gV h4 (Lz (n:=4) h3 (jj _))))))) rfl
theorem Ul{x0:Int}(h0:x0<4):x0.toNat<4:=Lz (n:=4) h0 (jj _)
theorem Uk{x0 x1:Int}{x2:Nat}{x3:Int}(h0:x0<=x1+(↑x2:Int))(h1:x3<=x0+1):x3<=x1+(↑(x2+1):Int):=ba h1 (ba (ef h0 1) (ft (by rw[w7,<-mL];rfl)))
theorem Uj(h0:x0<=8)(h1:x1<=2+4*x0):x1<=34:=je (ae h1 (bn (dO 4 h0) 2)) rfl
theorem Ui{x0:Nat}{x1 x2:Int}(h0:x0<=8)(h1:x1<=x2+(↑x0:Int)):x1<=x2+8:=ba h1 (Int.add_le_add_left (G7 h0 rfl) _)
theorem Uh(h0:x0<=1)(h1:x1<=x2):x0+x1<=x2+1:=ae (bX h0 h1) (bv (RP 1 x2))
theorem Ug(h0:x0<=63)(h1:x1=x0)(h2:x2<=x1):x2<=64:=je (ae h2 (ae (bv h1) h0)) rfl
theorem Uf(h0:x0<=63)(h1:x1=x0):x1<=1000000:=je (ae (bv h1) h0) rfl
theorem Ue(h0:x0<=64):1+x0<=1000000:=je (bn h0 1) rfl
theorem Ud(h0:x0<=900)(h1:x1=x0):x1<=1000000:=je (ae (bv h1) h0) rfl
theorem Uc(h0:x0<=900)(h1:x1=x0):1+x1<=1000000:=je (bn (ae (bv h1) h0) 1) rfl
theorem Ub(h0:x0<64)(h1:x1=x0):x1<=1000000:=xn (bJ (bv h1) h0) rfl
theorem Ua(h0:x0<64)(h1:x1=x2)(h2:x2=x0):x1<=1000000:=xn (bJ (bv (h1.trans h2)) h0) rfl
theorem T9(h0:2<=x0):1+1<=x0:=h0
theorem T8(h0:x0<=12)(h1:x1=12):x0<=x1:=ae h0 (bv h1.symm)
theorem T7{x0:Int}(h0:0<=x0):-2 ^ 63<=x0:=UQ h0 rfl
theorem T6{x0:Int}(h0:x0<6):x0<2 ^ 63:=G6 h0 rfl
theorem T5{x0:Int}(h0:x0<900):¬x0=902:=kR (G6 h0 rfl)
theorem T4{x0:Int}(h0:x0<900):¬x0=901:=kR (G6 h0 rfl)
theorem T1{x0:Int}(h0:x0<900):¬x0=900:=kR h0
theorem NU{x0 x1:Int}(h0:x0=x1)(h1:x1<900)(h2:x0=900):False:=kR (ga (ft h0) h1) h2
theorem NT{x0 x1:Int}(h0:x0=x1)(h1:x1<900)(h2:x0=901):False:=kR (ga (ft h0) (G6 h1 rfl)) h2
theorem NS{x0 x1:Int}(h0:x0=x1)(h1:x1<900)(h2:x0=902):False:=kR (ga (ft h0) (G6 h1 rfl)) h2
theorem T0(h0:x0<=100)(h1:x1<=x0+1):x1<=800:=je (I0 h0 h1) rfl
theorem TZ:x0+1+x1=x0+(x1+1):=f9 x0 1 x1
theorem TY{x0:Int}(h0:0<=x0):0<=x0:=h0
theorem TX{x0:Int}(h0:x0<=0+1):x0<=1000:=E9 h0 rfl
theorem TV{x0:Int}(h0:x0<9):x0.toNat<9:=Lz (n:=9) h0 (jj _)
theorem TT{x0:Int}(h0:0<=x0)(h1:x0<2):2+x0=2\/2+x0=3:=by cases x0 with|ofNat m=>(cases m with|zero=>exact .inl rfl|succ m=>cases m with|zero=>exact .inr rfl|succ m=>exact absurd (d7.mp h1) (bu.mpr (Nat.le_add_left 2 m)))|negSucc m=>exact absurd h0 (r9.mpr (qQ m))
theorem TS{x0:Nat}:-1000000<(↑x0:Int):=eQ (of_decide_eq_true rfl) (cb _)
theorem TR{x0:Nat}(h0:x0<9):(↑x0:Int).toNat<=1000000:=ae (bv (mD _)) (xn h0 rfl)
theorem TQ{x0:Int}(h0:x0=2\/x0=3):2<=x0:=h0.elim (fun h=>ft h.symm) fun h=>ba (of_decide_eq_true rfl) (ft h.symm)
theorem TP{x0:Int}(h0:x0=2\/x0=3):x0<=900:=h0.elim (fun h=>E9 (ft h) rfl) fun h=>E9 (ft h) rfl
theorem TO(h0:x0<=8)(h1:x0=x1):x1<=1000000:=je (ae (bv h1.symm) h0) rfl
theorem TN{x0 x1:Int}(h0:x0<=0+1)(h1:x1<=x0+1):x1<=500:=E9 (Mg h0 h1) rfl
theorem TM(h0:x0<=x1)(h1:x1<=x2+x3)(h2:x2<=20)(h3:x3=2):x0<=60:=je (ae h0 (ae h1 (bX h2 (bv h3)))) rfl
theorem TL(h0:x0<=34)(h1:x1<=20)(h2:x2<=x1+x0):x2<60:=GH (ae h2 (bX h1 h0)) rfl
theorem TK{x0 x1 x2:Int}(h0:x0<=0+1)(h1:x1<=x0+1)(h2:x2<=x1+8):x2<=500:=E9 (Mg (Mg h0 h1) h2) rfl
theorem TJ(h0:x0<=34)(h1:x1<=20)(h2:x2<=x1+x0)(h3:x3<=x2):x3<=60:=je (ae h3 (ae h2 (bX h1 h0))) rfl
theorem TI(h0:x0<=34)(h1:x1<=20)(h2:x2<=x1+x0)(h3:x3<=5)(h4:x4<=x2+x3):x4<64:=GH (ae h4 (bX (ae h2 (bX h1 h0)) h3)) rfl
theorem TH(h0:x0<=100)(h1:x1<=x0):x1<=1000000:=je (ae h1 h0) rfl
theorem NR{x0 x1 x2 x3:Int}(h0:x0<=0+1)(h1:x1<=x0+1)(h2:x2<=x1+8)(h3:x3<=x2+3):x3<=500:=E9 (Mg (Mg (Mg h0 h1) h2) h3) rfl
theorem TG{x0:Int}(h0:x0<900)(h1:910<=x0/\x0<=941\/x0=950\/x0=951):False:=h1.elim (fun h=>absurd (ga h.1 h0) (by decide)) fun h=>h.elim (fun e=>absurd (show(950:Int)<900 from e▸h0) (by decide)) fun e=>absurd (show(951:Int)<900 from e▸h0) (by decide)
theorem TF(h0:x0<9)(h1:x1=x0)(h2:x2<x1):x2<8:=du h2 (ae (bv h1) (tQ h0))
theorem TE{x0:Nat}(h0:¬(↑63:Int)<(↑x0:Int)):x0<=63:=b7 fun h=>h0 (d7.mpr h)
theorem TD(h0:x0<=900)(h1:x1<4)(h2:x2<=x0+x1):x2<=1000000:=je (ae h2 (bX h0 (b8 h1))) rfl
theorem TC(h0:¬(900<x0\/900<x1\/900<x2)):x0<=900/\x1<=900/\x2<=900:=⟨b7 fun h=>h0 (.inl h),b7 fun h=>h0 (.inr (.inl h)),b7 fun h=>h0 (.inr (.inr h))⟩
theorem NQ(h0:x0+(x1+1)<=100):x0<=1000000:=je (ae (cg _ _) h0) rfl
theorem EN(h0:x0+(x1+1)<=100):x0+1+x1<=100:=ae (bv (f9 x0 1 x1)) h0
theorem TB(h0:x0<=900)(h1:x1<=900)(h2:x2=x0):x1+min x3 x2<=1000000:=je (bX h1 (ae (Nat.min_le_right _ _) (ae (bv h2) h0))) rfl
theorem TA(h0:x0<=900)(h1:x1<=900):x0+x1<=2000:=je (bX h0 h1) rfl
theorem Tz(h0:x0<=900)(h1:x1<4)(h2:x2<=x0+(x1+1)):x2<=1000000:=je (ae h2 (bX h0 h1)) rfl
theorem NP(h0:x0<=x1+1+x2):x0<=x1+(x2+1):=ae h0 (bv (f9 x1 1 x2))
theorem Tx(h0:x0<x1):x1-x0=x1-(x0+1)+1:=(Nat.sub_add_cancel (Nat.sub_pos_of_lt h0)).symm
noncomputable def GD:Nat->(Nat->uD)->BT|0,_=>.nil|k+1,f=>.node (f 0) (GD k fun i=>f (2*i+1)) (GD k fun i=>f (2*i+2))
theorem vB:∀(k:Nat)(f:Nat->uD)(i:Nat),i+1<2 ^ k->(GD k f).get i=ac (f i)
 |0,f,i,h=>by simp at h
 |k+1,f,i,h=>by unfold GD BT.get;cases h0:tR i 0 with|true=>rw[Ep h0]|false=>have n0:i≠0:=nY h0;dsimp only;rw[Nat.pow_succ] at h;cases h1:tR (i % 2) 1 with|true=>have e:=Ep h1;dsimp only;rw[vB k _ _ (by omega),show 2*(i / 2)+1=i from by omega]|false=>have e:=nY h1;dsimp only;rw[vB k _ _ (by omega),show 2*(i / 2-1)+2=i from by omega]
noncomputable def yX(s:ay):SharedT:=⟨GD 5 fun i=>(s.heap.objs[i]?).getD default,s.heap.objs.size,s.heap.life,s.gens,s.drawn,s.toks,s.os⟩
theorem C3{s:ay}(h:gW s.heap.objs.size 30=ai):(yX s).abs=s:=by
 obtain⟨⟨objs,life⟩,gens,drawn,toks,os⟩:=s;have h:=aj h;dsimp only at h;unfold yX SharedT.abs absHeap BT.list;dsimp only;have e:((dH objs.size).map fun i=>((GD 5 fun i=>(objs[i]?).getD default).get i).getD default).toArray=objs:=by
  apply Array.ext_getElem?;intro i;rw[List.getElem?_toArray,bj];by_cases hi:i<objs.size;· rw[FS hi,ie,vB 5 _ i (by omega),eH,xM hi,eH]
  .rw[CW (by rw[dI];omega),i9 (by omega)]
   rfl
 rw[e]
noncomputable abbrev pL:gR:=Oq
noncomputable def xz:Ou:={scope:=pL.main.scope,locals:=mainNs,globals:=mainNs,cells:=[],code:=.ref 13,frame:=ac 14}
noncomputable def cL:Code:=.body (dE pL) xz
noncomputable def fL:List Frame:=[topFrame ⟨0,0,0,0⟩]
noncomputable def Ti(w:f6)(os:w2):ay:=⟨boot_heap w.params,#[],boot_drawn,boot_toks,os⟩
noncomputable def Pb:Code->Option (List jW×Ou)|.body b e=>ac (b,e)|_=>aq
theorem LI{c:Code}{b:List jW}{e:Ou}(h:Pb c=ac (b,e)):c=.body b e:=by cases c<;>first|(injection h with h;injection h with h1 h2;subst h1;subst h2;rfl)|(injection h;done)
noncomputable def LJ{α:Type}(look:ay->α)(w:f6)(os:w2):Option (Bool×Flow×Option (List jW×Ou)×α):=(topGo iH pL w 11 (ac (.ref 6)) 12 (Ti w os) (CG pL)).bind fun r1=>(segRunT iH pL w 11 (ac (.ref 6)) 1 4358 (yX r1.1) (piecesOf (dE pL) xz cL ⟨0,0,0,0⟩ fL)).bind fun r2=>(topRun iH pL w 11 (ac (.ref 6)) 2 r2.2.1.abs ⟨doneF .next,r2.2.2.1,r2.2.2.2,fL⟩).map fun s=>(gW r1.1.heap.objs.size 30,r2.1,Pb r2.2.2.1,look s)
noncomputable def De{α:Type}(look:ay->α)(w:f6)(os:w2):Option (Bool×Flow×Option (List jW×Ou)×α):=(Wd gF pL w 11 (ac (.ref 6)) 12 (Ti w os) (CG pL)).bind fun r1=>(Wf gF pL w 11 (ac (.ref 6)) 1 4358 (yX r1.1) (piecesOf (dE pL) xz cL ⟨0,0,0,0⟩ fL)).bind fun r2=>(We gF pL w 11 (ac (.ref 6)) 2 r2.2.1.abs ⟨doneF .next,r2.2.2.1,r2.2.2.2,fL⟩).map fun s=>(gW r1.1.heap.objs.size 30,r2.1,Pb r2.2.2.1,look s)
theorem Pc{α:Type}(look:ay->α):LJ look=De look:=by unfold LJ De;rw[Wh,Wl,Wj,Wi]
theorem QW(w:f6)(s:ay):segRun iH pL w 11 (ac (.ref 6)) 1 1 s (blockOf (dE pL) xz cL ⟨0,0,0,0⟩ fL)=ac (.next,s,cL,⟨0,0,0,0⟩):=rfl
noncomputable def OG:Thread:=⟨denote iH cL,cL,⟨0,0,0,0⟩,fL⟩
theorem Xq:∀w:f6,(fun os=>(topGo iH pL w 11 (ac (.ref 6)) 12 (Ti w os) (CG pL)).map fun x=>x.2)=fun _=>ac OG:=fun w=>by kernel_rfl
theorem Xr(w:f6)(os:w2):(topGo iH pL w 11 (ac (.ref 6)) 12 (Ti w os) (CG pL)).map (fun x=>x.2)=ac OG:=congrFun (Xq w) os
theorem Dd{α:Type}{look:ay->α}{good:α}{w:f6}{os:w2}(h:LJ look w os=ac (ai,.next,ac (dE pL,xz),good)):∃s,topRun iH pL w 11 (ac (.ref 6)) 4373 (Ti w os) (CG pL)=ac s/\look s=good:=by have⟨⟨s1,t1⟩,h1,ht⟩:=aD.mp (Xr w os);unfold LJ at h;rw[h1,tb] at h;have⟨⟨f2,s2,c2,p2⟩,h2,h⟩:=cC.mp h;have⟨s,h3,h⟩:=aD.mp h;simp only[w1] at h;have⟨e2,e3,e4,e5⟩:=h;obtain rfl:c2=cL:=LI e4;obtain rfl:t1=OG:=ht;subst e3;have g:=segRun_of h2;rw[C3 e2] at g;have k:=piece_app (rest:=[]) g (piece_nil h3);rw[bR] at k;exact⟨s,go_top h1 (piece_block (QW w s1) k),e5⟩
noncomputable abbrev UE(p q:gR)(loose:List aV)(Xt:ay->Bool){α:Type}(Yf:ay->α)(H:jl)(s:ay):=((RF (cN p.main.body) H s.heap&&Oi p s.heap&&W4 s&&WZ H s.heap),kQ q loose (cN p.main.body) Xt ai s,Yf s)
theorem GS{p q:gR}{loose:List aV}{Xt:ay->Bool}{α:Type}{Yf:ay->α}{Ya:f6->α}{N M m:Nat}{ann:Option aE}{H:Params->jl}{dr:Drawn}{tk:Nat}(op:∀w:f6,(fencedOpening iH p w N).map (fun s=>(s.heap,s.gens,s.drawn,s.toks))=ac (H w.params,Array.mk [],dr,tk))(z1:∀w:f6,(H w.params).isNs ce=ai)(z2:∀w:f6,(H w.params).objs.size=m)(z3:∀w:f6,(H w.params).nsMap ce "__annotations__" = ann)(hM:M<=N)(run:∀(w:f6)(os:w2),∃s,topRun iH p w m ann M ⟨H w.params,#[],dr,tk,os⟩ (CG p)=ac s/\UE p q loose Xt Yf (H w.params) s=(ai,openGood q loose,Ya w)):LeftO p q loose Xt Yf Ya N ai:=by intro w;have⟨s0,e,e'⟩:=aD.mp (op w);obtain⟨h,gs,d,k,os⟩:=s0;simp only[w1] at e';have⟨a1,a2,a3,a4⟩:=e';subst a1;subst a2;subst a3;subst a4;have⟨s,r,l⟩:=run w os;simp only[w1] at l;have⟨l1,l2,l3⟩:=l;have r:=topRun_mono (N-M) _ _ _ _ r;rw[Nat.add_sub_cancel' hM] at r;unfold openEnds;rw[e];show(topFrom iH p w N _).map _=_;unfold topFrom;dsimp only;rw[z1 w,z2 w,z3 w,r];show Eo _ (match RF (cN p.main.body) (H w.params) s.heap&&Oi p s.heap&&W4 s&&WZ (H w.params) s.heap with|true=>ac s|false=>aq)=_;rw[l1];exact congrArg ac (En l2 l3)
noncomputable abbrev Px(p:gR){α:Type}(Yf:ay->α)(H:jl)(s:ay):=((RF (cN p.main.body) H s.heap&&Oi p s.heap&&W4 s&&WZ H s.heap),Yf s)
theorem I9{q:gR}{loose:List aV}{Xt:ay->Bool}{α:Type}{Yf:ay->α}{Ya:f6->α}{g1 g2 g3 g4}(ra:∀w:f6,(fun os=>De (Px pL Yf (boot_heap w.params)) w os)=fun _=>ac (ai,.next,ac (dE pL,xz),ai,Ya w))(rb:∀w:f6,(fun os=>De (fun s=>((kQ q loose (cN pL.main.body) Xt ai s).1,(kQ q loose (cN pL.main.body) Xt ai s).2.1,(kQ q loose (cN pL.main.body) Xt ai s).2.2.1)) w os)=fun _=>ac (ai,.next,ac (dE pL,xz),g1,g2,g3))(rc:∀w:f6,(fun os=>De (fun s=>(kQ q loose (cN pL.main.body) Xt ai s).2.2.2) w os)=fun _=>ac (ai,.next,ac (dE pL,xz),g4))(hg:openGood q loose=(g1,g2,g3,g4)):LeftO pL q loose Xt Yf Ya 5000 ai:=GS (m:=11) (ann:=ac (.ref 6)) (boot_open (by kernel_rfl) (by kernel_rfl) fun s=>by kernel_rfl) (fun w=>by kernel_rfl) (fun w=>by kernel_rfl) (fun w=>by kernel_rfl) (aj (n:=4373) (by kernel_rfl)) fun w os=>by have a:=ra w;have b:=rb w;have c:=rc w;rw[<-Pc] at a b c;have⟨s,h,e⟩:=Dd (congrFun a os);have⟨s',h',e'⟩:=Dd (congrFun b os);have⟨s'',h'',e''⟩:=Dd (congrFun c os);obtain rfl:s=s':=aB (h.symm.trans h');obtain rfl:s=s'':=aB (h.symm.trans h'');have o:=(En (jF e').1 (En (jF (jF e').2).1 (En (jF (jF e').2).2 e'')):kQ q loose (cN pL.main.body) Xt ai s=(g1,g2,g3,g4)).trans hg.symm;exact⟨s,h,congr (congrArg Prod.mk (jF e).1) (congr (congrArg Prod.mk o) (jF e).2)⟩
theorem Tf:Wc ck=ai:=by kernel_rfl
theorem Th:OpenLaw.wellSaid ck=ai:=(congrFun Wg _).trans Tf
noncomputable def kY:gR:=view pL [0,2,3,5,6,8,9,10,11,12,13,14,15,16,17,18,19,21,22,23,24,25,26,27,28,29,30,31,32,33,34,35,36,37,38,39,40,41,42,43,44,45,47,48,49,50,51,52,53,54,55,56]
noncomputable abbrev oE:List aV:=[aa "PaperError",aa "told_objects"]
noncomputable abbrev Vs:ay->Bool:=fun s=>xlAt kY [] s&&recOk (RowW.records (tc ck).toRowW) s
theorem Te:∀w:f6,(fun os=>De (fun s=>((kQ kY oE (cN pL.main.body) Vs ai s).1,(kQ kY oE (cN pL.main.body) Vs ai s).2.1,(kQ kY oE (cN pL.main.body) Vs ai s).2.2.1)) w os)=fun _=>ac (ai,.next,ac (dE pL,xz),expectedOf kY,bltViewBooted,ai):=fun w=>by kernel_rfl
theorem Td:∀w:f6,(fun os=>De (fun s=>(kQ kY oE (cN pL.main.body) Vs ai s).2.2.2) w os)=fun _=>ac (ai,.next,ac (dE pL,xz),ai,pinGoodD (drecsOf kY),plainGoodE kY (looseW kY oE),plainGoodD kY oE,wideGood kY,clsGoodW kY oE):=fun w=>by kernel_rfl
noncomputable def UX(H:Hook)(said:(tc ck).wellSaid=ai):=fun hl hw=>holds_open (r:=tc ck) (q:=kY) (loose:=oE) (Xt:=Vs) (XP:=XL kY []) (Yf:=Hook.obs H) (Ya:=Hook.val H) (YP:=Hook.says H) (N:=5000) hl (Hook.of H) (Hook.keeps H) (fun s e=>xl_of s (cX.mp e).1) XL.keeps (by rfl) (by rfl) (by rfl) (fun s e=>recFacts_of (cX.mp e).2) (by rfl) said (by decide +kernel) ⟨rfl,rfl,rfl,rfl,rfl,by decide +kernel⟩ hw
local macro_rules | `(tactic| o_head $H) => `(tactic| refine UX $H ‹_› ?hl ?hw ?hc)
noncomputable def hdP:{T:Prop // T->ck.Holds}:=⟨_,fun walk=>by
 w_on;refine holds_law Th fun said=>?_;k_head;case hl=>exact I9 (fun w=>by kernel_rfl) Te Td rfl
 case hw=>w_witness2
 exact walk⟩
variable{E:aE->ay->Prop}{s s':ay}{prog:gR}{w:f6}{A:fR}{pos:xH}{x y:aV}{fd:w8}{env:Ou}{body:List jW}{o:uD}{name:aV}{args:List bZ}{vs:List aE}{a:aW}{α β:Type}
noncomputable abbrev Vw:=aW->Option uD
def Kp(V V':Vw):Prop:=∀a o,V a=ac o->V' a=ac o
theorem Kp.refl(V):Kp V V:=fun zz zz h=>h
theorem Kp.trans(h:Kp V V')(h':Kp V' V''):Kp V V'':=fun a o e=>h' a o (h a o e)
noncomputable def fS(V:Vw)(a:aW)(o:uD):Vw:=fun b=>if b=a then ac o else V b
theorem bT(V a o):fS V a o a=ac o:=by simp[fS]
theorem dC(V o)(h:b≠a):fS V a o b=V b:=by simp[fS,h]
theorem dc(h:V a=aq):Kp V (fS V a o):=fun b x e=>by
 have:b≠a:=fun q=>by subst q;rw[h] at e;injection e
 rw[dC V o this];exact e
inductive DV where
 |raw (v:aE)
 |int (i:Int)
 |str (x:aV)
 |byt (b:Array UInt8)
 |tup (l:List DV)
 |lst (l:List DV)
 |sdic (l:List (aV×DV))
 |idic (l:List (Int×DV))
 |inst (C:aW) (l:List (aV×DV))
 |any
@[reducible] noncomputable def DV.none:DV:=.raw .none
@[reducible] noncomputable def DV.bool(b:Bool):DV:=.raw (.bool b)
@[reducible] noncomputable def DV.ptr(a:aW):DV:=.raw (.ref a)
section
variable (prog : gR) (w : f6)
mutual
noncomputable def Is (V:Vw):DV->aE->Prop|.raw v,u=>u=v/\r5 v=ai|.int i,u=>∃t,u=.int i t|.str x,u=>∃t,u=.str x t|.byt b,u=>∃t,u=.bytes b t|.tup l,u=>∃a o vs n,u=.ref a/\V a=ac o/\o.cls=.type "tuple"/\(o.dict=.none/\o.slots=#[])/\o.data=.seq vs n/\gP V l vs.toList|.lst l,u=>∃a o vs n,u=.ref a/\V a=ac o/\o.cls=.type "list"/\(o.dict=.none/\o.slots=#[])/\o.data=.seq vs n/\gP V l vs.toList|.sdic l,u=>∃a o kvs,u=.ref a/\V a=ac o/\(a==fQ)=ak/\o.IsDictOf (strKind prog w) kvs/\Cy V l kvs|.idic l,u=>∃a o kvs,u=.ref a/\V a=ac o/\(a==fQ)=ak/\o.IsDictOf (H5 prog w) kvs/\CJ V l kvs|.inst C l,u=>∃a dx es n,u=.ref a/\V a=ac (cn C dx)/\V dx=ac (jh es n)/\yE V l es|.any,u=>r5 u=ai
noncomputable def gP (V:Vw):List DV->List aE->Prop|[],vs=>vs=[]|d::r,vs=>∃v rs,vs=v::rs/\Is V d v/\gP V r rs
noncomputable def Cy (V:Vw):List (aV×DV)->List (aV×aE)->Prop|[],vs=>vs=[]|(x,d)::r,vs=>∃v rs,vs=(x,v)::rs/\Is V d v/\Cy V r rs
noncomputable def CJ (V:Vw):List (Int×DV)->List (Int×aE)->Prop|[],vs=>vs=[]|(x,d)::r,vs=>∃v rs,vs=(x,v)::rs/\Is V d v/\CJ V r rs
noncomputable def yE (V:Vw):List (aV×DV)->List mF->Prop|[],vs=>vs=[]|(x,d)::r,vs=>∃e rs,vs=e::rs/\(∃t,e.key=.str x t)/\Is V d e.val/\yE V r rs
end
end
mutual
theorem Is.mono {V V':Vw} (k:Kp V V'):∀{d:DV}{u:aE},Is prog w V d u->Is prog w V' d u
 |.raw _,_,h=>by exact h
 |.int _,_,h=>by exact h
 |.str _,_,h=>by exact h
 |.byt _,_,h=>by exact h
 |.tup l,_,h=>by show Exists _;refine bE h ?_;clear h;intro a o vs n e h1 h2 h3 h4 h5;exact cJ a o vs n e (k _ _ h1) h2 h3 h4 (gP.mono k h5)
 |.lst l,_,h=>by show Exists _;refine bE h ?_;clear h;intro a o vs n e h1 h2 h3 h4 h5;exact cJ a o vs n e (k _ _ h1) h2 h3 h4 (gP.mono k h5)
 |.sdic l,_,h=>by show Exists _;refine bU h ?_;clear h;intro a o kvs e h1 h2 h3 h4;exact c7 a o kvs e (k _ _ h1) h2 h3 (Cy.mono k h4)
 |.idic l,_,h=>by show Exists _;refine bU h ?_;clear h;intro a o kvs e h1 h2 h3 h4;exact c7 a o kvs e (k _ _ h1) h2 h3 (CJ.mono k h4)
 |.inst C l,_,h=>by show Exists _;refine eh h ?_;clear h;intro a dx es n e h1 h2 h3;exact fG a dx es n e (k _ _ h1) (k _ _ h2) (yE.mono k h3)
 |.any,_,h=>by exact h
theorem gP.mono {V V':Vw} (k:Kp V V'):∀{l:List DV}{vs:List aE},gP prog w V l vs->gP prog w V' l vs
 |[],_,h=>by exact h
 |d::r,_,h=>by show Exists _;refine aM h ?_;clear h;intro v rs e h1 h2;exact bO v rs e (Is.mono k h1) (gP.mono k h2)
theorem Cy.mono {V V':Vw} (k:Kp V V'):∀{l:List (aV×DV)}{vs:List (aV×aE)},Cy prog w V l vs->Cy prog w V' l vs
 |[],_,h=>by exact h
 |(x,d)::r,_,h=>by show Exists _;refine aM h ?_;clear h;intro v rs e h1 h2;exact bO v rs e (Is.mono k h1) (Cy.mono k h2)
theorem CJ.mono {V V':Vw} (k:Kp V V'):∀{l:List (Int×DV)}{vs:List (Int×aE)},CJ prog w V l vs->CJ prog w V' l vs
 |[],_,h=>by exact h
 |(x,d)::r,_,h=>by show Exists _;refine aM h ?_;clear h;intro v rs e h1 h2;exact bO v rs e (Is.mono k h1) (CJ.mono k h2)
theorem yE.mono {V V':Vw} (k:Kp V V'):∀{l:List (aV×DV)}{vs:List mF},yE prog w V l vs->yE prog w V' l vs
 |[],_,h=>by exact h
 |(x,d)::r,_,h=>by show Exists _;refine bB h ?_;clear h;intro v rs e h1 h2 h3;exact dw v rs e h1 (Is.mono k h2) (yE.mono k h3)
end
theorem Is.handed:∀{d:DV}{u:aE},Is prog w V d u->r5 u=ai
 |.raw _,_,h=>by rw[h.1];exact h.2
 |.int _,_,h=>by refine aY h ?_;clear h;intro t z1;subst z1;rfl
 |.str _,_,h=>by refine aY h ?_;clear h;intro t z2;subst z2;rfl
 |.byt _,_,h=>by refine aY h ?_;clear h;intro t z3;subst z3;rfl
 |.tup l,_,h=>by refine d5 h ?_;clear h;intro a o vs n z4 _;subst z4;rfl
 |.lst l,_,h=>by refine d5 h ?_;clear h;intro a o vs n z5 _;subst z5;rfl
 |.sdic l,_,h=>by refine fx h ?_;clear h;intro a o vs z6 _;subst z6;rfl
 |.idic l,_,h=>by refine fx h ?_;clear h;intro a o vs z7 _;subst z7;rfl
 |.inst C l,_,h=>by refine d5 h ?_;clear h;intro a o vs n z8 _;subst z8;rfl
 |.any,_,h=>by exact h
theorem aT:Is prog w V (.raw v) u↔u=v/\r5 v=ai:=CZ
theorem bA{i:Int}:Is prog w V (.int i) u↔∃t,u=.int i t:=CZ
theorem ir:Is prog w V (.str i) u↔∃t,u=.str i t:=CZ
theorem be:gP prog w V [] vs↔vs=[]:=CZ
theorem aG:gP prog w V (d::r) vs↔∃v rs,vs=v::rs/\Is prog w V d v/\gP prog w V r rs:=CZ
inductive MO where
 |lst (l:List DV)
 |sdic (l:List (aV×DV))
 |idic (l:List (Int×DV))
 |obj (o:uD)
 |pr (p:uD->Prop)
 |flds (l:List (aV×DV))
 |cell (d:DV)
 |prV (p:Vw->uD->Prop) (mono:∀V V' o,Kp V V'->p V o->p V' o)
def jv(prog:gR)(w:f6)(V h:Vw)(a:aW):MO->Prop|.lst l=>∃o vs n,h a=ac o/\o.cls=.type "list"/\(o.dict=.none/\o.slots=#[])/\o.data=.seq vs n/\gP prog w V l vs.toList|.sdic l=>∃o kvs,h a=ac o/\(a==fQ)=ak/\o.IsDictOf (strKind prog w) kvs/\Cy prog w V l kvs|.idic l=>∃o kvs,h a=ac o/\(a==fQ)=ak/\o.IsDictOf (H5 prog w) kvs/\CJ prog w V l kvs|.obj o=>h a=ac o|.pr p=>∃o,h a=ac o/\p o|.flds l=>∃es n,h a=ac (jh es n)/\yE prog w V l es|.prV p _=>∃o,h a=ac o/\p V o|.cell d=>∃o x,h a=ac o/\o.data=.cell x/\(d≠.any->∃v,x=ac v/\Is prog w V d v)
theorem jv.mono(k:Kp V V')(e:h' a=h a)(z:jv prog w V h a mo):jv prog w V' h' a mo:=by
 cases mo with
 |lst l=>exact bU z fun o vs n h1 h2 h3 h4 h5=>(c7 o vs n (e.trans h1) h2 h3 h4 (h5.mono k))
 |sdic l=>exact bB z fun o kvs h1 h2 h3 h4=>(dw o kvs (e.trans h1) h2 h3 (h4.mono k))
 |idic l=>exact bB z fun o kvs h1 h2 h3 h4=>(dw o kvs (e.trans h1) h2 h3 (h4.mono k))
 |obj o=>exact e.trans z|pr p=>exact ar z fun o h1 h2=>(bq o (e.trans h1) h2)
 |flds l=>exact cY z fun es n h1 h2=>(jP es n (e.trans h1) (h2.mono k))
 |prV p m=>exact ar z fun o h1 h2=>(bq o (e.trans h1) (m _ _ o k h2))
 |cell d=>exact aM z fun o x h1 h2 h3=>(bO o x (e.trans h1) h2 (fun z=>ar (h3 z) fun v a b=>(bq v a (b.mono k))))
theorem jv.at(z:jv prog w V h a mo):∃o,h a=ac o:=by
 cases mo with
 |lst l=>exact sR z fun o _ _ h=>⟨o,h.1⟩
 |sdic l=>exact g7 z fun o _ h=>⟨o,h.1⟩
 |idic l=>exact g7 z fun o _ h=>⟨o,h.1⟩
 |obj o=>exact⟨o,z⟩|pr p=>exact ar z fun o h _=>⟨o,h⟩
 |flds l=>exact cY z fun _ _ h _=>⟨_,h⟩
 |cell d=>exact g7 z fun o _ h=>⟨o,h.1⟩
 |prV p m=>exact ar z fun o h _=>⟨o,h⟩
noncomputable abbrev Mu:=List (aW×MO)
noncomputable abbrev aP:=List (aV×DV)
def ul(s s':ay):Prop:=s'.gens=s.gens/\s'.drawn=s.drawn/\s'.os=s.os
theorem ul.refl(s):ul s s:=(jT rfl rfl rfl)
theorem ul.trans{a b c:ay}(h:ul a b)(k:ul b c):ul a c:=(jT (k.1.trans h.1) (k.2.1.trans h.2.1) (k.2.2.trans h.2.2))
structure Cx where
 prog:gR
 w:f6
 hb:jl
 A:fR
 env:Ou
 L:aW
 V0:Vw
 m0:List aW
 s0:ay
structure Cx.Ok (C:Cx):Prop where
 fn:C.env.scope.kind=.function
 loc:C.env.locals=C.L
 glo:C.env.globals=ce
 bui:C.env.builtins=d9
noncomputable def mZ(A:fR):List aW:=(A.frames.getD []).filterMap (·.frame)
def rQ(F:List aW)(a:aW)(o o':uD):Prop:=(a∉F->o'=o)/\∃sl,o'={o with slots:=sl}
theorem rQ.refl(o):rQ F a o o:=⟨fun zz=>rfl,o.slots,rfl⟩
theorem rQ.trans(h:rQ F a o o')(k:rQ F a o' o''):rQ F a o o'':=by refine Fj h ?_;clear h;intro h1 sl z9;subst z9;refine Fj k ?_;clear k;intro k1 sl' z10;subst z10;exact⟨fun n=>(k1 n).trans (h1 n),sl',rfl⟩
theorem rQ.data(h:rQ F a o o'):o'.data=o.data:=by refine Fj h ?_;clear h;intro _ sl z11;subst z11;rfl
theorem rQ.sub(h:rQ F a o o')(k:a∉F'->a∉F):rQ F' a o o':=⟨fun n=>h.1 (k n),h.2⟩
def Stk(l:List Ou)(m:List aW)(V:Vw)(s:ay):Prop:=∀env∈l,env.scope.kind≠.module/\∃f o,env.frame=ac f/\V f=aq/\f∉m/\s.heap.get? f=ac o/\∀vs,o.data≠.fields vs
def m7(A:fR)(m:List aW)(V:Vw)(s:ay):Prop:=∃l,A.frames=ac l/\Stk l m V s
theorem m7.fro(h:m7 A m V s)(ha:a∈mZ A):V a=aq/\a∉m/\∃o,s.heap.get? a=ac o:=by refine ar h ?_;clear h;intro l hl h;unfold Mine.mZ at ha;rw[hl] at ha;refine ar (cm.mp ha) fun env he hf=>?_;refine gB (h env he) fun zz f o hf' h1 h2 h3 zz=>?_;rw[hf] at hf';(injection hf' with hf';subst hf');exact⟨h1,h2,o,h3⟩
def CL(A:fR)(V:Vw):Prop:=A.handled=aq\/∃e o vs,A.handled=ac (.ref e)/\V e=ac o/\o.data=.fields vs/\vs[2]?=ac .none
theorem CL.mono(k:Kp V V'):CL A V->CL A V':=fun h=>h.imp id fun z12=>eD z12 fun e o vs a b c d=>(eB e o vs a (k _ _ b) c d)
def Cz(C:Cx)(V:Vw)(Y:aP)(m:aV->Option aE):Prop:=∀p∈Y,C.env.kindOf p.1=ac .local/\(p.2≠.any->∃v,m p.1=ac v/\Is C.prog C.w V p.2 v)
structure b9 (C:Cx) (V:Vw) (Y:aP) (Z:Mu) (s:ay):Prop where
 m:∃m,s.heap.Ns C.L m/\Cz C V Y m
 nd:(Y.map (·.1)).Nodup
 mu:∀p∈Z,jv C.prog C.w V s.heap.get? p.1 p.2
 dj:(C.L::Z.map (·.1)).Nodup
 vh:Kp V s.heap.get?
 vL:V C.L=aq
 vm:∀p∈Z,V p.1=aq
 fr:∀a,V a≠aq->C.V0 a≠aq\/C.s0.heap.objs.size<=a
 v0:Kp C.V0 V
 b0:Kp C.hb.get? C.V0
 mf:∀p∈Z,p.1∈C.m0\/C.s0.heap.objs.size<=p.1
 pr:∀a o,a∉C.m0->a≠C.L->C.s0.heap.get? a=ac o->∃o',s.heap.get? a=ac o'/\rQ (mZ C.A) a o o'
 sz:C.s0.heap.objs.size<=s.heap.objs.size
 hk:CL C.A V
 rest:ul C.s0 s
namespace b9
variable {C : Cx} {V : Vw} {Y : aP} {Z : Mu}
theorem base(S:b9 C V Y Z s):∀b o,C.hb.get? b=ac o->s.heap.get? b=ac o:=fun b o e=>S.vh _ _ (S.v0 _ _ (S.b0 _ _ e))
theorem sat_toks(S:b9 C V Y Z s)(t:Nat):b9 C V Y Z {s with toks:=t}:=⟨S.m,S.nd,S.mu,S.dj,S.vh,S.vL,S.vm,S.fr,S.v0,S.b0,S.mf,S.pr,S.sz,S.hk,S.rest⟩
theorem fresh(S:b9 C V Y Z s):V s.heap.objs.size=.none:=by cases q:V s.heap.objs.size with|none=>rfl|some o=>exact absurd (aR (S.vh _ _ q)) (mK _)
theorem muLt(S:b9 C V Y Z s){p:aW×MO}(h:p∈Z):p.1<s.heap.objs.size:=let ⟨_,e⟩:=(S.mu p h).at;aR e
theorem frLt(S:b9 C V Y Z s):C.L<s.heap.objs.size:=let ⟨_,h,_⟩:=S.m;h.lt
theorem envMono{m:aV->Option aE}(k:Kp V V')(e:Cz C V Y m):Cz C V' Y m:=fun p hp=>⟨(e p hp).1,fun h=>let ⟨v,a,b⟩:=(e p hp).2 h;⟨v,a,b.mono k⟩⟩
theorem alloc(S:b9 C V Y Z s)(O:C.Ok)(o)(hf:o.isFreed=ak):b9 C (fS V s.heap.objs.size o) Y Z {s with heap:=s.heap.push o}:=by
 have k:Kp V (fS V s.heap.objs.size o):=dc S.fresh;have g:∀{b:aW}{x:uD},s.heap.get? b=ac x->(s.heap.push o).get? b=ac x:=fun e=>aX _ e;refine ar S.m ?_;(try clear m);intro m hn he;refine⟨(bq m (hn.push o) (envMono k he)),S.nd,fun p hp=>?_,S.dj,fun b x e=>?_,?_,fun p hp=>?_,fun a ha=>?_,S.v0.trans k,S.b0,S.mf,fun a x n l e=>let ⟨o',e',r⟩:=S.pr a x n l e;⟨o',g e',r⟩,by rw[show({s with heap:=s.heap.push o}:ay).heap=s.heap.push o from rfl,bV];exact mA S.sz,S.hk.mono k,S.rest⟩
 .refine aY ((S.mu p hp).at) fun x hx=>?_
  exact(S.mu p hp).mono k ((g hx).trans hx.symm)
 .by_cases q:b=s.heap.objs.size
  .subst q;rw[bT] at e;(injection e with e;subst e);exact aN _ hf
  .rw[dC V o q] at e;exact g (S.vh _ _ e)
 .rw[dC V o (bP S.frLt)];exact S.vL
 .rw[dC V o (bP (S.muLt hp))];exact S.vm p hp
 .by_cases q:a=s.heap.objs.size
  .exact .inr (q▸S.sz)
  .rw[dC V o q] at ha;exact S.fr a ha
theorem allocMu(S:b9 C V Y Z s)(O:C.Ok)(o mo)(hf:o.isFreed=ak)(hm:jv C.prog C.w V (s.heap.push o).get? s.heap.objs.size mo):b9 C V Y ((s.heap.objs.size,mo)::Z) {s with heap:=s.heap.push o}:=by
 have g:∀{b:aW}{x:uD},s.heap.get? b=ac x->(s.heap.push o).get? b=ac x:=fun e=>aX _ e;refine ar S.m ?_;(try clear m);intro m hn he;refine⟨(bq m (hn.push o) he),S.nd,fun p hp=>?_,?_,fun b x e=>g (S.vh _ _ e),S.vL,fun p hp=>?_,S.fr,S.v0,S.b0,fun p hp=>?_,fun a x n l e=>let ⟨o',e',r⟩:=S.pr a x n l e;⟨o',g e',r⟩,by rw[show({s with heap:=s.heap.push o}:ay).heap=s.heap.push o from rfl,bV];exact mA S.sz,S.hk,S.rest⟩
 .rcases ao.mp hp with rfl|hp
  .exact hm
  .refine aY ((S.mu p hp).at) fun x hx=>?_
   exact(S.mu p hp).mono (.refl _) ((g hx).trans hx.symm)
 .have d:=S.dj
  rw[au,av,av];rw[av] at d;refine jT (fun q=>?_) (fun q=>?_) d.2
  .rcases ao.mp q with q|q
   .exact absurd q (bP S.frLt)
   .exact d.1 q
  .refine ar (az.mp q) fun p hp e=>?_
   exact absurd e (bP (S.muLt hp))
 .rcases ao.mp hp with rfl|hp
  .exact S.fresh
  .exact S.vm p hp
 .rcases ao.mp hp with rfl|hp
  .exact .inr S.sz
  .exact S.mf p hp
theorem store(S:b9 C V Y Z s)(O:C.Ok)(hn:h'.Ns C.L m')(hs:nO C.L s.heap h')(he:Cz C V Y' m')(hd:Y'.map (·.1)=Y.map (·.1)):b9 C V Y' Z {s with heap:=h',toks:=t}:=by
 have ne:∀{b:aW}{x:uD},V b=ac x->b≠C.L:=fun e q=>by subst q;rw[S.vL] at e;injection e
 have dj:=S.dj;rw[av] at dj;have nm:∀p∈Z,p.1≠C.L:=fun p hp q=>dj.1 (q▸ax hp);refine⟨(bq m' hn he),hd▸S.nd,fun p hp=>(S.mu p hp).mono (.refl _) (hs.2 _ (nm p hp)),S.dj,fun b x e=>(hs.2 _ (ne e)).trans (S.vh _ _ e),S.vL,S.vm,S.fr,S.v0,S.b0,S.mf,fun a x n l e=>let ⟨o',e',r⟩:=S.pr a x n l e;⟨o',(hs.2 a l).trans e',r⟩,hs.1▸S.sz,S.hk,S.rest⟩
theorem nodup_mid{p:aW×MO}(d:((Z1++p::Z2).map (·.1)).Nodup):(∀q∈Z1,q.1≠p.1)/\(∀q∈Z2,q.1≠p.1):=by rw[aA,au,bC] at d;refine jM d ?_;clear d;intro zz d2 d3;rw[av] at d2;exact⟨fun q hq=>d3 _ (ax hq) _ (.head _),fun q hq e=>d2.1 (e▸ax hq)⟩
theorem turn{mo mo':MO}{Z1 Z2:Mu}(S:b9 C V Y (Z1++(a,mo)::Z2) s){h':jl}{t:Nat}(hs:nO a s.heap h')(hm:jv C.prog C.w V h'.get? a mo'):b9 C V Y (Z1++(a,mo')::Z2) {s with heap:=h',toks:=t}:=by
 have mem:(a,mo)∈Z1++(a,mo)::Z2:=aK _ (.head _);have ne:∀{b:aW}{x:uD},V b=ac x->b≠a:=fun e q=>by subst q;rw[S.vm _ mem] at e;injection e
 have dj:=S.dj;rw[av] at dj;have nLa:C.L≠a:=fun q=>dj.1 (az.mpr (bq _ mem q.symm));refine aZ (nodup_mid dj.2) fun n1 n2=>?_;have mm:∀{p},p∈Z1++(a,mo')::Z2->p=(a,mo')\/(p∈Z1++(a,mo)::Z2/\p.1≠a):=fun {p} hp=>by
  rcases aJ.mp hp with q|q;.exact .inr ⟨bF _ q,n1 p q⟩
  .rcases ao.mp q with q|q
   .exact .inl q
   .exact .inr ⟨aK _ (.tail _ q),n2 p q⟩
 refine ar S.m ?_;(try clear m);intro m hn he;refine fx hn ?_;clear hn;intro oL es ep hL r;refine⟨(bq m (o6 oL es ep ((hs.2 _ nLa).trans hL) r) he),S.nd,fun p hp=>?_,?_,fun b x e=>(hs.2 _ (ne e)).trans (S.vh _ _ e),S.vL,fun p hp=>?_,S.fr,S.v0,S.b0,fun p hp=>?_,fun b x n l e=>?_,hs.1▸S.sz,S.hk,S.rest⟩
 .rcases mm hp with rfl|⟨q,z⟩
  .exact hm
  .exact(S.mu p q).mono (.refl _) (hs.2 _ z)
 .have:(Z1++(a,mo')::Z2).map (·.1)=(Z1++(a,mo)::Z2).map (·.1):=by simp
  rw[this];exact S.dj
 .rcases mm hp with rfl|⟨q,_⟩
  .exact S.vm (a,mo) mem
  .exact S.vm p q
 .rcases mm hp with rfl|⟨q,_⟩
  .exact S.mf (a,mo) mem
  .exact S.mf p q
 .have:b≠a:=fun q=>by
   subst q;rcases S.mf _ mem with z|z;.exact n z
   .exact absurd (aR e) (bu.mpr z)
  refine ar (S.pr b x n l e) fun o' e' r=>?_;exact bq o' ((hs.2 _ this).trans e') r
theorem freeze{Z1 Z2:Mu}(S:b9 C V Y (Z1++(a,mo)::Z2) s)(ha:C.s0.heap.objs.size<=a)(ho:s.heap.get? a=ac o):b9 C (fS V a o) Y (Z1++Z2) s:=by
 have mem:(a,mo)∈Z1++(a,mo)::Z2:=aK _ (.head _);have k:Kp V (fS V a o):=dc (S.vm _ mem);have dj:=S.dj;rw[av] at dj;have nLa:C.L≠a:=fun q=>dj.1 (az.mpr (bq _ mem q.symm));refine aZ (nodup_mid dj.2) fun n1 n2=>?_;have mm:∀{p},p∈Z1++Z2->(p∈Z1++(a,mo)::Z2/\p.1≠a):=fun {p} hp=>by
  rcases aJ.mp hp with q|q;.exact⟨bF _ q,n1 p q⟩
  .exact⟨aK _ (.tail _ q),n2 p q⟩
 refine ar S.m ?_;(try clear m);intro m hn he;refine⟨(bq m hn (envMono k he)),S.nd,fun p hp=>(S.mu p (mm hp).1).mono k rfl,?_,fun b x e=>?_,?_,fun p hp=>?_,fun b hb=>?_,S.v0.trans k,S.b0,fun p hp=>S.mf p (mm hp).1,S.pr,S.sz,S.hk.mono k,S.rest⟩
 .refine av.mpr ⟨fun q=>dj.1 ?_,?_⟩
  .refine ar (az.mp q) fun p hp e=>?_
   exact e▸ax (mm hp).1
  .have d2:=dj.2
   rw[aA,au] at d2;rw[aA];exact d2.sublist (Wq (Wo _) (List.sublist_cons_self _ _))
 .by_cases q:b=a
  .subst q;rw[bT] at e;(injection e with e;subst e);exact ho
  .rw[dC V o q] at e;exact S.vh _ _ e
 .rw[dC V o nLa];exact S.vL
 .rw[dC V o (mm hp).2];exact S.vm p (mm hp).1
 .by_cases q:b=a
  .subst q
   exact .inr ha
  .rw[dC V o q] at hb;exact S.fr b hb
theorem big(S:b9 C V Y (Z1++(a,mo)::Z2) s)(ha:a∉C.m0):C.s0.heap.objs.size<=a:=(S.mf (a,mo) (aK _ (.head _))).resolve_left ha
noncomputable def re(C:Cx)(V:Vw)(Z:Mu)(s:ay):Cx:={C with V0:=V,m0:=Z.map (·.1),s0:=s}
theorem rebase(S:b9 C V Y Z s):b9 (re C V Z s) V Y Z s:=⟨S.m,S.nd,S.mu,S.dj,S.vh,S.vL,S.vm,fun zz h=>.inl h,.refl _,S.b0.trans S.v0,fun zz hp=>.inl (ax hp),fun zz o zz zz e=>(bq o e (.refl o)),aI _,S.hk,.refl s⟩
theorem unbase(S:b9 C V Y Z s)(S':b9 (re C V Z s) V' Y' Z' s'):b9 C V' Y' Z' s':=by
 refine⟨S'.m,S'.nd,S'.mu,S'.dj,S'.vh,S'.vL,S'.vm,fun a ha=>?_,S.v0.trans S'.v0,S.b0,fun p hp=>?_,fun a x n l e=>?_,ae S.sz S'.sz,S'.hk,S.rest.trans S'.rest⟩
 .rcases S'.fr a ha with z|z
  .exact S.fr a z
  .exact .inr (ae S.sz z)
 .rcases S'.mf p hp with z|z
  .refine ar (az.mp z) fun q hq e=>?_
   exact e▸S.mf q hq
  .exact .inr (ae S.sz z)
 .refine ar (S.pr a x n l e) fun o' e' r=>?_
  suffices a∉Z.map (·.1) by refine ar (S'.pr a o' this l e') fun o'' e'' r'=>?_;exact bq o'' e'' (r.trans r')
  intro z;refine ar (az.mp z) fun q hq e'=>?_;subst e';rcases S.mf q hq with z|z;.exact n z
  .exact absurd (aR e) (bu.mpr z)
theorem drop(S:b9 C V Y (p::Z) s):b9 C V Y Z s:=⟨S.m,S.nd,fun q hq=>S.mu q (.tail _ hq),(av.mpr ⟨fun h=>(av.mp S.dj).1 (.tail _ h),(av.mp (av.mp S.dj).2).2⟩),S.vh,S.vL,fun q hq=>S.vm q (.tail _ hq),S.fr,S.v0,S.b0,fun q hq=>S.mf q (.tail _ hq),S.pr,S.sz,S.hk,S.rest⟩
end b9
variable {Y Y' Y0 Y1:aP} {Z Z' Z0 Z1:Mu} {V V':Vw} {ds:List DV} {gs:List (aV×DV)} {mo:MO} {Q:DV->aP->Mu->Prop} {R:DV->Mu->Prop}
noncomputable def UY:uD:={cls:=.none,data:=.freed}
noncomputable def q6(h:jl)(S:List aW):jl:={h with objs:=Array.ofFn (n:=h.objs.size) fun i=>if S.contains i.val then h.objs[i] else UY}
noncomputable abbrev t9:RowW:=(tc ck).toRowW
structure G0 where
 prog:gR
 w:f6
 hb:jl
 mg:aV->Option aE
 mb:aV->Option aE
noncomputable def G0.K(G:G0):Ot:=hdP.heap_1 G.w.params
def Cw(G:G0):Prop:=∀q loose R XP s_0 s_1(Gr:Ground q loose R XP G.w s_0 G.mg G.mb s_1.heap)
  (KX:(hdP.heap_1 G.w.params).In s_1.heap) (hT8:∀P∈[607,614],s_1.heap.get? P=ac (tabObj #[])) (a:aW) (hmg:G.mg (aa "law")=ac (.ref a)) (hg:s_1.gens=#[]) (args:List WData) (vals:List aE) (hpre:t9.claim.pre args=ai) (hwl:WellAll G.w.params s_1.heap vals args)
  (gp:G.prog=t9.prog) (gh:G.hb=q6 s_1.heap (0::4::(hdP.heap_1 G.w.params).map (·.1))),
  bd (bf t9.prog G.w) callerA (RN (.ref a) vals) (fun v s'=>Xc t9.claim (Rn s_0.heap) (pX s_0.heap) args s_1 (.ok (.ret v)) s') (fun e s'=>Xc t9.claim (Rn s_0.heap) (pX s_0.heap) args s_1 (.error e) s') s_1
theorem neG:Nonempty G0:=⟨⟨t9.prog,⟨fun _ _=>0,{strHash:=fun _=>0,shareClass:=fun _=>0,mergeTok:=id,idOf:=fun _=>0,idOfShared:=fun _ _=>0,followText:=fun _=>ak,idOfImm:=fun _=>0}⟩,{},fun _=>aq,fun _=>aq⟩⟩
noncomputable def G:G0:=@aG' G0 neG fun G=>¬Cw G
theorem G2(h:Cw G)(G'):Cw G':=aH' fun n=>aF' (p:=fun G=>¬Cw G) ⟨G',n⟩ h
structure G0.Ok (G:G0):Prop where
 kin:G.K.In G.hb
 lim:G.hb.NoLimit
 g:G.hb.Ns ce G.mg
 b:G.hb.Ns d9 G.mb
 mb:∀x:aV,x≠"__name__"->G.mb x=Ia x
def qJ(A:fR)(k:Nat):Prop:=A.depth+4*k<900/\A.units+20*k<9000
structure Eh (G:G0) (V:Vw) (Z:Mu) (s:ay):Prop where
 b0:Kp G.hb.get? V
 vh:Kp V s.heap.get?
 mu:∀p∈Z,jv G.prog G.w V s.heap.get? p.1 p.2
 nd:(Z.map (·.1)).Nodup
 vm:∀p∈Z,V p.1=aq
structure AG (G:G0) (A:fR) (V:Vw) (Z:Mu) (s:ay) (V':Vw) (Z':Mu) (s':ay):Prop where
 v0:Kp V V'
 vh:Kp V' s'.heap.get?
 fr:∀a,V' a≠aq->V a≠aq\/s.heap.objs.size<=a
 mu:∀p∈Z',jv G.prog G.w V' s'.heap.get? p.1 p.2
 as:Z'.map (·.1)=Z.map (·.1)
 vm:∀p∈Z',V' p.1=aq
 pr:∀a o,a∉Z.map (·.1)->s.heap.get? a=ac o->∃o',s'.heap.get? a=ac o'/\rQ (mZ A) a o o'
 sz:s.heap.objs.size<=s'.heap.objs.size
 rest:ul s s'
def o8(Q E:aE->ay->Prop):yL->ay->Prop:=fun r s'=>match r with|.ok (.ret v)=>Q v s'|.ok _=>False|.error e=>E e s'
theorem o8.mono{Q Q':aE->ay->Prop}(hQ:∀v s,Q v s->Q' v s)(hE:∀v s,E v s->E' v s):∀r s,o8 Q E r s->o8 Q' E' r s:=fun r s h=>by rcases r with e|(v|_|_|_)<;>first|exact hE _ _ h|exact hQ _ _ h|exact h
def gj(G:G0)(hd:Bool)(k:Nat)(f:aE)(ds:List DV)(Z:Mu)(R:DV->Mu->Prop)(E:fR->Vw->ay->aE->ay->Prop):Prop:=∀A V s vs,qJ A k->(hd=ak->A.handled=aq)->CL A V->m7 A (Z.map (·.1)) V s->Eh G V Z s->gP G.prog G.w V ds vs->fJ (bf G.prog G.w) A (.call f ⟨vs,[]⟩) (o8 (fun r s'=>∃d Z' V',AG G A V Z s V' Z' s'/\Is G.prog G.w V' d r/\R d Z') (E A V s)) s
abbrev iz(G:G0)(k:Nat)(f:aE)(ds:List DV)(Z:Mu)(R:DV->Mu->Prop):Prop:=gj G ak k f ds Z R (fun zz zz zz zz zz=>False)
abbrev g8(G:G0)(k:Nat)(f:aE)(ds:List DV)(Z:Mu)(R:DV->Mu->Prop):Prop:=gj G ai k f ds Z R (fun zz zz zz zz zz=>False)
structure Bx where
 A:fR
 env:Ou
 L:aW
 V0:Vw
 m0:List aW
 s0:ay
 k:Nat
 hd:Bool
noncomputable def cx(G:G0)(B:Bx):Cx:=⟨G.prog,G.w,G.hb,B.A,B.env,B.L,B.V0,B.m0,B.s0⟩
structure Bx.Ok (G:G0) (B:Bx):Prop where
 g:G.Ok
 c:(cx G B).Ok
 room:qJ B.A B.k
 calm:B.hd=ak->B.A.handled=aq
 stk:∃l,B.A.frames=ac l/\∀env∈l,env.scope.kind≠.module/\∃f,env.frame=ac f/\(f=B.L\/(B.V0 f=aq/\f∉B.m0/\∃o,B.s0.heap.get? f=ac o/\∀vs,o.data≠.fields vs))
inductive Fl where
 |next|brk|cont|ret (d:DV)
def wL(prog:gR)(w:f6)(V:Vw):Fl->Flow->Prop|.next,f=>f=.next|.brk,f=>f=.brk|.cont,f=>f=.cont|.ret d,f=>∃v,f=.ret v/\Is prog w V d v
inductive qP {α β:Type} (G:G0) (B:Bx) (rel:Vw->β->α->Prop) (V:Vw) (Q:β->aP->Mu->Prop) (v:α) (s':ay):Prop
 |mk (d:β) (Y':aP) (Z':Mu) (V':Vw):b9 (cx G B) V' Y' Z' s'->Kp V V'->rel V' d v->Q d Y' Z'->qP G B rel V Q v s'
def WP{α β:Type}(G:G0)(B:Bx)(E:aE->ay->Prop)(rel:Vw->β->α->Prop)(t:HN α)(Y:aP)(Z:Mu)(Q:β->aP->Mu->Prop):Prop:=∀V s,b9 (cx G B) V Y Z s->bd (bf G.prog G.w) B.A t (qP G B rel V Q) E s
abbrev EV(G:G0)(B:Bx)(E:aE->ay->Prop)(t:HN aE)(Y:aP)(Z:Mu)(Q:DV->aP->Mu->Prop):Prop:=WP G B E (Is G.prog G.w) t Y Z Q
abbrev EL(G:G0)(B:Bx)(E:aE->ay->Prop)(t:HN (List aE))(Y:aP)(Z:Mu)(Q:List DV->aP->Mu->Prop):Prop:=WP G B E (gP G.prog G.w) t Y Z Q
abbrev EB(G:G0)(B:Bx)(E:aE->ay->Prop)(t:HN Bool)(Y:aP)(Z:Mu)(Q:Bool->aP->Mu->Prop):Prop:=WP G B E (fun zz a b=>a=b) t Y Z Q
abbrev EX(G:G0)(B:Bx)(E:aE->ay->Prop)(t:HN Flow)(Y:aP)(Z:Mu)(Q:Fl->aP->Mu->Prop):Prop:=WP G B E (wL G.prog G.w) t Y Z Q
def O1(G:G0)(B:Bx)(E:aE->ay->Prop)(rel:Vw->β->α->Prop)(t:aE->HN α)(a:DV)(Y:aP)(Z:Mu)(Q:β->aP->Mu->Prop):Prop:=∀V s va,b9 (cx G B) V Y Z s->Is G.prog G.w V a va->bd (bf G.prog G.w) B.A (t va) (qP G B rel V Q) E s
def O2(G:G0)(B:Bx)(E:aE->ay->Prop)(rel:Vw->β->α->Prop)(t:aE->aE->HN α)(a b:DV)(Y:aP)(Z:Mu)(Q:β->aP->Mu->Prop):Prop:=∀V s va vb,b9 (cx G B) V Y Z s->Is G.prog G.w V a va->Is G.prog G.w V b vb->bd (bf G.prog G.w) B.A (t va vb) (qP G B rel V Q) E s
def OL(G:G0)(B:Bx)(E:aE->ay->Prop)(rel:Vw->β->α->Prop)(t:List aE->HN α)(a:List DV)(Y:aP)(Z:Mu)(Q:β->aP->Mu->Prop):Prop:=∀V s va,b9 (cx G B) V Y Z s->gP G.prog G.w V a va->bd (bf G.prog G.w) B.A (t va) (qP G B rel V Q) E s
theorem iK{Q:β->aP->Mu->Prop}{C:Prop}(h:qP G B rel V Q v s')(k:∀d Y' Z' V',b9 (cx G B) V' Y' Z' s'->Kp V V'->rel V' d v->Q d Y' Z'->C):C:=qP.casesOn h k
theorem qP.up{Q:β->aP->Mu->Prop}(k:Kp V V_1)(h:qP G B rel V_1 Q v s'):qP G B rel V Q v s':=iK h fun d Y' Z' V' S' k' i' q=>⟨d,Y',Z',V',S',k.trans k',i',q⟩
theorem WP.use{Q:β->aP->Mu->Prop}{R:α->ay->Prop}(h:WP G B E rel t Y Z Q)(S:b9 (cx G B) V Y Z s)(k:∀v s' d Y' Z' V',b9 (cx G B) V' Y' Z' s'->Kp V V'->rel V' d v->Q d Y' Z'->R v s'):bd (bf G.prog G.w) B.A t R E s:=aQ (h V s S) (fun v s' z=>iK z (k v s')) fun zz zz x=>x
abbrev VE(G:G0)(B:Bx)(E:aE->ay->Prop)(rest:List jW)(Q:Fl->aP->Mu->Prop):Fl->aP->Mu->Prop:=fun f Y' Z'=>match f with|.next=>EX G B E (eG rest B.env) Y' Z' Q|f=>Q f Y' Z'
abbrev Zx(Q:Fl->aP->Mu->Prop):DV->aP->Mu->Prop:=fun d Y' Z'=>Q (.ret d) Y' Z'
abbrev OpR(G:G0)(B:Bx)(E:aE->ay->Prop)(t:aE->aE->HN aE)(a:DV)(Q:DV->aP->Mu->Prop):DV->aP->Mu->Prop:=fun b Y2 Z2=>O2 G B E (Is G.prog G.w) t a b Y2 Z2 Q
abbrev Ry(G:G0)(B:Bx)(E:aE->ay->Prop)(r:bZ)(t:aE->aE->HN aE)(Q:DV->aP->Mu->Prop):DV->aP->Mu->Prop:=fun a Y1 Z1=>EV G B E (a9 r B.env) Y1 Z1 (OpR G B E t a Q)
abbrev ZE(Q:Bool->aP->Mu->Prop):Bool->aP->Mu->Prop:=fun b Y' Z'=>Q (!b) Y' Z'
abbrev VO(d:DV)(Q:List DV->aP->Mu->Prop):List DV->aP->Mu->Prop:=fun ds Y' Z'=>Q (d::ds) Y' Z'
abbrev VP(G:G0)(B:Bx)(E:aE->ay->Prop)(pos:xH)(rest:List bZ)(Q:List DV->aP->Mu->Prop):DV->aP->Mu->Prop:=fun d Y1 Z1=>EL G B E (dB (cy pos (br rest B.env))) Y1 Z1 (VO d Q)
section
variable {B : Bx}
theorem WP.mono{Q Q':β->aP->Mu->Prop}(h:WP G B E rel t Y Z Q)(q:∀d Y' Z',Q d Y' Z'->Q' d Y' Z'):WP G B E rel t Y Z Q':=fun V s S=>WP.use h S (fun zz zz d Y' Z' V' a b c e=>⟨d,Y',Z',V',a,b,c,q _ _ _ e⟩)
theorem WP.exc{Q:β->aP->Mu->Prop}(h:WP G B E' rel t Y Z Q)(q:∀e s,E' e s->E e s):WP G B E rel t Y Z Q:=fun V s S=>aQ (h V s S) (fun zz zz x=>x) q
inductive CK {α:Type}:List (aV×α)->aV->α->Prop
 |head {x d r}:CK ((x,d)::r) x d
 |tail {p r x d}:CK r x d->CK (p::r) x d
theorem CK.mem(h:CK l x d):(x,d)∈l:=by induction h with|head=>exact .head _|tail _ ih=>exact .tail _ ih
inductive pK:aP->aV->DV->aP->Prop
 |head {x d d' r}:pK ((x,d)::r) x d' ((x,d')::r)
 |tail {p r x d r'}:pK r x d r'->pK (p::r) x d (p::r')
theorem pK.keys{l l':aP}(h:pK l x d l'):l'.map (·.1)=l.map (·.1):=by induction h with|head=>rfl|tail _ ih=>simp[ih]
theorem pK.has(h:pK l x d l'):∃d_0,(x,d_0)∈l:=by induction h with|head=>exact⟨_,.head _⟩|tail _ ih=>refine aY ih ?_;clear ih;intro d_0 h;exact⟨d_0,.tail _ h⟩
theorem pK.mem(h:pK l x d l')(nd:(l.map (·.1)).Nodup):∀p∈l',p=(x,d)\/(p∈l/\p.1≠x):=by
 induction h with
 |@head y d_0 d' r=>
  intro p hp;rw[au,av] at nd;rcases ao.mp hp with rfl|hp;.exact .inl rfl
  .exact .inr ⟨.tail _ hp,fun e=>nd.1 (az.mpr (bq p hp e))⟩
 |@tail q r y d' r' h ih=>
  intro p hp;rw[au,av] at nd;rcases ao.mp hp with rfl|hp
  .refine .inr ⟨.head _,fun e=>nd.1 ?_⟩
   refine aY h.has fun d_0 hm=>?_;have:=ax (f:=(·.1)) hm;rw[e];exact this
  .rcases ih nd.2 p hp with z|⟨z,n⟩
   .exact .inl z
   .exact .inr ⟨.tail _ z,n⟩
theorem ML(O:B.Ok G)(h:CK Y x d)(hd:(x==("__debug__" : aV))=ak)(ha:d≠.any)(q:Q d Y Z):EV G B E (a9 (.Name x pos) B.env) Y Z Q:=by intro V s S;refine ar S.m ?_;(try clear m);intro m hn he;refine aZ (he _ h.mem) fun hk hv=>?_;refine ar (hv ha) ?_;clear hv;intro v hv hi;exact Oe (wpAny_loadName_local O.c.fn hk (by rw[show B.env.locals=B.L from O.c.loc];exact hn) hv ⟨d,Y,Z,V,S,.refl _,hi,q⟩) hd
def Ei(G:G0)(x:aV)(v:aE):Prop:=G.mg x=ac v\/(G.mg x=aq/\x≠"__name__"/\Ia x=ac v)
theorem JB(O:B.Ok G)(h:Ei G x v)(hx:B.env.kindOf x=ac .globalImplicit)(hd:(x==("__debug__" : aV))=ak)(S:b9 (cx G B) V Y Z s)(fin:P v s):bd (bf G.prog G.w) B.A (a9 (.Name x pos) B.env) P E s:=by
 have k:=S.base;refine La O.c.fn hx ?_ hd;have eg:B.env.globals=ce:=O.c.glo;have eb:B.env.builtins=d9:=O.c.bui;rcases h with h|⟨h,hn,hb⟩;.exact Rj (by rw[eg];exact O.g.g.keeps k) h fin
 .exact Oj (by rw[eg];exact O.g.g.keeps k) h (by rw[eb];exact O.g.b.keeps k) ((O.g.mb x hn).trans hb) fin
theorem MM(O:B.Ok G)(h:Ei G x v)(hx:B.env.kindOf x=ac .globalImplicit)(hd:(x==("__debug__" : aV))=ak)(hi:Is G.prog G.w G.hb.get? d v)(q:Q d Y Z):EV G B E (a9 (.Name x pos) B.env) Y Z Q:=by
 intro V s S;have k:=S.base;refine La O.c.fn hx ?_ hd;have fin:qP G B (Is G.prog G.w) V Q v s:=⟨d,Y,Z,V,S,.refl _,hi.mono (S.b0.trans S.v0),q⟩
 have eg:B.env.globals=ce:=O.c.glo;have eb:B.env.builtins=d9:=O.c.bui;rcases h with h|⟨h,hn,hb⟩;.exact Rj (by rw[eg];exact O.g.g.keeps k) h fin
 .exact Oj (by rw[eg];exact O.g.g.keeps k) h (by rw[eb];exact O.g.b.keeps k) ((O.g.mb x hn).trans hb) fin
theorem MJ(q:Q .none Y Z):EV G B E (a9 (.Constant .none k pos) env) Y Z Q:=fun V s S=>wpAny_Constant_none ⟨_,Y,Z,V,S,.refl _,(aT.mpr ⟨rfl,rfl⟩),q⟩
theorem MQ(q:Q (.bool b) Y Z):EV G B E (a9 (.Constant (.bool b) k pos) env) Y Z Q:=fun V s S=>wpAny_Constant_bool ⟨_,Y,Z,V,S,.refl _,(aT.mpr ⟨rfl,rfl⟩),q⟩
theorem JP{i:Int}(q:Q (.int i) Y Z):EV G B E (a9 (.Constant (.int i) k pos) env) Y Z Q:=fun V s S=>wpAny_Constant_int ⟨_,Y,Z,V,S.sat_toks _,.refl _,(by show Exists _;exact⟨_,rfl⟩),q⟩
theorem JN(q:Q (.str x) Y Z):EV G B E (a9 (.Constant (.str x) k pos) env) Y Z Q:=fun V s S=>wpAny_Constant_str ⟨_,Y,Z,V,S.sat_toks _,.refl _,(by show Exists _;exact⟨_,rfl⟩),q⟩
theorem JT(h:EV G B E (a9 l B.env) Y Z (Ry G B E r (fK op) Q)):EV G B E (a9 (.BinOp l op r pos) B.env) Y Z Q:=by intro V s S;refine wpAny_BinOp (WP.use h S (fun a s_1 da Y1 Z1 V_1 S_1 k_1 i_1 h₁=>?_));refine WP.use h₁ S_1 (fun b s_2 db Y2 Z2 V_2 S_2 k_2 i_2 h_2=>?_);exact aQ (h_2 V_2 s_2 a b S_2 (i_1.mono k_2) i_2) (fun zz zz=>qP.up (k_1.trans k_2)) fun zz zz x=>x
theorem QK(h:EV G B E (a9 l B.env) Y Z (Ry G B E r (bi op) Q))(hm:nX op r=ak):EV G B E (a9 (.Compare l [op] [r] pos) B.env) Y Z Q:=by intro V s S;refine wpAny_Compare1 (WP.use h S (fun a s_1 da Y1 Z1 V_1 S_1 k_1 i_1 h₁=>?_)) hm;refine WP.use h₁ S_1 (fun b s_2 db Y2 Z2 V_2 S_2 k_2 i_2 h_2=>?_);exact aQ (h_2 V_2 s_2 a b S_2 (i_1.mono k_2) i_2) (fun zz zz=>qP.up (k_1.trans k_2)) fun zz zz x=>x
noncomputable def tL:DV->Option Bool|.raw .none=>ac ak|.raw (.bool b)=>ac b|_=>aq
theorem pe{Q:Bool->ay->Prop}(h:Is G.prog G.w V d v)(e:tL d=ac b)(q:Q b s):bd (bf G.prog G.w) A (truthy v) Q E s:=by
 cases d with
 |raw u=>refine aZ (aT.mp h) fun z _=>?_;subst z;cases v with|none=>(injection e with e;subst e);exact aH q|bool c=>(injection e with e;subst e);exact wpAny_truthy_bool q|_=>injection e
 |_=>injection e
theorem QP{x:bZ}{Q:Bool->aP->Mu->Prop}(h:EB G B E (isTrue x B.env (a9 x B.env)) Y Z (ZE Q)):EB G B E (isTrue (.UnaryOp .Not x pos) B.env whole) Y Z Q:=by intro V s S;exact wpAny_isTrue_Not (WP.use h S (fun b s_1 b' Y1 Z1 V_1 S_1 k_1 i_1 q=>⟨!b',Y1,Z1,V_1,S_1,k_1,by rw[i_1],q⟩))
theorem Hq{Q:Bool->aP->Mu->Prop}(h:EB G B E (jc op xs B.env) Y Z Q):EB G B E (isTrue (.BoolOp op xs pos) B.env whole) Y Z Q:=fun V s S=>wpAny_isTrue_BoolOp (h V s S)
theorem Ct{Q:Bool->aP->Mu->Prop}(q:Q ai Y Z):EB G B E (jc .And [] B.env) Y Z Q:=fun V s S=>wpAny_allTrue_And_nil ⟨_,Y,Z,V,S,.refl _,rfl,q⟩
theorem Ee{Q:Bool->aP->Mu->Prop}(q:Q ak Y Z):EB G B E (jc .Or [] B.env) Y Z Q:=fun V s S=>wpAny_allTrue_Or_nil ⟨_,Y,Z,V,S,.refl _,rfl,q⟩
theorem AC{x:bZ}{Q:Bool->aP->Mu->Prop}(h:EB G B E (isTrue x B.env (a9 x B.env)) Y Z fun b Y' Z'=>(b=ak->Q ak Y' Z')/\(b=ai->EB G B E (jc .And rest B.env) Y' Z' Q)):EB G B E (jc .And (x::rest) B.env) Y Z Q:=by intro V s S;refine ah (WP.use h S (fun b s_1 b' Y1 Z1 V_1 S_1 k_1 i_1 z18=>aZ z18 fun q1 q2=>?_));subst i_1;cases b' with|false=>exact aH ⟨ak,Y1,Z1,V_1,S_1,k_1,rfl,q1 rfl⟩|true=>exact aQ (q2 rfl V_1 s_1 S_1) (fun zz zz=>qP.up k_1) fun zz zz x=>x
theorem Cs{x:bZ}{Q:Bool->aP->Mu->Prop}(h:EB G B E (isTrue x B.env (a9 x B.env)) Y Z fun b Y' Z'=>(b=ai->Q ai Y' Z')/\(b=ak->EB G B E (jc .Or rest B.env) Y' Z' Q)):EB G B E (jc .Or (x::rest) B.env) Y Z Q:=by intro V s S;refine ah (WP.use h S (fun b s_1 b' Y1 Z1 V_1 S_1 k_1 i_1 z21=>aZ z21 fun q1 q2=>?_));subst i_1;cases b' with|true=>exact aH ⟨ai,Y1,Z1,V_1,S_1,k_1,rfl,q1 rfl⟩|false=>exact aQ (q2 rfl V_1 s_1 S_1) (fun zz zz=>qP.up k_1) fun zz zz x=>x
theorem JQ{t b o:bZ}(h:EB G B E (isTrue t B.env (a9 t B.env)) Y Z fun c Y' Z'=>(c=ai->EV G B E (a9 b B.env) Y' Z' Q)/\(c=ak->EV G B E (a9 o B.env) Y' Z' Q)):EV G B E (a9 (.IfExp t b o pos) B.env) Y Z Q:=by
 intro V s S;refine wpAny_IfExp (WP.use h S (fun c s_1 c' Y1 Z1 V_1 S_1 k_1 i_1 z24=>aZ z24 fun q1 q2=>?_));subst i_1;cases c' with
 |true=>exact aQ (q1 rfl V_1 s_1 S_1) (fun zz zz=>qP.up k_1) fun zz zz x=>x
 |false=>exact aQ (q2 rfl V_1 s_1 S_1) (fun zz zz=>qP.up k_1) fun zz zz x=>x
theorem WP.step{rel':Vw->β'->α'->Prop}{Q:β->aP->Mu->Prop}(k_1:Kp V V_1)(h:WP G B E rel t Y1 Z1 Q)(S_1:b9 (cx G B) V_1 Y1 Z1 s_1):bd (bf G.prog G.w) B.A t (qP G B rel V Q) E s_1:=aQ (h V_1 s_1 S_1) (fun zz zz=>qP.up k_1) fun zz zz x=>x
theorem MT{x y:bZ}(h:EV G B E (a9 x B.env) Y Z fun a Y' Z'=>∃c,tL a=ac c/\(c=ak->Q a Y' Z')/\(c=ai->EV G B E (a9 y B.env) Y' Z' Q)):EV G B E (a9 (.BoolOp .And [x,y] pos) B.env) Y Z Q:=by intro V s S;refine wpAny_And2 (WP.use h S (fun v s_1 a Y1 Z1 V_1 S_1 k_1 i_1 z29=>bp z29 fun c hc q1 q2=>?_));refine pe i_1 hc ?_;cases c with|true=>exact WP.step (rel':=Is G.prog G.w) k_1 (q2 rfl) S_1|false=>exact⟨a,Y1,Z1,V_1,S_1,k_1,i_1,q1 rfl⟩
theorem QI{x y:bZ}(h:EV G B E (a9 x B.env) Y Z fun a Y' Z'=>∃c,tL a=ac c/\(c=ai->Q a Y' Z')/\(c=ak->EV G B E (a9 y B.env) Y' Z' Q)):EV G B E (a9 (.BoolOp .Or [x,y] pos) B.env) Y Z Q:=by intro V s S;refine wpAny_Or2 (WP.use h S (fun v s_1 a Y1 Z1 V_1 S_1 k_1 i_1 z31=>bp z31 fun c hc q1 q2=>?_));refine pe i_1 hc ?_;cases c with|false=>exact WP.step (rel':=Is G.prog G.w) k_1 (q2 rfl) S_1|true=>exact⟨a,Y1,Z1,V_1,S_1,k_1,i_1,q1 rfl⟩
theorem An{Q:Fl->aP->Mu->Prop}(q:Q .next Y Z):EX G B E (eG [] B.env) Y Z Q:=fun V s S=>ja ⟨.next,Y,Z,V,S,.refl _,rfl,q⟩
theorem g6{st:jW}{Q:Fl->aP->Mu->Prop}(h:EX G B E (fc st B.env) Y Z (VE G B E rest Q)):EX G B E (eG (st::rest) B.env) Y Z Q:=by
 intro V s S;refine RB (WP.use h S (fun f s_1 a Y1 Z1 V_1 S_1 k_1 i_1 q=>?_));cases a with
 |next=>obtain rfl:f=.next:=i_1;exact WP.step (rel':=wL G.prog G.w) k_1 q S_1
 |brk=>obtain rfl:f=.brk:=i_1;exact⟨.brk,Y1,Z1,V_1,S_1,k_1,rfl,q⟩
 |cont=>obtain rfl:f=.cont:=i_1;exact⟨.cont,Y1,Z1,V_1,S_1,k_1,rfl,q⟩
 |ret d=>refine ar i_1 ?_;clear i_1;intro v z33 hv;subst z33;exact⟨.ret d,Y1,Z1,V_1,S_1,k_1,(bq v rfl hv),q⟩
theorem Hg{Q:Fl->aP->Mu->Prop}(h:EV G B E (a9 e B.env) Y Z (Zx Q)):EX G B E (fc (.Return (ac e) pos) B.env) Y Z Q:=fun V s S=>wpAny_Return_some (WP.use h S (fun v s_1 d Y1 Z1 V_1 S_1 k_1 i_1 q=>⟨.ret d,Y1,Z1,V_1,S_1,k_1,(bq v rfl i_1),q⟩))
theorem U3{b o:List jW}{Q:Fl->aP->Mu->Prop}(h:EB G B E (isTrue t B.env (a9 t B.env)) Y Z fun c Y' Z'=>(c=ai->EX G B E (eG b B.env) Y' Z' Q)/\(c=ak->EX G B E (eG o B.env) Y' Z' Q)):EX G B E (fc (.If t b o pos) B.env) Y Z Q:=by intro V s S;refine wpAny_If (WP.use h S (fun c s_1 c' Y1 Z1 V_1 S_1 k_1 i_1 z36=>aZ z36 fun q1 q2=>?_));subst i_1;cases c' with|true=>exact WP.step (rel':=wL G.prog G.w) k_1 (q1 rfl) S_1|false=>exact WP.step (rel':=wL G.prog G.w) k_1 (q2 rfl) S_1
theorem JL{Q:Fl->aP->Mu->Prop}(q:Q .brk Y Z):EX G B E (fc (.Break pos) B.env) Y Z Q:=fun V s S=>wpAny_Break ⟨.brk,Y,Z,V,S,.refl _,rfl,q⟩
theorem ME{Q:Fl->aP->Mu->Prop}(q:Q .next Y Z):EX G B E (fc (.Pass pos) B.env) Y Z Q:=fun V s S=>wpAny_Pass ⟨.next,Y,Z,V,S,.refl _,rfl,q⟩
theorem gK{Q:Unit->ay->Prop}(O:B.Ok G)(S:b9 (cx G B) V Y Z s)(hi:Is G.prog G.w V d v)(hp:pK Y x d Y')(q:∀s',b9 (cx G B) V Y' Z s'->Q () s'):bd (bf G.prog G.w) B.A (storeName B.env x v) Q E s:=by
 refine ar S.m ?_;(try clear m);intro m hn he;refine aY hp.has fun d_0 h0=>?_;have hl:B.env.locals=B.L:=O.c.loc;refine wpAny_storeName_local (he _ h0).1 (by rw[hl];exact hn) (fun h' hn' hs=>?_) (by have:=O.c.fn;show(B.env.scope.kind==.class||(B.env.scope.kind==.module&&_))=ak;rw[show B.env.scope.kind=.function from this];rfl);rw[hl] at hn' hs;refine q _ (S.store O.c hn' hs (fun p hp'=>?_) hp.keys);rcases hp.mem S.nd p hp' with rfl|⟨hm,hne⟩;.exact⟨(he _ h0).1,fun zz=>(bq v (by simp) hi)⟩
 .refine⟨(he p hm).1,fun h=>?_⟩
  refine ar ((he p hm).2 h) fun u hu iu=>?_;exact bq u (by rw[if_neg hne];exact hu) iu
theorem Hh{Q:Fl->aP->Mu->Prop}(O:B.Ok G)(h:EV G B E (a9 e B.env) Y Z fun d Y' Z'=>∃Y'',pK Y' x d Y''/\Q .next Y'' Z')(hs:gO e (ac (.Name x xp)) pos.line B.env=pure ak):EX G B E (fc (.Assign [.Name x xp] e pos) B.env) Y Z Q:=by intro V s S;refine Rg (WP.use h S (fun v s_1 d Y1 Z1 V_1 S_1 k_1 i_1 z38=>ar z38 fun Y'' hp q=>?_)) hs;exact gK O S_1 i_1 hp fun s' S'=>⟨.next,Y'',Z1,V_1,S',k_1,rfl,q⟩
theorem Aq{Q:List DV->aP->Mu->Prop}(q:Q [] Y Z):EL G B E (dB (cy pos (br [] B.env))) Y Z Q:=fun V s S=>wpAny_items_nil ⟨[],Y,Z,V,S,.refl _,rfl,q⟩
theorem uy{Q:List DV->aP->Mu->Prop}(h:EV G B E (a9 e B.env) Y Z (VP G B E pos rest Q))(he:br (e::rest) B.env=(ak,a9 e B.env)::br rest B.env):EL G B E (dB (cy pos (br (e::rest) B.env))) Y Z Q:=by intro V s S;refine wpAny_items_cons (WP.use h S (fun v s_1 d Y1 Z1 V_1 S_1 k_1 i_1 h₁=>?_)) he;refine WP.use h₁ S_1 (fun vs s_2 ds Y2 Z2 V_2 S_2 k_2 i_2 q=>?_);exact⟨d::ds,Y2,Z2,V_2,S_2,k_1.trans k_2,by show Exists _;exact(bO v vs rfl (i_1.mono k_2) i_2),q⟩
end
variable{B:Bx}
theorem qJ.le(h:qJ A k)(hk:k'<=k):qJ A k':=⟨by have:=h.1;exact YI hk this,by have:=h.2;exact YH hk this⟩
theorem qJ.depth(h:qJ A k):A.depth<recursionLimit:=by have:=h.1;show A.depth<1000;exact YG this
theorem b9.kin(S:b9 (cx G B) V Y Z s)(O:B.Ok G):G.K.In s.heap:=O.g.kin.keeps S.base
theorem b9.lim(S:b9 (cx G B) V Y Z s)(O:B.Ok G):s.heap.NoLimit:=O.g.lim.keeps S.base
inductive i4:Mu->Mu->(Mu->Mu)->Prop
 |nil {m:Mu}:i4 m [] (fun zz=>m)
 |take {p:aW×MO} {m mc:Mu} {f:Mu->Mu}:i4 m mc f->i4 (p::m) (p::mc) (fun l=>match l with|[]=>f []|q::r=>q::f r)
 |skip {p:aW×MO} {m mc:Mu} {f:Mu->Mu}:i4 m mc f->i4 (p::m) mc (fun l=>p::f l)
theorem i4.sub(h:i4 Z Zc f):∀p∈Zc,p∈Z:=by
 induction h with
 |nil=>exact fun zz h=>nomatch h
 |take _ ih=>exact fun p hp=>(ao.mp hp).elim (fun e=>e▸.head _) fun h=>.tail _ (ih p h)
 |skip _ ih=>exact fun p hp=>.tail _ (ih p hp)
theorem i4.sublist(h:i4 Z Zc f):(Zc.map (·.1)).Sublist (Z.map (·.1)):=by induction h with|nil=>exact List.nil_sublist _|take _ ih=>exact ih.cons_cons _|skip _ ih=>exact ih.cons _
theorem i4.keys(h:i4 Z Zc f):∀{l:Mu},l.map (·.1)=Zc.map (·.1)->(f l).map (·.1)=Z.map (·.1):=by
 induction h with
 |nil=>exact fun zz=>rfl
 |take h ih=>intro l e;cases l with|nil=>injection e|cons q r=>injection e with e1 e2;have e1:q.1=_:=e1;show q.1::(kU _ _)=_;rw[ih e2,e1];rfl
 |skip h ih=>intro l e;show _::(kU _ _)=_;rw[ih e];rfl
theorem i4.mem(h:i4 Z Zc f)(nd:(Z.map (·.1)).Nodup):∀{l:Mu},l.map (·.1)=Zc.map (·.1)->∀p∈f l,p∈l\/(p∈Z/\p.1∉Zc.map (·.1)):=by
 induction h with
 |nil=>exact fun zz p hp=>.inr ⟨hp,by simp⟩
 |@take q Z Zc f h ih=>
  intro l e p hp;rw[au,av] at nd;cases l with|nil=>injection e|cons q' r=>
   injection e with e1 e2;rcases ao.mp hp with rfl|hp;.exact .inl (.head _)
   .rcases ih nd.2 e2 p hp with z|⟨z1,z2⟩
    .exact .inl (.tail _ z)
    .refine .inr ⟨.tail _ z1,fun q=>?_⟩
     rw[au] at q;rcases ao.mp q with q|q;.exact nd.1 (q▸ax z1)
     .exact z2 q
 |@skip q Z Zc f h ih=>
  intro l e p hp;rw[au,av] at nd;rcases ao.mp hp with rfl|hp;.refine .inr ⟨.head _,fun z=>nd.1 (h.sublist.subset z)⟩
  .rcases ih nd.2 e p hp with z|⟨z1,z2⟩
   .exact .inl z
   .exact .inr ⟨.tail _ z1,z2⟩
theorem b9.pre(S:b9 (cx G B) V Y Z s)(P:i4 Z Zc f):Eh G V Zc s:=⟨S.b0.trans S.v0,S.vh,fun p hp=>S.mu p (P.sub p hp),((av.mp S.dj).2).sublist P.sublist,fun p hp=>S.vm p (P.sub p hp)⟩
theorem b9.stk(S:b9 (cx G B) V Y Z s)(O:B.Ok G):m7 B.A (Z.map (·.1)) V s:=by
 refine ar O.stk fun l hl h=>?_;refine bq l hl (fun env he=>?_);refine sS (h env he) fun hk f hf q=>?_;have own:V B.L=aq/\B.L∉Z.map (·.1)/\∃o,s.heap.get? B.L=ac o/\∀vs,o.data≠.fields vs:=by refine ar S.m ?_;(try clear m);intro m z1 zz;refine bl z1 ?_;clear z1;intro oL es ep hL hd zz;exact⟨S.vL,(av.mp S.dj).1,oL,hL,fun vs e=>by rw[hd] at e;injection e⟩
 by_cases e:f=B.L
 .subst e
  refine Au own ?_;clear own;intro a b o c d;exact⟨hk,_,o,hf,a,b,c,d⟩
 .refine Au (q.resolve_left e) fun q1 q2 o q3 q4=>?_
  refine ar (S.pr f o q2 e q3) fun o' e' r=>?_;refine⟨hk,f,o',hf,?_,fun z=>?_,e',fun vs=>r.data▸q4 vs⟩
  .cases z:V f with
   |none=>rfl|some x=>
    rcases S.fr f (by rw[z];simp) with z'|z';.exact absurd q1 z'
    .exact absurd (aR q3) (bu.mpr z')
  .refine ar (az.mp z) fun p hp e=>?_
   subst e;rcases S.mf p hp with z'|z';.exact q2 z'
   .exact absurd (aR q3) (bu.mpr z')
theorem m7.less(h:m7 A m V s)(k:∀a∈m',a∈m):m7 A m' V s:=by refine ar h ?_;clear h;intro l hl h;refine bq l hl (fun env he=>?_);refine Ho (h env he) fun a f o b c d e=>?_;exact⟨a,f,o,b,c,fun z=>d (k f z),e⟩
theorem b9.post(S:b9 (cx G B) V Y Z s)(O:B.Ok G)(P:i4 Z Zc f)(T:AG G B.A V Zc s V' Zc' s'):b9 (cx G B) V' Y (f Zc') s':=by
 have dj:=av.mp S.dj;have ks:=P.keys (l:=Zc') T.as;have lt:=S.frLt;have nL:B.L∉Zc.map (·.1):=fun q=>dj.1 (P.sublist.subset q);refine ar S.m ?_;(try clear m);intro m hn he;refine fx hn ?_;clear hn;intro oL es ep hL r;have fresh:∀{a},a<s.heap.objs.size->V a=aq->V' a=aq:=fun {a} h1 h2=>by
  cases q:V' a with|none=>rfl|some o=>
   rcases T.fr a (by rw[q];simp) with z|z;.exact absurd h2 z
   .exact absurd h1 (bu.mpr z)
 refine ar (T.pr _ _ nL hL) fun oL' hL' nr=>?_;have r':=r;rw[<-nr.data] at r';refine⟨(bq m (o6 oL' es ep hL' r') (b9.envMono T.v0 he)),S.nd,fun p hp=>?_,?_,T.vh,fresh lt S.vL,fun p hp=>?_,fun a ha=>?_,S.v0.trans T.v0,S.b0,fun p hp=>?_,fun a x n l e=>?_,ae S.sz T.sz,S.hk.mono T.v0,S.rest.trans T.rest⟩
 .rcases P.mem dj.2 T.as p hp with z|⟨z1,z2⟩
  .exact T.mu p z
  .refine aY ((S.mu p z1).at) fun o ho=>?_
   refine ar (T.pr _ _ z2 ho) fun o' ho' nr=>?_;rw[nr.1 fun z=>((S.stk O).fro z).2.1 (ax z1)] at ho';exact(S.mu p z1).mono T.v0 (ho'.trans ho.symm)
 .rw[ks];exact S.dj
 .rcases P.mem dj.2 T.as p hp with z|⟨z1,z2⟩
  .exact T.vm p z
  .exact fresh (S.muLt z1) (S.vm p z1)
 .rcases T.fr a ha with z|z
  .exact S.fr a z
  .exact .inr (ae S.sz z)
 .rcases P.mem dj.2 T.as p hp with z|⟨z1,z2⟩
  .have:p.1∈Zc.map (·.1):=T.as▸ax z
   refine ar (az.mp this) fun q hq e=>?_;exact e▸S.mf q (P.sub q hq)
  .exact S.mf p z1
 .refine ar (S.pr a x n l e) fun x' e' r'=>?_
  by_cases q:a∈Zc.map (·.1)
  .refine ar (az.mp q) fun p hp ep=>?_
   subst ep;rcases S.mf p (P.sub p hp) with z|z;.exact absurd z n
   .exact absurd (aR e) (bu.mpr z)
  .refine ar (T.pr a x' q e') fun x'' e'' r''=>?_
   exact bq x'' e'' (r'.trans r'')
abbrev cI(G:G0)(B:Bx)(E:aE->ay->Prop)(f:aE)(ds:List DV)(Y:aP)(Z:Mu)(Q:DV->aP->Mu->Prop):Prop:=OL G B E (Is G.prog G.w) (fun vs=>call f vs) ds Y Z Q
theorem eV(O:B.Ok G)(H:gj G hd k f ds Zc R (fun zz zz zz zz zz=>False))(hh:hd=ai\/B.hd=ak)(P:i4 Z Zc re)(hk:k<=B.k)(q:∀d Zc',R d Zc'->Q d Y (re Zc')):cI G B E f ds Y Z Q:=by intro V s vs S hi;refine kA (dR (H B.A V s vs (O.room.le hk) (fun e=>hh.elim (fun z=>by rw[z] at e;injection e) O.calm) S.hk ((S.stk O).less fun a z=>P.sublist.subset z) (S.pre P) hi) (o8.mono (fun r s' z2=>bl z2 fun d Z' V' T i h=>?_) fun zz zz x=>x.elim));exact⟨d,Y,re Z',V',S.post O P T,T.v0,i,q d Z' h⟩
inductive nE:Mu->Mu->Mu->Mu->Prop
 |nil {m:Mu}:nE m [] [] m
 |take {p q:aW×MO} {m mc nc n:Mu}:nE m mc nc n->nE (p::m) (p::mc) (q::nc) (q::n)
 |skip {p:aW×MO} {m mc nc n:Mu}:nE m mc nc n->nE (p::m) mc nc (p::n)
theorem nE.id:∀m,nE m m m m:=by intro p0_;induction p0_ with|nil=>exact .nil|cons _ r ih=>exact .take (ih)
set_option tactic.hygienic true in
theorem nE.pick(h:nE m mc nc n):∃f,i4 m mc f/\f nc=n:=by
 induction h with
 |nil=>exact bq _ .nil rfl|take _ ih=>refine ar ih ?_;clear ih;intro f a z3;subst z3;exact bq _ (.take a) rfl
 |skip _ ih=>refine ar ih ?_;clear ih;intro f a z4;subst z4;exact bq _ (.skip a) rfl
theorem aw{Zc νc ν:Mu}(O:B.Ok G)(H:gj G hd k f ds Zc (fun d Z'=>d=D/\Z'=νc) (fun zz zz zz zz zz=>False))(hh:hd=ai\/B.hd=ak)(P:nE Z Zc νc ν)(hk:k<=B.k)(q:Q D Y ν):cI G B E f ds Y Z Q:=by refine ar P.pick fun g a e=>?_;exact eV O H hh a hk fun d Z' h=>by rw[h.1,h.2,e];exact q
theorem cO(h:B.k=n)(e:gW m n=ai):m<=B.k:=h▸aj e
theorem wD(O:B.Ok G)(H:gj G hd k f ds Zc R E')(hh:hd=ai\/B.hd=ak)(P:i4 Z Zc re)(hk:k<=B.k)(q:∀d Zc',R d Zc'->Q d Y (re Zc'))(he:∀V s e s',b9 (cx G B) V Y Z s->E' B.A V s e s'->E e s'):cI G B E f ds Y Z Q:=by intro V s vs S hi;refine kA (dR (H B.A V s vs (O.room.le hk) (fun e=>hh.elim (fun z=>by rw[z] at e;injection e) O.calm) S.hk ((S.stk O).less fun a z=>P.sublist.subset z) (S.pre P) hi) (o8.mono (fun r s' z5=>bl z5 fun d Z' V' T i h=>?_) fun e s' x=>he V s e s' S x));exact⟨d,Y,re Z',V',S.post O P T,T.v0,i,q d Z' h⟩
def bH(G:G0)(f:aE):Prop:=∀M h,G.K.In h->∃k,(k=Keeper.frame\/k=Keeper.machine\/k=Keeper.boundFrame)/\lM M h (keeperOf f) k
theorem cj(h:keepIn G.K f=ai):bH G f:=fun M zz X=>keeps_K (M:=M) h _ X
theorem kg{id:String}:bH G (.builtin id):=fun zz zz zz=>(bq .machine (.inr (.inl rfl)) .now)
theorem G1{id:String}:bH G (.type id):=fun zz zz zz=>(bq .machine (.inr (.inl rfl)) .now)
theorem rG{Q:Args->ay->Prop}(h:bd M A (dB (cy pos (br args env))) (fun vs s'=>Q ⟨vs,[]⟩ s') E s)(hp:(cy pos (br args env)).any (·.1)=ak):bd M A (evalArgs f ai (cy pos (br args env)) []) Q E s:=by
 revert h hp;generalize cy pos (br args env)=l;intro h hp;cases l with
 |nil=>intro Γ p hΓ;have q:=h Γ p hΓ;rw[show dB []=pure [] from rfl,Sem.wp_pure'] at q;exact evalArgs_nil3 q Γ p hΓ
 |cons x r=>
  obtain⟨b,t⟩:=x;have hb:b=ak:=by cases b with|false=>rfl|true=>simp at hp
  subst hb;exact evalArgs_plain h
theorem rL{ds:List DV}(O:B.Ok G)(hf:bH G f)(S:b9 (cx G B) V Y Z s)(hi:gP G.prog G.w V ds first)(h:EL G B E (dB (cy pos (br args B.env))) Y Z fun es Y' Z'=>cI G B E f (ds++es) Y' Z' Q)(hp:(cy pos (br args B.env)).any (·.1)=ak):bd (bf G.prog G.w) B.A (r7 pos f first (cy pos (br args B.env)) []) (qP G B (Is G.prog G.w) V Q) E s:=by
 refine callWith_of (P:=fun h=>G.K.In h) (by rw[hp];rfl) (hf _) (rG (WP.use h S (fun vs s_1 es Y1 Z1 V_1 S_1 k_1 i_1 c=>⟨S_1.kin O,?_⟩)) hp);have app:∀{ds es:List DV}{us vs:List aE},gP G.prog G.w V_1 ds us->gP G.prog G.w V_1 es vs->gP G.prog G.w V_1 (ds++es) (us++vs):=by
  intro ds;induction ds with
  |nil=>intro es us vs h1 h2;obtain rfl:=be.mp h1;exact h2
  |cons d r ih=>intro es us vs h1 h2;refine aM (aG.mp h1) fun v rs z7 a b=>?_;subst z7;exact aG.mpr (bO v (rs++vs) rfl a (ih b h2))
 exact aQ (c V_1 s_1 _ S_1 (app (hi.mono k_1) i_1)) (fun zz zz=>qP.up k_1) fun zz zz x=>x
theorem MP(O:B.Ok G)(h:EV G B E (a9 func B.env) Y Z fun fd Y1 Z1=>∃f,fd=.raw f/\bH G f/\EL G B E (dB (cy pos (br args B.env))) Y1 Z1 fun ds Y' Z'=>cI G B E f ds Y' Z' Q)(he:a9 (.Call func args [] pos) B.env=(do r7 pos (<-a9 func B.env) [] (cy pos (br args B.env)) (pM pos (jx [] B.env))))(hp:(cy pos (br args B.env)).any (·.1)=ak):EV G B E (a9 (.Call func args [] pos) B.env) Y Z Q:=by intro V s S;rw[he];refine ah (WP.use h S (fun v s_1 fd Y1 Z1 V_1 S_1 k_1 i_1 z10=>bp z10 fun f e hf h₁=>?_));subst e;refine aZ (aT.mp i_1) fun z11 zz=>?_;subst z11;exact aQ (rL (ds:=[]) O hf S_1 (be.mpr rfl) h₁ hp) (fun zz zz=>qP.up k_1) fun zz zz x=>x
theorem JO{o:bZ}(O:B.Ok G)(h:EV G B E (a9 o B.env) Y Z fun d Y1 Z1=>∃f ds,(∀V s v A P E,b9 (cx G B) V Y1 Z1 s->Is G.prog G.w V d v->(∀first s',gP G.prog G.w V ds first->b9 (cx G B) V Y1 Z1 s'->P (f,first) s')->bd (bf G.prog G.w) A (jy v name pl) P E s)/\bH G f/\EL G B E (dB (cy pos (br args B.env))) Y1 Z1 fun es Y' Z'=>cI G B E f (ds++es) Y' Z' Q)
  (he:a9 (.Call (.Attribute o name apos) args [] pos) B.env=(do
     let ov <-a9 o B.env
     sZ apos.atName
     let (f,first) <-holding [ov] (jy ov name pl)
     r7 pos f first (cy pos (br args B.env)) (pM pos (jx [] B.env))))
  (hp:(cy pos (br args B.env)).any (·.1)=ak):EV G B E (a9 (.Call (.Attribute o name apos) args [] pos) B.env) Y Z Q:=by
 intro V s S;refine methodCall_KW (pl:=pl) (WP.use h S (fun v s_1 d Y1 Z1 V_1 S_1 k_1 i_1 z14=>aM z14 fun f ds hm hf h₁=>?_)) he;refine hm V_1 s_1 v _ _ _ S_1 i_1 fun first s_2 hi S_2=>?_
 exact aQ (rL O hf S_2 hi h₁ hp) (fun zz zz=>qP.up k_1) fun zz zz x=>x
theorem b9.perm(S:b9 C V Y Z s)(h:Z.Perm Z'):b9 C V Y Z' s:=⟨S.m,S.nd,fun p hp=>S.mu p (h.mem_iff.mpr hp),((h.map (·.1)).cons C.L).nodup_iff.mp S.dj,S.vh,S.vL,fun p hp=>S.vm p (h.mem_iff.mpr hp),S.fr,S.v0,S.b0,fun p hp=>S.mf p (h.mem_iff.mpr hp),S.pr,S.sz,S.hk,S.rest⟩
noncomputable def Rx:MO->Option DV|.lst l=>ac (.lst l)|.sdic l=>ac (.sdic l)|.idic l=>ac (.idic l)|_=>aq
theorem sI{mo:MO}(e:Rx mo=ac d)(m:jv prog w V h a mo)(ho:h a=ac o)(k:Kp V V')(hv:V' a=ac o):Is prog w V' d (.ref a):=by
 cases mo with
 |lst l=>(injection e with e;subst e);refine bU m ?_;clear m;intro o' vs n h1 h2 h3 h4 h5;rw[ho] at h1;(injection h1 with h1;subst h1);show Exists _;exact cJ a o vs n rfl hv h2 h3 h4 (h5.mono k)
 |sdic l=>(injection e with e;subst e);refine bB m ?_;clear m;intro o' kvs h1 h2 h3 h4;rw[ho] at h1;(injection h1 with h1;subst h1);show Exists _;exact c7 a o kvs rfl hv h2 h3 (h4.mono k)
 |idic l=>(injection e with e;subst e);refine bB m ?_;clear m;intro o' kvs h1 h2 h3 h4;rw[ho] at h1;(injection h1 with h1;subst h1);show Exists _;exact c7 a o kvs rfl hv h2 h3 (h4.mono k)
 |_=>injection e
def km(Z0:Mu)(R:DV->Mu->Prop):Fl->aP->Mu->Prop:=fun fl Y' Z'=>∃loc Zr d,Z'.Perm (loc++Zr)/\Zr.map (·.1)=Z0.map (·.1)/\R d Zr/\(fl=.ret d\/(fl=.next/\d=.none)\/∃a mo,fl=.ret (.ptr a)/\(a,mo)∈loc/\Rx mo=ac d)
noncomputable abbrev sB(A:fR)(env:Ou)(V:Vw)(Z0:Mu)(s:ay)(k:Nat)(hd:Bool):Bx:=⟨A.deeper env,env,s.heap.objs.size,V,Z0.map (·.1),s,k,hd⟩
theorem q7(g:G.Ok)(c:(cx G (sB A env V Z s k hd)).Ok)(hf:env.frame=ac s.heap.objs.size)(rm:qJ A (k+1))(hc:hd=ak->A.handled=aq)(hstk:m7 A (Z.map (·.1)) V s):(sB A env V Z s k hd).Ok G:=by
 refine⟨g,c,⟨om8 rm.1,om9 rm.2⟩,hc,?_⟩;refine ar hstk fun l hl h=>(bq _ (e9 hl) (fun e he=>?_))
 rcases ao.mp he with rfl|he;.exact⟨fun z=>by have:=c.fn;rw[show(cx G (sB A e V Z s k hd)).env=e from rfl,z] at this;injection this,_,hf,.inl rfl⟩
 .exact gB (h e he) fun a f o b c d e e'=>⟨a,f,b,.inr ⟨c,d,o,e,e'⟩⟩
theorem DO(hstk:m7 A m V s)(hf:env.frame=ac L)(n:a≠L)(h:a∉mZ A):a∉mZ (A.deeper env):=fun z=>by
 refine ar hstk fun l hl zz=>?_;unfold mZ at h z;rw[e9 hl] at z;rw[hl] at h;refine ar (cm.mp z) fun e he hf'=>?_;rcases ao.mp he with rfl|he;.exact n (aB (hf'.symm.trans hf))
 .exact h (cm.mpr (bq e he hf'))
theorem zg{h:jl}(e:h.get? a=ac o):a≠h.objs.size:=bP (aR e)
theorem Eh.nV(P:Eh G V Z s)(h:s.heap.objs.size<=a):V a=aq:=by cases q:V a with|none=>rfl|some o=>exact absurd (aR (P.vh _ _ q)) (bu.mpr h)
theorem sm{t:Nat}(P:Eh G V Z s)(hh:CL A V)(m:∃m,h₁.Ns s.heap.objs.size m/\Cz (cx G (sB A env V Z s k hd)) V Y m)(nd:(Y.map (·.1)).Nodup)(hk_1:∀b o,s.heap.get? b=ac o->h₁.get? b=ac o):b9 (cx G (sB A env V Z s k hd)) V Y Z {s with heap:=h₁,toks:=t}:=by
 refine⟨m,nd,fun p hp=>?_,?_,fun a o e=>hk_1 _ _ (P.vh _ _ e),P.nV (aI _),P.vm,fun a ha=>.inl ha,.refl _,P.b0,fun p hp=>.inl (ax hp),fun a o zz zz e=>(bq o (hk_1 _ _ e) (.refl o)),ar m fun _ h _=>b8 h.lt,hh,.refl s⟩;.exact aY ((P.mu p hp).at) fun o ho=>(P.mu p hp).mono (.refl _) ((hk_1 _ _ ho).trans ho.symm)
 .exact av.mpr ⟨fun q=>ar (az.mp q) fun p hp e=>aY ((P.mu p hp).at) fun o ho=>zg ho e,P.nd⟩
theorem pq{Z0 loc Zr:Mu}(hstk:m7 A (Z0.map (·.1)) V s)(hf:env.frame=ac s.heap.objs.size)(S:b9 (cx G (sB A env V Z0 s k hd)) V' Y (loc++Zr) s')(has:Zr.map (·.1)=Z0.map (·.1)):AG G A V Z0 s V' Zr s':=⟨S.v0,S.vh,S.fr,fun p hp=>S.mu p (aK _ hp),has,fun p hp=>S.vm p (aK _ hp),fun a o n e=>ar (S.pr a o n (zg e) e) fun o' e' r=>(bq o' e' (r.sub (DO hstk hf (zg e)))),S.sz,S.rest⟩
theorem N2{a:Fl}(hstk:m7 A (Z0.map (·.1)) V s)(hf:env.frame=ac s.heap.objs.size)(S:b9 (cx G (sB A env V Z0 s k hd)) V' Y Z s')(i:wL G.prog G.w V' a fl)(z:km Z0 R a Y Z):∃d Zr V'' v,AG G A V Z0 s V'' Zr s'/\R d Zr/\Is G.prog G.w V'' d v/\(fl=.ret v\/fl=.next/\v=.none):=by
 refine eD z fun loc Zr d e has hR hfl=>?_;have S':=S.perm e;rcases hfl with rfl|⟨rfl,rfl⟩|⟨x,mo,rfl,hx,hmo⟩;.exact ar i fun v z hv=>(fG d Zr V' v (pq hstk hf S' has) hR hv (.inl z))
 .exact fG .none Zr V' .none (pq hstk hf S' has) hR (aT.mpr ⟨rfl,rfl⟩) (.inr ⟨i,rfl⟩)
 .refine ar i fun v z hv=>?_
  refine aZ (aT.mp hv) fun z20 zz=>?_;refine g7 (List.append_of_mem hx) fun l1 l2 z21=>?_;rw[z21,gu,KM] at S';have hm:=S'.mu (x,mo) (aK _ (.head _));refine aY hm.at fun ox hox=>?_;have nx:x∉Z0.map (·.1):=fun q=>by have:=(av.mp S'.dj).2;rw[aA,au,bC,av] at this;exact this.2.1.1 (by rw[aA];exact aK _ (has▸q))
  have S2:=S'.freeze (S'.big nx) hox;rw[<-gu] at S2;exact fG d Zr (fS V' x ox) v (pq hstk hf S2 has) hR (z20▸sI hmo hm hox (dc (S'.vm (x,mo) (aK _ (.head _)))) (bT _ _ _)) (.inl z)
theorem J1{E:fR->Vw->ay->aE->ay->Prop}{EE:Bx->aE->ay->Prop}(g:G.Ok)(ho:G.K.lookup f=ac o)(hdata:o.data=.func fd)(hb:fd.body=.stmts body)(hco:fd.scope.isCoroutine=ak)(hgen:fd.scope.isGenerator=ak)(hk:fd.scope.kind=.function)(hcell:∀x∈fd.scope.names,x.2≠.cell)(hgl:fd.globals=ce)(hbu:fd.builtins=d9)(hcd:nW G.K fd.code fd.qualname=ai)(bind:∀V s vs,Kp G.hb.get? V->Kp V s.heap.get?->gP G.prog G.w V ds vs->∃binds,xa s fd ⟨vs,[]⟩ binds/\(∀x∈binds,fd.scope.names.lookup x.1=ac .local)/\∀p∈Y0,fd.scope.names.lookup p.1=ac .local/\(p.2≠.any->∃v,binds.reverse.lookup p.1=ac v/\Is G.prog G.w V p.2 v))(hns:Y0.map (·.1)=ns)(nd:ns.Nodup)(hE:∀A V s B,B=⟨A.deeper (nN fd s.heap.objs.size f),nN fd s.heap.objs.size f,s.heap.objs.size,V,Z0.map (·.1),s,k,hd⟩->B.Ok G->m7 A (Z0.map (·.1)) V s->∀e s',EE B e s'->bd (bf G.prog G.w) B.A (leaving B.env e) (fun zz s''=>E A V s e s'') (fun e' s''=>E A V s e' s'') s')(H:∀B,B.Ok G->B.env.frame=ac B.L->(∃l,B.A.frames=ac (B.env::l))->B.k=k->B.hd=hd->B.env=nN fd B.L f->B.m0=Z0.map (·.1)->EX G B (EE B) (eG body B.env) Y0 Z0 (km Z0 R)):gj G hd (k+1) (.ref f) ds Z0 R E:=by intro A V s vs rm hcalm hh hstk P hi;have kb:∀b o,G.hb.get? b=ac o->s.heap.get? b=ac o:=fun b o e=>P.vh _ _ (P.b0 _ _ e);refine bp (bind V s vs P.b0 P.vh hi) fun binds hbind hloc hY=>?_;refine RL (binds:=binds) rm.depth ((g.kin.keeps kb) _ _ ho) hdata (g.lim.keeps kb) (CQ (g.kin.keeps kb) hcd) hb hbind hcell hloc (fun h₁ hns' hk_1=>?_) hco hgen hk;have OB:(sB A (nN fd s.heap.objs.size f) V Z0 s k hd).Ok G:=q7 g ⟨hk,rfl,hgl,hbu⟩ rfl rm hcalm hstk;refine aQ (H _ OB rfl (ar hstk fun l hl _=>⟨l,e9 hl⟩) rfl rfl rfl rfl V _ (sm P hh (bq _ hns' (fun p hp=>hY p hp)) (hns▸nd) hk_1)) (fun fl s' z16=>iK z16 fun a Y' Z' V' S' k' i' z17=>eh (N2 hstk rfl S' i' z17) fun d Zr V'' v T hR hv h=>?_) fun e s'' x=>hE A V s _ rfl OB hstk e s'' x;rcases h with rfl|⟨rfl,rfl⟩<;>exact i5 d Zr V'' T hv hR
theorem Ff{Y0:aP}(g:G.Ok)(ho:G.K.lookup f=ac o)(hdata:o.data=.func fd)(hb:fd.body=.stmts body)(hco:fd.scope.isCoroutine=ak)(hgen:fd.scope.isGenerator=ak)(hk:fd.scope.kind=.function)(hcell:∀x∈fd.scope.names,x.2≠.cell)(hgl:fd.globals=ce)(hbu:fd.builtins=d9)(hcd:nW G.K fd.code fd.qualname=ai)(bind:∀V s vs,Kp G.hb.get? V->Kp V s.heap.get?->gP G.prog G.w V ds vs->∃binds,xa s fd ⟨vs,[]⟩ binds/\(∀x∈binds,fd.scope.names.lookup x.1=ac .local)/\∀p∈Y0,fd.scope.names.lookup p.1=ac .local/\(p.2≠.any->∃v,binds.reverse.lookup p.1=ac v/\Is G.prog G.w V p.2 v)){ns:List aV}(hns:Y0.map (·.1)=ns)(nd:ns.Nodup)(H:∀B,B.Ok G->B.k=k->B.hd=hd->B.env=nN fd B.L f->B.m0=Z0.map (·.1)->EX G B (fun zz zz=>False) (eG body B.env) Y0 Z0 (km Z0 R)):gj G hd (k+1) (.ref f) ds Z0 R (fun zz zz zz zz zz=>False):=J1 (EE:=fun zz zz zz=>False) g ho hdata hb hco hgen hk hcell hgl hbu hcd bind hns nd (fun zz zz zz zz zz zz zz zz zz h=>h.elim) fun B O zz zz=>H B O
structure my (G:G0) (C:aW):Prop where
 plain:K2 G.K C "" = ai
 dict:hasDictIn G.K C=ai
theorem j9{K:Ot}{n m:aV}(h:K2 K C n=ai):K2 K C m=ai:=h
theorem Mm:∀{l:List (aV×DV)}{es:List mF},yE G.prog G.w V l es->(l.map (·.1)).Nodup->CK l x d->∃v,getL x es=ac (ac v)/\Is G.prog G.w V d v:=by
 intro l es h nd hx;suffices ∃e,es.find? (·.key.isStr x)=ac e/\Is G.prog G.w V d e.val by refine ar this ?_;clear this;intro e he hi;exact bq e.val (by unfold getL;rw[he]) hi
 induction hx generalizing es with
 |@head y d r=>refine bB h ?_;clear h;intro e rs z22 z23 hi zz;subst z22;refine aY z23 ?_;clear z23;intro t hk;exact bq e (by rw[bh,hk,show(tP y t).isStr y=ai from by simp[pN]]) hi
 |@tail p r y d hx ih=>
  obtain⟨z,dz⟩:=p;refine bB h ?_;clear h;intro e rs z24 z25 hi hr;subst z24;refine aY z25 ?_;clear z25;intro t hk;rw[au,av] at nd;have ne:(tP z t).isStr y=ak:=by have:z≠y:=fun q=>nd.1 (az.mpr (bq _ hx.mem q.symm));simpa[pN] using this
  refine ar (ih hr nd.2) fun e' he' hi'=>?_;exact bq e' (by rw[bh,hk,ne];exact he') hi'
theorem Jq:∀{l:List (aV×DV)}{es:List mF},yE G.prog G.w V l es->(l.map (·.1)).contains x=ak->getL x es=ac aq
 |l,es,h,hx=>by
  have key:es.find? (·.key.isStr x)=aq/\es.any (·.refKey)=ak:=by
   induction l generalizing es with|nil=>subst h;exact⟨rfl,rfl⟩|cons p r ih=>
    obtain⟨z,dz⟩:=p;refine bB h ?_;clear h;intro e rs z26 z27 hi hr;subst z26;refine aY z27 ?_;clear z27;intro t hk;rw[au,dt,fp] at hx;refine aZ (ih _ hr hx.2) fun a b=>?_;have ne:(tP z t).isStr x=ak:=by
     have:x≠z:=by simpa using hx.1
     simpa[pN] using fun q=>this (Lj q)
    refine⟨by rw[bh,hk,ne];exact a,?_⟩;rw[dF,b,qR];unfold aE';rw[hk]
  unfold getL;rw[key.1];simp[key.2]
theorem zV(h:Is G.prog G.w V (.inst C l) v)(k:Kp V s.heap.get?):∃a dx es n,v=.ref a/\InstAt s.heap a (cn C dx) C (ac (jh es n))/\yE G.prog G.w V l es:=by refine eh h ?_;clear h;intro a dx es n z28 h1 h2 h3;subst z28;exact kj a dx es n rfl ⟨k _ _ h1,rfl,rfl,k _ _ h2⟩ h3
theorem Hb(O:B.Ok G)(S:b9 (cx G B) V Y Z s)(h:Is G.prog G.w V (.inst C l) v)(hc:my G C)(ha:kB G.K (.ref C) name=ac attr)(hn:noGet G.K attr=ai)(hl:l.map (·.1)=ns)(nd:ns.Nodup)(hx:CK l name d)(q:∀u s',b9 (cx G B) V Y Z s'->Is G.prog G.w V d u->P u s'):bd (bf G.prog G.w) A (getAttr v name expr) P E s:=by refine fE (zV h S.vh) fun a dx es n z29 I hf=>?_;subst z29;refine ar (Mm hf (hl▸nd) hx) fun u hu iu=>?_;exact get_value (S.kin O) I (r4 (j9 (m:=name) hc.plain)).1 (findObj_own hc.dict ha hn hu) iu.handed (q _ _ (S.sat_toks _) iu)
theorem MR(O:B.Ok G)(h:EV G B E (a9 e B.env) Y Z fun d Y' Z'=>∃C l ns attr d',d=.inst C l/\my G C/\kB G.K (.ref C) name=ac attr/\noGet G.K attr=ai/\l.map (·.1)=ns/\ns.Nodup/\CK l name d'/\Q d' Y' Z')(he:a9 (.Attribute e name pos) B.env=(do let o <-a9 e B.env;sZ pos.atName;let r <-holding [o] (getAttr o name ai);WY e o r;pure r)):EV G B E (a9 (.Attribute e name pos) B.env) Y Z Q:=by intro V s S;refine Attribute_any_ (WP.use h S (fun v s_1 d Y1 Z1 V_1 S_1 k_1 i_1 z31=>eu z31 fun C l ns attr d' y42=>iZ y42 fun e hc ha hn hl y43=>jM y43 fun nd hx q=>?_)) he;subst e;exact Hb O S_1 i_1 hc ha hn hl nd hx fun u s' S' iu=>⟨d',Y1,Z1,V_1,S',k_1,iu,q⟩
theorem GL(O:B.Ok G)(hc:my G C)(hf:kB G.K (.ref C) name=ac (ac (.ref f)))(ht:isFn G.K (.ref f)=ai)(hl:l.map (·.1)=ns)(hx:ns.contains name=ak):∀V s v A P E,b9 (cx G B) V Y Z s->Is G.prog G.w V (.inst C l) v->(∀first s',gP G.prog G.w V [.inst C l] first->b9 (cx G B) V Y Z s'->P (.ref f,first) s')->bd (bf G.prog G.w) A (jy v name pl) P E s:=by intro V s v A P E S h q;have h':=h;refine fE (zV h S.vh) fun a dx es n z32 I hF=>?_;subst z32;refine method_fn (S.kin O) I (r4 (j9 (m:=name) hc.plain)).1 (r4 (j9 (m:=name) hc.plain)).2 hf (beq_iff_eq.mp ht) ?_ (q _ _ (aG.mpr (bO _ _ rfl h' (be.mpr rfl))) S);show(lookIn name (jh es n)).map _=_;rw[lookIn_dict,Jq hF (hl▸hx)];rfl
theorem bb:∀{ds:List DV}{vs:List aE},gP prog w V ds vs->vs.length=ds.length:=by
 intro p0_;induction p0_ with
 |nil=>intro vs h;obtain rfl:=be.mp h;rfl
 |cons d r ih=>intro vs h;refine aM (aG.mp h) ?_;clear h;intro v rs z33 _ h;subst z33;rw[cK,cK,ih h]
theorem Lw(O:B.Ok G)(S:b9 (cx G B) V Y Z s)(hi:gP G.prog G.w V ds vs)(hl:ds.length<=1000000)(q:∀v s' V',b9 (cx G B) V' Y Z s'->Kp V V'->Is G.prog G.w V' (.tup ds) v->P v s'):bd (bf G.prog G.w) A (WW vs) P E s:=by refine dm (q _ _ _ (S.alloc O.c _ rfl) (dc S.fresh) ?_) (by show vs.toArray.size<=fZ;rw[lO,bb hi,AL];exact je hl rfl);show Exists _;exact cJ _ _ vs.toArray 0 rfl (bT _ _ _) rfl ⟨rfl,rfl⟩ rfl (by simpa using hi.mono (dc S.fresh))
theorem L8(O:B.Ok G)(S:b9 (cx G B) V Y Z s)(hi:gP G.prog G.w V ds vs)(hl:ds.length<=1000000)(q:∀v s' V',b9 (cx G B) V' Y Z s'->Kp V V'->Is G.prog G.w V' (.lst ds) v->P v s'):bd (bf G.prog G.w) A (H0 vs) P E s:=by refine dm (q _ _ _ (S.alloc O.c _ rfl) (dc S.fresh) ?_) (by show vs.toArray.size<=fZ;rw[lO,bb hi,AL];exact je hl rfl);show Exists _;exact cJ _ _ vs.toArray 0 rfl (bT _ _ _) rfl ⟨rfl,rfl⟩ rfl (by simpa using hi.mono (dc S.fresh))
theorem GQ(O:B.Ok G)(S:b9 (cx G B) V Y Z s)(hi:gP G.prog G.w V ds vs)(hl:ds.length<=1000000)(q:∀a s',b9 (cx G B) V Y ((a,.lst ds)::Z) s'->P (.ref a) s'):bd (bf G.prog G.w) A (H0 vs) P E s:=by refine dm (q _ _ (S.allocMu O.c _ _ rfl (c7 _ vs.toArray 0 (aN _ rfl) rfl ⟨rfl,rfl⟩ rfl (show gP G.prog G.w V ds vs.toArray.toList by simpa using hi)))) (by show vs.toArray.size<=fZ;rw[lO,bb hi,AL];exact je hl rfl)
theorem JM(O:B.Ok G)(h:EL G B E (dB (cy pos (br elts B.env))) Y Z fun ds Y' Z'=>ds.length<=1000000/\Q (.tup ds) Y' Z'):EV G B E (a9 (.Tuple elts k pos) B.env) Y Z Q:=by intro V s S;refine Tuple_ (WP.use h S (fun vs s_1 ds Y1 Z1 V_1 S_1 k_1 i_1 z35=>aZ z35 fun hl q=>?_));exact Lw O S_1 i_1 hl fun v s' V' S' k' i'=>⟨_,Y1,Z1,V',S',k_1.trans k',i',q⟩
abbrev ZG(Q:DV->aP->Mu->Prop):List DV->aP->Mu->Prop:=fun ds Y' Z'=>ds.length<=1000000/\Q (.lst ds) Y' Z'
theorem eN(O:B.Ok G)(h:EL G B E (dB (cy pos (br elts B.env))) Y Z (ZG Q)):EV G B E (a9 (.List elts pos) B.env) Y Z Q:=by intro V s S;refine List_ (WP.use h S (fun vs s_1 ds Y1 Z1 V_1 S_1 k_1 i_1 z37=>aZ z37 fun hl q=>?_));exact L8 O S_1 i_1 hl fun v s' V' S' k' i'=>⟨_,Y1,Z1,V',S',k_1.trans k',i',q⟩
theorem pG(O:B.Ok G)(h:EL G B E (dB (cy pos (br elts B.env))) Y Z fun ds Y' Z'=>ds.length<=1000000/\∀a,Q (.ptr a) Y' ((a,.lst ds)::Z')):EV G B E (a9 (.List elts pos) B.env) Y Z Q:=by intro V s S;refine List_ (WP.use h S (fun vs s_1 ds Y1 Z1 V_1 S_1 k_1 i_1 z39=>aZ z39 fun hl q=>?_));exact GQ O S_1 i_1 hl fun a s' S'=>⟨_,Y1,_,V_1,S',k_1,aT.mpr ⟨rfl,rfl⟩,q a⟩
theorem Fv{id:String}{B:gT}{args:List aE}{Q:aE->ay->Prop}(kind:builtinKind id=aq)(plain:plainId id=ai)(entry:W5 table id=ac B)(ok:argsOk id ⟨args,[]⟩)(hfin:bd (bf prog w) A.in1 (B ⟨args,[]⟩) (fun fin s'=>match fin with|.done f=>wants Q E (.ok f) s'|.again c'=>c'.quiet=ai/\fJ (bf prog w) A c' (wants Q E) s') (fun e s'=>wants Q E (.error e) s') s):bd (bf prog w) A (call (.builtin id) args) Q E s:=call_function_any kind plain entry ok hfin
noncomputable def R3:DV->Option aE|.raw .none=>ac (.type "NoneType")|.raw (.bool _)=>ac (.type "bool")|.int _=>ac (.type "int")|.str _=>ac (.type "str")|.tup _=>ac (.type "tuple")|.lst _=>ac (.type "list")|.sdic _=>ac (.type "dict")|.idic _=>ac (.type "dict")|.inst C _=>ac (.ref C)|_=>aq
theorem oJ{K:Ot}{dep:Int}{Q:Fin->ay->Prop}(X:K.In s.heap)(Lt:lM (bf prog w) s.heap (iN v) tv)(Lc:lM (bf prog w) s.heap (iN c) (.type "type"))(Ly:lM (bf prog w) s.heap (Ol c) ai)(Ls:lM (bf prog w) s.heap (isSubtype tv c) r)(Lv:lM (bf prog w) s.heap (Ol tv) ai)(he:(tv==c)=ai->r=ai)(ha:r=ak->∀P,P (ac tv) {s with toks:=s.toks+1}->bd (bf prog w) A (w0 v "__class__") P E s)(h:∀t,Q (.done (.ret (.bool r))) {s with toks:=t}):bd (bf prog w) A (gT.«isinstance.nested» ⟨[v,c,.int dep tk],[]⟩) Q E s:=by
 obtain⟨hh,g,d,tt,os⟩:=s;unfold gT.«isinstance.nested»;refine ah (Lt.at ?_);by_cases q:(tv==c)=ai
 .rw[if_pos q]
  obtain rfl:=he q;exact ah (qi (ah (aH (aH (h tt)))))
 .rw[if_neg q]
  refine ah (Lc.at ?_);rw[if_pos (by decide)];k_delta "plainIsInstance";have Li:lM (bf prog w) hh (Om v c) r:=Lt.andThen Ls;refine ah (ah (Ly.at ?_));rw[if_neg (show ¬(!ai)=ai by decide)];refine ah (Li.at ?_);cases r with|true=>rw[if_pos rfl];exact aH (aH (h tt))|false=>rw[if_neg (show ¬ak=ai by decide)];refine ah (aQ (ha rfl (fun r s'=>r=ac tv/\s'=⟨hh,g,d,tt+1,os⟩) ⟨rfl,rfl⟩) (fun r s' z1=>aZ z1 fun e1 e2=>?_) fun zz zz x=>x);subst e1 e2;refine ah (Lv.at ?_);rw[if_neg (show ¬(!ai)=ai by decide)];exact ah (qi (Ls.at (aH (h _))))
structure pV (G:G0) (c:aE):Prop where
 ty:∀M h,G.K.In h->lM M h (iN c) (.type "type")
 is:∀M h,G.K.In h->lM M h (Ol c) ai
theorem Ke(h:HY G.K (.ref C)=ac (.type "type"))(hc:(Rm G.K C).isSome=ai):pV G (.ref C):=by
 refine⟨fun M zz X=>looks_typeIn X h,fun M zz X=>?_⟩;refine aY (cu.mp hc) ?_;clear hc;intro cd hc;unfold Rm at hc;split at hc
 .rename_i q
  exact(CU (X _ _ q)).andThen .now
 .injection hc
theorem Hy{T:String}(h:pureOf (builtinType T)=ac (.type "type")\/iN (.type T)=pure (.type "type"))(h2:iN (.type T)=pure (.type "type")):pV G (.type T):=⟨fun zz zz zz=>ig h2,fun zz zz zz=>.now⟩
theorem Iq{C:aE->aE->Prop}(hi:Is G.prog G.w V d v)(h:R3 d=ac tv)(hn:C .none (.type "NoneType"))(hb:∀b,C (.bool b) (.type "bool"))(hI:∀i t,C (.int i t) (.type "int"))(hs:∀x t,C (.str x t) (.type "str"))(hr:∀a o T,V a=ac o->o.cls=.type T->T = "tuple"\/T = "list"\/T = "dict"->C (.ref a) (.type T))(hc:∀A l v,Is G.prog G.w V (.inst A l) v->C v (.ref A)):C v tv:=by
 cases d with
 |raw u=>
  refine aZ (aT.mp hi) fun z zz=>?_;subst z;cases v with
  |none=>injection h with h;subst h;exact hn
  |bool b=>injection h with h;subst h;exact hb b
  |_=>injection h
 |int i=>injection h with h;subst h;refine aY (bA.mp hi) fun t z=>?_;subst z;exact hI _ _
 |str x=>injection h with h;subst h;refine aY (ir.mp hi) fun t z=>?_;subst z;exact hs _ _
 |tup l=>injection h with h;subst h;refine eh hi fun a o vs n z h1 h2 zz=>?_;subst z;exact hr _ _ _ h1 h2 (.inl rfl)
 |lst l=>injection h with h;subst h;refine eh hi fun a o vs n z h1 h2 zz=>?_;subst z;exact hr _ _ _ h1 h2 (.inr (.inl rfl))
 |sdic l=>injection h with h;subst h;refine bU hi fun a o vs z h1 zz h2 zz=>?_;subst z;refine cY h2 fun zz zz he zz=>?_;exact hr _ _ _ h1 he.1 (.inr (.inr rfl))
 |idic l=>injection h with h;subst h;refine bU hi fun a o vs z h1 zz h2 zz=>?_;subst z;refine cY h2 fun zz zz he zz=>?_;exact hr _ _ _ h1 he.1 (.inr (.inr rfl))
 |inst A l=>injection h with h;subst h;exact hc _ _ _ hi
 |_=>injection h
theorem NH{v tv:aE}(hi:Is G.prog G.w V d v)(k:Kp V s.heap.get?)(h:R3 d=ac tv):lM (bf G.prog G.w) s.heap (iN v) tv:=Iq (C:=fun v tv=>lM (bf G.prog G.w) s.heap (iN v) tv) hi h (.of_pure rfl) (fun zz=>.of_pure rfl) (fun zz zz=>.of_pure rfl) (fun zz zz=>.of_pure rfl) (fun a o T e hc zz=>hc▸(CU (k _ _ e)).andThen .now) fun A l v hi=>by refine fE hi fun a o vs n z h1 zz=>?_;subst z;exact(CU (o:=cn _ o) (k _ _ h1)).andThen .now
theorem zZ{K:Ot}{x C L:aW}{h_0:jl}{m:aV->Option aE}(X:K.In s.heap)(I:InstAt s.heap x ox C (ac od))(hc:K2 K C "__class__" = ai)(hh:hasDictIn K C=ai)(ha:kB K (.ref C) "__class__" = ac (ac (.builtin "object.__class__")))(hn:specialIn K (.builtin "object.__class__") "__get__" = ac (ac (.builtin "getset_descriptor.__get__")))(ht:takesIn K (.builtin "object.__class__")=ac ai)(hm:mroIn K C (.type "object")=ac ai)(h:P (.ref C) s):bd (bf G.prog G.w) A (RI (.ref x) (.str "__class__" tk) ak) P E s:=by obtain⟨hh',g,d,t,os⟩:=s;have L0:=I.type (M:=bf G.prog G.w);have L1:=jU (M:=bf G.prog G.w) X (r4 hc).1;unfold RI;refine bG (ah (L0.at (ah (L1.at ?_))));show bd _ _ (getAttrEveryday _ _ _) _ _ _;have hf:findObj K C (ac od) "__class__" = ac (.bind (.builtin "getset_descriptor.__get__") (.builtin "object.__class__")):=findObj_data (by refine ar (W8 hh) fun cd hc zz=>?_;rw[hc];rfl) ha hn ht;have L2:=looks_find (M:=bf G.prog G.w) X I hf;have L3:=jU (M:=bf G.prog G.w) X (r4 hc).2;refine ah (FG (CN (jb F.plainObj_entry_getattr_hooked ?_)));refine ah (aH (ah (L0.at (ah (L2.at (ah (L3.at ?_)))))));show bd _ _ (holding [_] (call _ [_,.ref x,.ref C]) >>= ret) _ _ _;exact ah (bG (kA (class_get (s:=⟨hh',g,d,t,os⟩) (ox:=ox) (od:=ac od) X I hm (aH (handed_on rfl h)))))
structure CB (G:G0) (C:aW):Prop where
 ok:my G C
 cls:kB G.K (.ref C) "__class__" = ac (ac (.builtin "object.__class__"))
 get:specialIn G.K (.builtin "object.__class__") "__get__" = ac (ac (.builtin "getset_descriptor.__get__"))
 takes:takesIn G.K (.builtin "object.__class__")=ac ai
 obj:mroIn G.K C (.type "object")=ac ai
 v:pV G (.ref C)
theorem Cp(X:G.K.In s.heap)(hi:Is G.prog G.w V d v)(k:Kp V s.heap.get?)(h:R3 d=ac tv)(hC:∀C,tv=.ref C->CB G C)(q:P (ac tv) {s with toks:=s.toks+1}):bd (bf G.prog G.w) A (w0 v "__class__") P E s:=by
 obtain⟨hh,g,dd,tt,os⟩:=s;refine Iq (C:=fun v tv=>(∀C,tv=.ref C->CB G C)->P (ac tv) ⟨hh,g,dd,tt+1,os⟩->bd (bf G.prog G.w) A (w0 v "__class__") P E ⟨hh,g,dd,tt,os⟩) hi h (fun zz q=>class_attr_none q) (fun zz zz q=>class_attr_bool q) (fun zz zz zz q=>class_attr_int q) (fun zz zz zz q=>class_attr_str q) (fun a o T e hc hT zz q=>?_) (fun C l v hi hC q=>?_) hC q
 .rcases hT with rfl|rfl|rfl
  .exact class_attr_tuple (k _ _ e) hc q
  .exact class_attr_list (k _ _ e) hc q
  .exact class_attr_dict (k _ _ e) hc q
 .have c:=hC _ rfl
  refine fE (zV (s:=⟨hh,g,dd,tt,os⟩) hi k) fun a dx es n z19 I zz=>?_;subst z19;unfold w0 getAttrBy?;refine ah (wpAny_mkText (ah (FI ?_)));exact zZ (L:=0) (h_0:=hh) (m:=fun zz=>aq) (s:=⟨hh,g,dd,tt+1,os⟩) X I (j9 c.ok.plain) c.ok.dict c.cls c.get c.takes c.obj (aH q)
theorem Kj{r:Bool}(O:B.Ok G)(ht:R3 d=ac tv)(hs:Rh G.K tv c=ac r)(he:(tv==c)=ai->r=ai)(hc:pV G c)(hC:∀C,tv=.ref C->CB G C)(q:Q (.bool r) Y Z):cI G B E (.builtin "isinstance") [d,.raw c] Y Z Q:=by intro V s vs S hi;refine aM (aG.mp hi) ?_;clear hi;intro v r1 z20 iv hi;subst z20;refine aM (aG.mp hi) ?_;clear hi;intro c' r2 z21 ic hi;subst z21;obtain rfl:=be.mp hi;refine aZ (aT.mp ic) fun z22 zz=>?_;subst z22;have X:=S.kin O;have Lt:=NH iv S.vh ht;refine aZ (Iq (C:=fun v tv=>(∀C,tv=.ref C->CB G C)->lM (bf G.prog G.w) s.heap (Ol tv) ai/\v≠.builtin "__main__.__loader__#opaque") iv ht (fun zz=>⟨.now,fun h=>nomatch h⟩) (fun zz zz=>⟨.now,fun h=>nomatch h⟩) (fun zz zz zz=>⟨.now,fun h=>nomatch h⟩) (fun zz zz zz=>⟨.now,fun h=>nomatch h⟩) (fun zz zz zz zz zz zz zz=>⟨.now,fun h=>nomatch h⟩) (fun C l v hi hC=>⟨(hC C rfl).v.is _ _ X,fun e=>by refine fE hi fun a o vs n z h1 zz=>?_;rw[z] at e;injection e⟩) hC) fun Lv hx=>?_;refine Fv F.kind_isinstance F.plain_isinstance F.entry_isinstance (F.args_isinstance_2 _ _) (RH ?_ hx);refine oJ X Lt (hc.ty _ _ X) (hc.is _ _ X) (looks_subIn X hs) Lv he (fun zz P hP=>Cp X iv S.vh ht hC hP) fun t=>?_;exact⟨_,Y,Z,V,S.sat_toks t,.refl _,aT.mpr ⟨rfl,rfl⟩,q⟩
noncomputable def CI(B:Bx)(V:Vw)(Z:Mu)(s:ay):Bx:={B with V0:=V,m0:=Z.map (·.1),s0:=s}
theorem Bx.Ok.re(O:B.Ok G)(S:b9 (cx G B) V Y Z s):(CI B V Z s).Ok G:=⟨O.g,⟨O.c.fn,O.c.loc,O.c.glo,O.c.bui⟩,O.room,O.calm,by refine ar (S.stk O) fun l hl h=>?_;refine bq l hl (fun env he=>?_);refine gB (h env he) fun a f o b c d e e'=>?_;exact⟨a,f,b,.inr ⟨c,d,o,e,e'⟩⟩⟩
theorem b9.dropAll(S:b9 (cx G B) V Y (Zo++Z) s):b9 (cx G B) V Y Z s:=by induction Zo with|nil=>exact S|cons p r ih=>exact ih S.drop
theorem b9.readd(O:B.Ok G)(S:b9 (cx G B) V Y (Zo++Z) s)(S':b9 (cx G (CI B V Z s)) V' Y' Z' s'):b9 (cx G B) V' Y' (Zo++Z') s':=by
 have U:=S.dropAll.unbase S';have dj:=av.mp S.dj;have dj':=av.mp U.dj;have dd:=dj.2;rw[aA,bC] at dd;have mem:∀{p},p∈Zo->p∈Zo++Z:=fun h=>bF _ h;have nm:∀p∈Zo,p.1∉Z.map (·.1):=fun p hp q=>dd.2.2 _ (ax hp) _ q rfl;have nL:∀p∈Zo,p.1≠B.L:=fun p hp e=>dj.1 (az.mpr (bq p (mem hp) e));have same:∀p∈Zo,s'.heap.get? p.1=s.heap.get? p.1:=fun p hp=>by refine aY ((S.mu p (mem hp)).at) fun o ho=>?_;refine ar (S'.pr p.1 o (nm p hp) (nL p hp) ho) fun o' ho' nr=>?_;rw[nr.1 fun z=>((S.stk O).fro z).2.1 (ax (mem hp))] at ho';exact ho'.trans ho.symm
 have v':∀p∈Zo,V' p.1=aq:=fun p hp=>by
  cases q:V' p.1 with|none=>rfl|some o=>
   rcases S'.fr p.1 (by rw[q];simp) with z|z;.exact absurd (S.vm p (mem hp)) z
   .exact absurd (S.muLt (mem hp)) (bu.mpr z)
 have nm':∀p∈Zo,p.1∉Z'.map (·.1):=fun p hp q=>by
  refine ar (az.mp q) fun r hr e=>?_;rcases S'.mf r hr with z|z;.exact nm p hp (e▸z)
  .exact absurd (S.muLt (mem hp)) (bu.mpr (e▸z))
 refine⟨U.m,U.nd,fun p hp=>?_,?_,U.vh,U.vL,fun p hp=>?_,U.fr,U.v0,U.b0,fun p hp=>?_,U.pr,U.sz,U.hk,U.rest⟩
 .rcases aJ.mp hp with h|h
  .exact(S.mu p (mem h)).mono S'.v0 (same p h)
  .exact U.mu p h
 .refine av.mpr ⟨fun q=>?_,?_⟩
  .refine ar (az.mp q) fun r hr e=>?_
   rcases aJ.mp hr with h|h;.exact nL r h e
   .exact dj'.1 (az.mpr (bq r h e))
  .rw[aA,bC]
   refine jT dd.1 dj'.2 (fun a ha b hb e=>?_);refine ar (az.mp ha) fun r hr er=>?_;subst er;exact nm' r hr (e▸hb)
 .rcases aJ.mp hp with h|h
  .exact v' p h
  .exact U.vm p h
 .rcases aJ.mp hp with h|h
  .exact S.mf p (mem h)
  .exact U.mf p h
structure Nt (G:G0) (B:Bx) (V_0:Vw) (own:Nat->Mu) (it:aE) (ds:List DV):Prop where
 next:∀{i:Nat}{d:DV},ds[i]?=ac d->∀{V:Vw}{Y:aP}{Z:Mu}{s:ay}{P:Option aE->ay->Prop}{E:aE->ay->Prop},Kp V_0 V->b9 (cx G B) V Y (own i++Z) s->(∀u s' V',b9 (cx G B) V' Y (own (i+1)++Z) s'->Kp V V'->Is G.prog G.w V' d u->P (ac u) s')->bd (bf G.prog G.w) B.A (CP it) P E s
 last:∀{V:Vw}{Y:aP}{Z:Mu}{s:ay}{P:Option aE->ay->Prop}{E:aE->ay->Prop},Kp V_0 V->b9 (cx G B) V Y (own ds.length++Z) s->(∀s' V',b9 (cx G B) V' Y Z s'->Kp V V'->P aq s')->bd (bf G.prog G.w) B.A (CP it) P E s
 self:∀{i:Nat}{V:Vw}{Y:aP}{Z:Mu}{s:ay}{P:aE->ay->Prop}{E:aE->ay->Prop},Kp V_0 V->b9 (cx G B) V Y (own i++Z) s->P it s->bd (bf G.prog G.w) B.A (pyIter it) P E s
def qK(G:G0)(B:Bx)(E:aE->ay->Prop)(d:DV)(ds:List DV)(Y:aP)(Z Z':Mu):Prop:=∀V s v P,b9 (cx G B) V Y Z s->Is G.prog G.w V d v->(∀it own s' V',b9 (cx G B) V' Y (own 0++Z') s'->Kp V V'->Nt G B V' own it ds->P it s')->bd (bf G.prog G.w) B.A (pyIter v) P E s
abbrev AS(G:G0)(B:Bx)(E:aE->ay->Prop)(target:bZ)(d:DV)(Y:aP)(Z:Mu)(Q:aP->Mu->Prop):Prop:=O1 G B E (fun zz (zz  : Unit) zz=>True) (assign target B.env) d Y Z (fun zz Y' Z'=>Q Y' Z')
theorem AA{Q:aP->Mu->Prop}(O:B.Ok G)(hp:pK Y x d Y')(q:Q Y' Z):AS G B E (.Name x pos) d Y Z Q:=by intro V s v S hi;show bd _ _ (do sZ pos;bindName B.env x v) _ _ _;exact ah (cG (c8 (gK O S hi hp fun s' S'=>⟨(),Y',Z,V,S',.refl _,trivial,q⟩)))
def ES(target:bZ):Prop:=∀it v,VZ target it v=pure ()
def wK(G:G0)(B:Bx)(H:Bx->Prop)(target:bZ)(body:List jW)(d:DV)(J:aP->Mu->Prop)(Q:Fl->aP->Mu->Prop)(Y2:aP)(Z2:Mu):Prop:=∀B',B'.Ok G->H B'->B'.env=B.env->B'.k=B.k->B'.hd=B.hd->B'.m0=Z2.map (·.1)->AS G B' (fun zz zz=>False) target d Y2 Z2 fun Y3 Z3=>EX G B' (fun zz zz=>False) (eG body B'.env) Y3 Z3 fun fl Y4 Z4=>match fl with|.next=>J Y4 Z4|.cont=>J Y4 Z4|.brk=>Q .next Y4 Z4|.ret d=>Q (.ret d) Y4 Z4
theorem B4{Q:Fl->aP->Mu->Prop}{N:ay->Prop}{T:yL->ay->Prop}(O:B.Ok G)(S:b9 (cx G B) V Y (own++Z) s)(iu:Is G.prog G.w V d u)(hH:H (CI B V Z s))(st:wK G B H target body d J Q Y Z)(hn:∀Y4 Z4 V5 s_5,b9 (cx G B) V5 Y4 (own++Z4) s_5->Kp V V5->J Y4 Z4->N s_5)(hq:∀f fl Y4 Z4 V5 s_5,b9 (cx G B) V5 Y4 Z4 s_5->Kp V V5->wL G.prog G.w V5 fl f->Q fl Y4 Z4->T (.ok f) s_5):bd (bf G.prog G.w) B.A (assign target B.env u) (fun zz s_2=>bd (bf G.prog G.w) B.A (eG body B.env) (fun f s_3=>match f with|.next|.cont=>N s_3|.brk=>T (.ok .next) s_3|.ret v=>T (.ok (.ret v)) s_3) E2 s_2) E_1 s:=by
 have D:=S.dropAll;refine aQ (st (CI B V Z s) (O.re D) hH rfl rfl rfl rfl V s u D.rebase iu) (fun zz s_4 z=>iK z fun zz Y3 Z3 V4 S_4 k_4 zz hb=>aQ (hb V4 s_4 S_4) (fun f s_5 z=>iK z fun fl Y4 Z4 V5 S_5 k_5 hf h=>?_) fun zz zz x=>x.elim) fun zz zz x=>x.elim;cases fl with
 |next=>obtain rfl:f=.next:=hf;exact hn _ _ _ _ (S.readd O S_5) (k_4.trans k_5) h
 |cont=>obtain rfl:f=.cont:=hf;exact hn _ _ _ _ (S.readd O S_5) (k_4.trans k_5) h
 |brk=>obtain rfl:f=.brk:=hf;exact hq .next .next _ _ _ _ (D.unbase S_5) (k_4.trans k_5) rfl h
 |ret d=>refine ar hf ?_;clear hf;intro v z5 hv;subst z5;exact hq (.ret v) (.ret d) _ _ _ _ (D.unbase S_5) (k_4.trans k_5) (bq v rfl hv) h
def VL(G:G0)(B:Bx)(V:Vw)(own:Nat->Mu)(N:Nat)(I:Nat->aP->Mu->Prop)(n:Nat)(s:ay):Prop:=∃i Y2 Z2 V',i<=N/\n=N-i/\b9 (cx G B) V' Y2 (own i++Z2) s/\Kp V V'/\I i Y2 Z2
theorem JC{I:Nat->aP->Mu->Prop}{Q:Fl->aP->Mu->Prop}(O:B.Ok G)(K:Nt G B V own it ds)(S:b9 (cx G B) V Y (own 0++Z) s)(h0:I 0 Y Z)(hH:∀V_3 Z2 s_3,H (CI B V_3 Z2 s_3))(st:∀i d,ds[i]?=ac d->∀Y2 Z2,I i Y2 Z2->wK G B H target body d (I (i+1)) Q Y2 Z2)(hend:∀Y2 Z2,I ds.length Y2 Z2->Q .next Y2 Z2)(hq:∀f fl Y4 Z4 V5 s_5,b9 (cx G B) V5 Y4 Z4 s_5->Kp V V5->wL G.prog G.w V5 fl f->Q fl Y4 Z4->T (.ok f) s_5)(hlet:ES target):fJ (bf G.prog G.w) B.A (.forLoop target it body [] B.env) T s:=by
 refine codeAny_forLoop (VL G B V own ds.length I) (fun n s' z=>iG z fun i Y2 Z2 V' hi hn S' k' hI=>?_) ds.length (jw 0 Y Z V (a7 _) rfl S (.refl _) h0) (fun v=>hlet it v);cases hd:ds[i]? with
 |none=>have e:i=ds.length:=w4 hi (gX.mp hd);exact K.last k' (e▸S') fun s_3 V_3 S_3 k_3=>ja (hq .next .next _ _ _ _ S_3 (k'.trans k_3) rfl (hend _ _ (e▸hI)))
 |some d=>have hlt:i<ds.length:=(cq.mp hd).1;exact K.next hd k' S' fun u s_3 V_3 S_3 k_3 iu=>B4 O S_3 iu (hH _ _ _) (st i d hd Y2 Z2 hI) (fun Y4 Z4 V5 s_5 RA k h=>⟨ds.length-(i+1),hn▸XX hlt,i+1,Y4,Z4,V5,hlt,rfl,RA,k'.trans (k_3.trans k),h⟩) fun f fl Y4 Z4 V5 s_5 UB k hf h=>hq f fl _ _ _ _ UB (k'.trans (k_3.trans k)) hf h
theorem MF{Q:Fl->aP->Mu->Prop}(O:B.Ok G)(hH:∀V_3 Z2 s_3,H (CI B V_3 Z2 s_3))
  (h:EV G B E (a9 iter B.env) Y Z fun d Y1 Z1=>∃ds Z',qK G B E d ds Y1 Z1 Z'/\∃I:Nat->aP->Mu->Prop,I 0 Y1 Z'/\
   (∀i d,ds[i]?=ac d->∀Y2 Z2,I i Y2 Z2->wK G B H target body d (I (i+1)) Q Y2 Z2)/\
   (∀Y2 Z2,I ds.length Y2 Z2->Q .next Y2 Z2))
  (hlet:ES target) (hset:∀x,jV iter B.env x=pure x):EX G B E (fc (.For target iter body [] pos) B.env) Y Z Q:=fun V s S=>
 wpAny_For (WP.use h S (fun x s_1 d Y1 Z1 V_1 S_1 k_1 i_1 z2=>Hn z2 fun ds Z' hit I hI0 hstep hend=>hit V_1 s_1 x _ S_1 i_1 fun it own s_2 V_2 S_2 k_2 K=>JC O K S_2 hI0 hH hstep hend (fun f fl Y4 Z4 V5 s_5 S_5 k hf hq=>⟨fl,Y4,Z4,V5,S_5,k_1.trans (k_2.trans k),hf,hq⟩) hlet)) hset
theorem so(h:Runs M Γ p t fs s e s'):s.heap.objs.size<=s'.heap.objs.size:=by induction h with|update _ _ ih=>simpa[uE] using ih|alloc _ ih=>rw[show(({heap:=_,gens:=_,drawn:=_,toks:=_,os:=_}:ay).heap)=_ from rfl,bV] at ih;exact mB ih|call _ _ ih1 ih2=>exact ae ih1 ih2|resumeFresh _ _ _ _ ih1 ih2=>exact ae ih1 ih2|resumeSuspended _ _ _ _ ih1 ih2=>exact ae ih1 ih2|segRet _ _ ih1 ih2=>exact ae ih1 ih2|segGen _ _ ih1 ih2=>exact ae ih1 ih2|segSuspGen _ _ _ _ ih1 ih2=>exact ae ih1 ih2|_=>first|assumption|exact aI _
theorem C1(h:Wakes M Γ p g r s res s'):s.heap.objs.size<=s'.heap.objs.size:=by
 unfold Wakes at h;split at h;.exact h.elim
 .split at h
  .refine bB h ?_
   clear h;intro e_1 s_1 h1 zz zz z1;subst z1;have:=so h1;exact this
  .rw[h.2];exact aI _
  .rw[h.2];exact aI _
 .refine bB h ?_
  clear h;intro e_1 s_1 h1 zz zz z2;subst z2;have:=so h1;exact this
 .rw[h.2];exact aI _
 .rw[h.2];exact aI _
theorem Lp{Q:α->xH->ay->Prop}{E:aE->xH->ay->Prop}:∀{p:xH}{s:ay},CS M Γ t Q E p s->CS M Γ t (fun a p' s'=>s.heap.objs.size<=s'.heap.objs.size/\Q a p' s') (fun e p' s'=>s.heap.objs.size<=s'.heap.objs.size/\E e p' s') p s:=by
 have up:∀{t:HN α}{n m:Nat}{p:xH}{s:ay},n<=m->CS M Γ t (fun a p' s'=>m<=s'.heap.objs.size/\Q a p' s') (fun e p' s'=>m<=s'.heap.objs.size/\E e p' s') p s->CS M Γ t (fun a p' s'=>n<=s'.heap.objs.size/\Q a p' s') (fun e p' s'=>n<=s'.heap.objs.size/\E e p' s') p s:=fun hnm h=>FL M Γ _ (fun zz zz zz x=>⟨ae hnm x.1,x.2⟩) (fun zz zz zz x=>⟨ae hnm x.1,x.2⟩) _ _ h;induction t with
 |pure a=>intro p s h;exact⟨aI _,h⟩
 |raise v=>intro p s h;exact⟨aI _,h⟩
 |unsupported|finish|yield|fork|await|register=>intro p s h;exact h
 |rule _ k ih|«at» _ k ih|loadIfAlive _ k ih|point _ k ih|ask k ih|handled _ k ih|stack k ih|thread k ih=>intro p s h;exact ih _ h
 |fresh k ih=>intro p s h;exact ih _ h
 |os _ _ k ih=>intro p s h;exact ih _ h
 |newGen _ k ih=>intro p s h;exact ih _ h
 |alloc o k ih=>intro p s h;exact up (by rw[show(({s with heap:=s.heap.push o}:ay).heap)=_ from rfl,bV];exact cD _) (ih _ h)
 |load a _ k ih=>intro p s ⟨o,ho,h⟩;exact⟨o,ho,ih _ h⟩
 |genState a k ih=>intro p s ⟨o,ho,h⟩;exact⟨o,ho,ih _ h⟩
 |update a _ f k ih=>intro p s ⟨ha,h⟩;exact⟨ha,up (by simp[uE]) (ih _ h)⟩
 |choose _ _ k ih=>intro p s ⟨ha,h⟩;exact⟨ha,ih _ h⟩
 |call c h g l k ih=>intro p s ⟨r,s',hr,hk⟩;exact⟨r,s',hr,up (so hr) (ih _ hk)⟩
 |resume g r l k ih=>intro p s ⟨res,s',hw,hk⟩;exact⟨res,s',hw,up (C1 hw) (ih _ hk)⟩
theorem b5{Q:α->ay->Prop}(h:bd M A t (fun a s'=>s.heap.objs.size<=s'.heap.objs.size->Q a s') (fun e s'=>s.heap.objs.size<=s'.heap.objs.size->E e s') s):bd M A t Q E s:=fun Γ p hΓ=>FL M Γ t (fun zz zz zz x=>x.2 x.1) (fun zz zz zz x=>x.2 x.1) p s (Lp (h Γ p hΓ))
theorem xA:W5 table "proto.unchain" = ac gT.«proto.unchain»:=RK (by kernel_rfl)
theorem vk{Q:α->ay->Prop}{V:Vw}{vs:Array aE}(hH:CL A V)(k:Kp V s.heap.get?)(ho:s.heap.get? a=ac o)(hd:o.data=.fields vs)(hs:2<vs.size)(hV:V a=aq)(h:∀h' o',h'.get? a=ac o'->o'.cls=o.cls->nO a s.heap h'->E (.ref a) {s with heap:=h'}):bd (bf prog w) A (raiseNew (.ref a):HN α) Q E s:=by
 unfold raiseNew;refine ah (wpAny_handled ?_);rcases hH with hh|⟨e,oe,ve,hh,he,hed,h2⟩
 .rw[hh]
  exact ah (aH (wpAny_throw (h s.heap o ho rfl (Ws ..))))
 .rw[hh]
  have ne:(cs e != cs a)=ai:=by
   have:e≠a:=fun q=>by subst q;rw[hV] at he;injection he
   simp[this]
  dsimp only;rw[if_pos ne];refine ah (bG (CN (jb xA ?_)));unfold gT.«proto.unchain»;dsimp only;refine ah (rX (k _ _ he) hed h2 ?_);show bd _ _ (if(dn==dn)=ai then _ else _) _ _ _;rw[if_pos (by decide)];refine ah (aH (aH ?_));unfold updateField;refine ah (ah (Od ho ?_));rw[hd];dsimp only;rw[if_pos hs];refine wpAny_update ho (wpAny_throw (h _ _ (cp _ ho (pO (lC hd _))) (Obj.cls_mapFields ..) (cW ..)))
theorem Du{Q:Option aE->ay->Prop}(hH:CL A V)(kV:Kp V s.heap.get?)(hV:V it=aq)(hit:s.heap.IsListIter it l i)(hl:s.heap.IsList l items)(hx:items[i]?=aq)(hQ:∀h',lR it s.heap h'->Q aq {s with heap:=h'}):bd (bf prog w) A (CP (.ref it)) Q E s:=by
 refine bp (id hit) fun o ho hc hd=>?_;refine Fg hl ?_;clear hl;intro ol hol zz nl hdl;unfold CP;refine ah (FI (HJ (name:=aa "__next__") hit.typeIs Og (kz Og hit.typeIs entry_listiter_next ?_ (args_listiter_next _))));show bd _ _ (field (.ref it) 0 >>= _) _ _ s;refine ah (rX ho hd (x:=.ref l) rfl ?_);show bd _ _ (if(cs l==dn)=ai then _ else _) _ _ s;rw[if_neg (show ¬((cs l==dn)=ai) from HS)];show bd _ _ (field (.ref it) 1 >>= _) _ _ s;refine ah (rX ho hd (x:=.int i 0) rfl ?_);show bd _ _ (seqItems? (.ref l) >>= _) _ _ s;refine ah (WS hol hdl ?_);dsimp only;rw[mD,hx];refine ah (qi (ah (CM ho hd (by simp) ?_)));show bd _ _ (WX (.type "StopIteration") [] >>= _) _ _ _;refine ah ?_;simp only[WX,WW];refine ah (dm ?_ (by size_fits));refine ah (m:=r6 _ _) (hO (a:=dn) (by first|rfl|(simp only[r6];rfl)) ?_);refine dm ?_ (by size_fits);have kk:∀f o1 o2,lR it s.heap (((s.heap.update it f).push o1).push o2):=fun f o1 o2=>(((cW ..).extBut.push _).push _)
 have sz:∀f o1,((s.heap.update it f).push o1).objs.size=s.heap.objs.size+1:=fun f o1=>by simp[bV,uE]
 refine vk (V:=V) hH (fun b x e=>kk _ _ _ b x (fun q=>by subst q;rw[hV] at e;injection e) (kV _ _ e)) (aN _ rfl) rfl (by rw[HT];show 2<6+_;exact Tw) ?_ fun h' o' ho' hc' hs=>?_
 .rw[sz]
  cases q:V (s.heap.objs.size+1) with|none=>rfl|some x=>exact absurd (aR (kV _ _ q)) (bu.mpr (cD _))
 .refine ah (Rz (T:="StopIteration") (b:=ai) (bq _ ho' (by rw[hc'])) W0 ?_)
  refine aH (hQ _ fun b x n e=>(hs.2 b (fun q=>?_)).trans (kk _ _ _ b x n e));rw[sz] at q;exact absurd (q▸aR e) (bu.mpr (cD _))
theorem b9.turn0{mo mo':MO}(S:b9 (cx G B) V Y ((a,mo)::Z) s){t:Nat}(hs:nO a s.heap h')(hm:jv G.prog G.w V h'.get? a mo'):b9 (cx G B) V Y ((a,mo')::Z) {s with heap:=h',toks:=t}:=b9.turn (Z1:=[]) S hs hm
theorem b9.gone(S:b9 (cx G B) V Y ((a,mo)::Z) s){t:Nat}(hx:lR a s.heap h')(hsz:s.heap.objs.size<=h'.objs.size):b9 (cx G B) V Y Z {s with heap:=h',toks:=t}:=by
 have dj:=av.mp S.dj;have dj2:=av.mp (au▸dj.2);have nL:B.L≠a:=fun e=>dj.1 (e▸.head _);have nm:∀p∈Z,p.1≠a:=fun p hp e=>dj2.1 (az.mpr (bq p hp e));have hVa:V a=aq:=S.vm (a,mo) (.head _);have hma:=S.mf (a,mo) (.head _);have D:=S.drop;refine ar S.m ?_;(try clear m);intro m hn he;refine⟨(bq m (hn.extBut hx nL) he),D.nd,fun p hp=>?_,D.dj,fun b o e=>?_,D.vL,D.vm,D.fr,D.v0,D.b0,D.mf,fun b o n l e=>?_,ae D.sz hsz,D.hk,D.rest⟩
 .refine aY ((D.mu p hp).at) fun o ho=>?_
  exact(D.mu p hp).mono (.refl _) ((hx _ _ (nm p hp) ho).trans ho.symm)
 .exact hx _ _ (fun q=>by subst q;rw[hVa] at e;injection e) (D.vh _ _ e)
 .refine ar (D.pr b o n l e) fun o' e' r=>?_
  refine bq o' (hx _ _ (fun q=>?_) e') r;subst q;rcases hma with z|z;.exact n z
  .exact absurd (aR e) (bu.mpr z)
theorem ln:∀{vs:List aE}{i:Nat}{d:DV},gP G.prog G.w V ds vs->ds[i]?=ac d->∃v,vs[i]?=ac v/\Is G.prog G.w V d v:=by
 induction ds with
 |nil=>intro vs i d _ h;simp at h
 |cons x r ih=>intro vs i d h hd;refine aM (aG.mp h) fun v rs z1 a b=>?_;subst z1;cases i with|zero=>simp at hd;subst hd;exact bq v (by simp) a|succ n=>simp at hd;refine ar (ih b hd) fun u hu iu=>?_;exact bq u (by simpa using hu) iu
theorem cA(O:B.Ok G):qK G B E (.lst ds) ds Y Z Z:=by
 intro V s v P S hi q;have hi':=hi;refine bE hi' ?_;clear hi';intro l o vs n z2 h1 h2 h3 h4 h5;subst z2;have L:∀{V':Vw}{s':ay},Kp V V'->Kp V' s'.heap.get?->s'.heap.IsList l vs:=fun k k'=>(dK o (k' _ _ (k _ _ h1)) h2 n h4)
 refine wY (L (.refl _) S.vh) ?_;let own:Nat->Mu:=fun i=>[(s.heap.objs.size,.pr fun o=>o.cls=.type "list_iterator"/\o.data=.fields #[.ref l,.int i 0])]
 refine q _ own _ V (S.allocMu O.c _ _ rfl (cB _ (aN _ rfl) rfl rfl)) (.refl _) ⟨?_,?_,fun k S' q'=>by refine bp (S'.mu _ (.head _)) fun oi ho hc hdt=>?_;exact wpAny_pyIter_listiter (cB oi ho hc hdt) q'⟩
 .intro i d hd V' Y' Z' s' P E' k S' q'
  refine ar (ln h5 hd) fun u hu iu=>?_;refine bp (S'.mu _ (.head _)) fun oi ho hc hdt=>?_;exact HW (cB oi ho hc hdt) (L k S'.vh) (by simpa using hu) fun h' hi' hs'=>q' u _ V' (S'.turn0 (mo':=.pr fun o=>o.cls=.type "list_iterator"/\o.data=.fields #[.ref l,.int (i+1:Nat) 0]) hs' hi') (.refl _) (iu.mono k)
 .intro V' Y' Z' s' P E' k S' q'
  refine bp (S'.mu _ (.head _)) fun oi ho hc hdt=>?_;have hx:vs[ds.length]?=aq:=by rw[<-bb h5];simp
  exact b5 (Du S'.hk S'.vh (S'.vm _ (.head _)) (cB oi ho hc hdt) (L k S'.vh) hx fun h' hx' hz=>q' _ V' (S'.gone hx' hz) (.refl _))
theorem qB(O:B.Ok G)(hn:B.hd=ak):qK G B E (.tup ds) ds Y Z Z:=by
 intro V s v P S hi q;have hi':=hi;refine bE hi' ?_;clear hi';intro l o vs n z3 h1 h2 h3 h4 h5;subst z3;have L:∀{V':Vw}{s':ay},Kp V V'->Kp V' s'.heap.get?->s'.heap.IsTuple l vs:=fun k k'=>(dK o (k' _ _ (k _ _ h1)) h2 n h4)
 refine wpAny_pyIter_tuple (L (.refl _) S.vh) ?_;let own:Nat->Mu:=fun i=>[(s.heap.objs.size,.pr fun o=>o.cls=.type "tuple_iterator"/\o.data=.fields #[.ref l,.int i 0])]
 refine q _ own _ V (S.allocMu O.c _ _ rfl (cB _ (aN _ rfl) rfl rfl)) (.refl _) ⟨?_,?_,fun k S' q'=>by refine bp (S'.mu _ (.head _)) fun oi ho hc hdt=>?_;exact wpAny_pyIter_tupleiter (cB oi ho hc hdt) q'⟩
 .intro i d hd V' Y' Z' s' P E' k S' q'
  refine ar (ln h5 hd) fun u hu iu=>?_;refine bp (S'.mu _ (.head _)) fun oi ho hc hdt=>?_;exact wpAny_pyNext_tuple_item (cB oi ho hc hdt) (L k S'.vh) (by simpa using hu) fun h' hi' hs'=>q' u _ V' (S'.turn0 (mo':=.pr fun o=>o.cls=.type "tuple_iterator"/\o.data=.fields #[.ref l,.int (i+1:Nat) 0]) hs' hi') (.refl _) (iu.mono k)
 .intro V' Y' Z' s' P E' k S' q'
  refine bp (S'.mu _ (.head _)) fun oi ho hc hdt=>?_;have hx:vs[ds.length]?=aq:=by rw[<-bb h5];simp
  exact b5 (wpAny_pyNext_tuple_end (O.calm hn) (cB oi ho hc hdt) (L k S'.vh) hx fun h' hx' hz=>q' _ V' (S'.gone hx' hz) (.refl _))
theorem Mi{ds:List (aV×DV)}:∀{vs:List (aV×aE)}{i:Nat}{x:aV}{d:DV},Cy G.prog G.w V ds vs->ds[i]?=ac (x,d)->∃v,vs[i]?=ac (x,v)/\Is G.prog G.w V d v:=by
 induction ds with
 |nil=>intro vs i x d _ h;simp at h
 |cons p r ih=>
  obtain⟨y,dy⟩:=p;intro vs i x d h hd;refine aM h ?_;clear h;intro v rs z4 a b;subst z4;cases i with
  |zero=>simp at hd;refine aZ hd ?_;clear hd;intro z5 z6;subst z5;subst z6;exact bq v (by simp) a
  |succ n=>simp at hd;refine ar (ih b hd) fun u hu iu=>?_;exact bq u (by simpa using hu) iu
theorem DB{ds:List (aV×DV)}:∀{vs:List (aV×aE)},Cy G.prog G.w V ds vs->vs.length=ds.length:=by
 induction ds with
 |nil=>intro vs h;subst h;rfl
 |cons p r ih=>obtain⟨y,dy⟩:=p;intro vs h;refine aM h ?_;clear h;intro v rs z7 a b;subst z7;rw[cK,cK,ih b]
theorem yh(O:B.Ok G)(hn:B.hd=ak):qK G B E (.sdic l) (l.map fun p=>.str p.1) Y Z Z:=by
 intro V s v P S hi q;have hi':=hi;refine bU hi' ?_;clear hi';intro a o kvs z8 h1 h2 h3 h4;subst z8;refine g7 h3 ?_;clear h3;intro es ep h3;have L:∀{V':Vw}{s':ay},Kp V V'->Kp V' s'.heap.get?->s'.heap.DictAt (strKind G.prog G.w) a kvs ep:=fun k k'=>(jP o es (k' _ _ (k _ _ h1)) h3)
 refine Rf h2 (L (.refl _) S.vh) ?_;let own:Nat->Mu:=fun i=>[(s.heap.objs.size,.pr fun o=>o.cls=.type "dict_keyiterator"/\o.data=.fields #[.ref a,.int i 0,.int kvs.length 0,.int ep 0])]
 refine q _ own _ V (S.allocMu O.c _ _ rfl (cB _ (aN _ rfl) rfl rfl)) (.refl _) ⟨?_,?_,fun k S' q'=>by refine bp (S'.mu _ (.head _)) fun oi ho hc hdt=>?_;exact KY (cB oi ho hc hdt) q'⟩
 .intro i d hd V' Y' Z' s' P E' k S' q'
  rw[bj] at hd;cases hp:l[i]? with|none=>rw[hp] at hd;injection hd|some p=>rw[hp] at hd;obtain⟨x,dx⟩:=p;(injection hd with hd;subst hd);refine ar (Mi h4 hp) fun u hu iu=>?_;refine bp (S'.mu _ (.head _)) fun oi ho hc hdt=>?_;refine HX (cB oi ho hc hdt) (L k S'.vh) hu fun key h' hkey hi' hs'=>q' key _ V' (S'.turn0 (mo':=.pr fun o=>o.cls=.type "dict_keyiterator"/\o.data=.fields #[.ref a,.int (i+1:Nat) 0,.int kvs.length 0,.int ep 0]) hs' hi') (.refl _) ?_;refine aY (kn hkey) fun t z9=>?_;subst z9;exact ir.mpr ⟨t,rfl⟩
 .intro V' Y' Z' s' P E' k S' q'
  refine bp (S'.mu _ (.head _)) fun oi ho hc hdt=>?_;have hx:kvs[(l.map fun p=>DV.str p.1).length]?=aq:=by rw[af,<-DB h4];simp
  have hdt':oi.data=.fields #[.ref a,.int ((l.map fun p=>DV.str p.1).length:Nat) 0,.int kvs.length 0,.int ep 0]:=hdt;exact b5 (wpAny_pyNext_dict_end (O.calm hn) (cB oi ho hc hdt') (L k S'.vh) hx fun h' hx' hz=>q' _ V' (S'.gone hx' hz) (.refl _))
section
variable {K : Type} [DecidableEq K]
noncomputable def ku(l:List (K×DV))(k:K):Option DV:=(l.find? fun kv=>kv.1=k).map (·.2)
noncomputable def jq(l:List (K×DV))(k:K)(d:DV):List (K×DV):=if l.any (fun kv=>kv.1=k) then l.map (fun kv=>if kv.1=k then(kv.1,d) else kv) else l++[(k,d)]
noncomputable def xj(l:List (K×DV))(k:K):List (K×DV):=l.filter fun kv=>decide (kv.1≠k)
inductive KV (prog:gR) (w:f6) (V:Vw):List (K×DV)->List (K×aE)->Prop
 |nil:KV prog w V [] []
 |cons {k d v l kvs}:Is prog w V d v->KV prog w V l kvs->KV prog w V ((k,d)::l) ((k,v)::kvs)
variable {l : List (K × DV)} {kvs : List (K × aE)} {k : K}
theorem KV.mono(h:KV prog w V l kvs)(kk:Kp V V'):KV prog w V' l kvs:=by induction h with|nil=>exact .nil|cons a _ ih=>exact .cons (a.mono kk) ih
theorem KV.some(h:KV prog w V l kvs)(e:ku l k=ac d):∃v,CF kvs k=ac v/\Is prog w V d v:=by
 induction h with|nil=>injection e|@cons k' d' v' l kvs a _ ih=>
  unfold ku at e;unfold CF;rw[bh] at e ⊢;dsimp only at e ⊢;by_cases q:k'=k;.simp only[q,decide_true,ie,W9] at e ⊢;subst e;exact bq v' rfl a
  .simp only[q,decide_false] at e ⊢;exact ih e
theorem KV.none(h:KV prog w V l kvs)(e:ku l k=aq):CF kvs k=aq:=by
 induction h with|nil=>rfl|@cons k' d' v' l kvs a _ ih=>
  unfold ku at e;unfold CF;rw[bh] at e ⊢;dsimp only at e ⊢;by_cases q:k'=k;.simp[q] at e
  .simp only[q,decide_false] at e ⊢;exact ih e
theorem KV.isSome(h:KV prog w V l kvs):(CF kvs k).isSome=(ku l k).isSome:=by cases e:ku l k with|none=>rw[h.none e];rfl|some d=>refine ar (h.some e) fun v hv zz=>?_;rw[hv];rfl
theorem KV.getD(h:KV prog w V l kvs)(hd:Is prog w V d v):Is prog w V ((ku l k).getD d) ((CF kvs k).getD v):=by cases e:ku l k with|none=>rw[h.none e];exact hd|some d=>refine ar (h.some e) fun v hv i=>?_;rw[hv];exact i
theorem KV.any(h:KV prog w V l kvs):(kvs.any fun kv=>kv.1=k)=l.any fun kv=>kv.1=k:=by induction h with|nil=>rfl|cons _ _ ih=>rw[dF,dF,ih]
theorem KV.append(h:KV prog w V l kvs)(h':KV prog w V l' kvs'):KV prog w V (l++l') (kvs++kvs'):=by induction h with|nil=>exact h'|cons a _ ih=>exact .cons a ih
theorem KV.put(h:KV prog w V l kvs)(hd:Is prog w V d v):KV prog w V (jq l k d) (stored kvs k v):=by
 unfold jq stored;rw[h.any];split
 .rename_i z
  clear z;induction h with|nil=>exact .nil|@cons k' d' v' l kvs a _ ih=>
   rw[au,au];dsimp only;by_cases q:k'=k;.rw[if_pos q,if_pos q];exact .cons hd ih
   .rw[if_neg q,if_neg q];exact .cons a ih
 .exact h.append (.cons hd .nil)
theorem KV.rem(h:KV prog w V l kvs):KV prog w V (xj l k) (without kvs k):=by
 unfold xj without;induction h with|nil=>exact .nil|@cons k' d' v' l kvs a _ ih=>
  rw[d4,d4];dsimp only;by_cases q:k'≠k;.rw[if_pos (decide_eq_true q),if_pos (decide_eq_true q)];exact .cons a ih
  .rw[if_neg (by simpa using q),if_neg (by simpa using q)];exact ih
theorem KV.length(h:KV prog w V l kvs):kvs.length=l.length:=by induction h with|nil=>rfl|cons _ _ ih=>simp[ih]
end
theorem zT:∀{l:List (aV×DV)}{kvs:List (aV×aE)},Cy prog w V l kvs↔KV prog w V l kvs:=by
 intro p0_;induction p0_ with
 |nil=>intro kvs;show kvs=[]↔_;exact⟨fun h=>h▸.nil,fun h=>by cases h;rfl⟩
 |cons p_ r ih=>
  rcases p_ with⟨x,d⟩
  intro kvs;show Exists _↔_;exact⟨fun z1=>aM z1 fun v rs e a b=>e▸.cons a (ih.mp b),fun h=>by cases h with|cons a b=>exact(bO _ _ rfl a (ih.mpr b))⟩
theorem zU:∀{l:List (Int×DV)}{kvs:List (Int×aE)},CJ prog w V l kvs↔KV prog w V l kvs:=by
 intro p0_;induction p0_ with
 |nil=>intro kvs;show kvs=[]↔_;exact⟨fun h=>h▸.nil,fun h=>by cases h;rfl⟩
 |cons p_ r ih=>
  rcases p_ with⟨x,d⟩
  intro kvs;show Exists _↔_;exact⟨fun z2=>aM z2 fun v rs e a b=>e▸.cons a (ih.mp b),fun h=>by cases h with|cons a b=>exact(bO _ _ rfl a (ih.mpr b))⟩
class DK (K:Type) [DecidableEq K] where
 knd:∀prog w,PySem.KeyKind prog w K
 key:K->DV
 dv:List (K×DV)->DV
 mo:List (K×DV)->MO
 is:∀{prog w V k v},Is prog w V (key k) v->(knd prog w).is k v=ai
 open_:∀{prog w V l v},Is prog w V (dv l) v->∃a o kvs,v=.ref a/\V a=ac o/\(a==fQ)=ak/\o.IsDictOf (knd prog w) kvs/\KV prog w V l kvs
 shut:∀{prog w V l a o kvs},V a=ac o->(a==fQ)=ak->o.IsDictOf (knd prog w) kvs->KV prog w V l kvs->Is prog w V (dv l) (.ref a)
 moOpen:∀{prog w V h a l},jv prog w V h a (mo l)->∃o kvs,h a=ac o/\(a==fQ)=ak/\o.IsDictOf (knd prog w) kvs/\KV prog w V l kvs
 moShut:∀{prog w V h a l o kvs},h a=ac o->(a==fQ)=ak->o.IsDictOf (knd prog w) kvs->KV prog w V l kvs->jv prog w V h a (mo l)
 part:∀{prog w V k v},Is prog w V (key k) v->(keyPart v).isSome=ai
@[reducible] instance dkStr:DK aV where
 knd:=strKind
 key:=.str
 dv:=.sdic
 mo:=.sdic
 is:=fun h=>by refine aY (ir.mp h) fun t z3=>?_;subst z3;exact strKind_is _ _ _ _
 open_:=fun h=>by refine bU h ?_;clear h;intro a o kvs e h1 h2 h3 h4;exact c7 a o kvs e h1 h2 h3 (zT.mp h4)
 shut:=fun h1 h2 h3 h4=>by show Exists _;exact c7 _ _ _ rfl h1 h2 h3 (zT.mpr h4)
 moOpen:=fun z4=>bB z4 fun o kvs h1 h2 h3 h4=>(dw o kvs h1 h2 h3 (zT.mp h4))
 moShut:=fun h1 h2 h3 h4=>(dw _ _ h1 h2 h3 (zT.mpr h4))
 part:=fun h=>by refine aY (ir.mp h) fun t z5=>?_;subst z5;rfl
@[reducible] instance dkInt:DK Int where
 knd:=H5
 key:=.int
 dv:=.idic
 mo:=.idic
 is:=fun h=>by refine aY (bA.mp h) fun t z6=>?_;subst z6;exact intKind_is _ _ _ _
 open_:=fun h=>by refine bU h ?_;clear h;intro a o kvs e h1 h2 h3 h4;exact c7 a o kvs e h1 h2 h3 (zU.mp h4)
 shut:=fun h1 h2 h3 h4=>by show Exists _;exact c7 _ _ _ rfl h1 h2 h3 (zU.mpr h4)
 moOpen:=fun z7=>bB z7 fun o kvs h1 h2 h3 h4=>(dw o kvs h1 h2 h3 (zU.mp h4))
 moShut:=fun h1 h2 h3 h4=>(dw _ _ h1 h2 h3 (zU.mpr h4))
 part:=fun h=>by refine aY (bA.mp h) fun t z8=>?_;subst z8;rfl
def DS{K:Type}[DecidableEq K][DK K](Z:Mu)(d:DV)(l:List (K×DV)):Prop:=d=DK.dv l\/∃a,d=.ptr a/\(a,DK.mo l)∈Z
def LS(Z:Mu)(d:DV)(l:List DV):Prop:=d=.lst l\/∃a,d=.ptr a/\(a,.lst l)∈Z
section
variable {K : Type} [DecidableEq K] [DK K] {l : List (K × DV)} {d : DV} {v : aE}
theorem DS.open(h:DS Z d l)(S:b9 (cx G B) V Y Z s)(hi:Is G.prog G.w V d v):∃a o kvs,v=.ref a/\s.heap.get? a=ac o/\(a==fQ)=ak/\o.IsDictOf (DK.knd G.prog G.w (K:=K)) kvs/\KV G.prog G.w V l kvs:=by
 rcases h with rfl|⟨a,rfl,hm⟩
 .refine bl (DK.open_ hi) fun a o kvs e h1 r=>?_
  exact i5 a o kvs e (S.vh _ _ h1) r
 .refine aZ (aT.mp hi) fun z9 zz=>?_
  subst z9;refine g7 (DK.moOpen (S.mu _ hm)) fun o kvs r=>?_;exact o6 a o kvs rfl r
theorem LS.open{l:List DV}(h:LS Z d l)(S:b9 (cx G B) V Y Z s)(hi:Is G.prog G.w V d v):∃a o vs n,v=.ref a/\s.heap.get? a=ac o/\o.cls=.type "list"/\(o.dict=aq/\o.slots=#[])/\o.data=.seq vs n/\gP G.prog G.w V l vs.toList:=by
 rcases h with rfl|⟨a,rfl,hm⟩
 .refine fE hi ?_
  clear hi;intro a o vs n e h1 r;exact kj a o vs n e (S.vh _ _ h1) r
 .refine aZ (aT.mp hi) fun z10 zz=>?_
  subst z10;refine sR (S.mu _ hm) fun o vs n r=>?_;exact⟨a,o,vs,n,rfl,r⟩
theorem GM{id:String}(D:DS Z d l)(slot:Slot "dict" name id)(hty:iN (.builtin id)=pure (.type "method_descriptor")):∀V s v A P E,b9 (cx G B) V Y Z s->Is G.prog G.w V d v->(∀first s',gP G.prog G.w V [d] first->b9 (cx G B) V Y Z s'->P (.builtin id,first) s')->bd (bf G.prog G.w) A (jy v name pl) P E s:=by intro V s v A P E S hi q;refine bU (D.open S hi) fun a o kvs z11 ho zz hd zz=>?_;subst z11;refine cY hd ?_;clear hd;intro es ep he zz;exact Rl (T:="dict") (bq o ho he.1) PySem.F.plainAttrs_dict slot hty (fun b e=>by(injection e with e;subst e);exact(bq o ho he.2.1)) (q _ _ (aG.mpr (bO _ _ rfl hi (be.mpr rfl))) S)
theorem GK{l:List DV}{id:String}(D:LS Z d l)(slot:Slot "list" name id)(hty:iN (.builtin id)=pure (.type "method_descriptor")):∀V s v A P E,b9 (cx G B) V Y Z s->Is G.prog G.w V d v->(∀first s',gP G.prog G.w V [d] first->b9 (cx G B) V Y Z s'->P (.builtin id,first) s')->bd (bf G.prog G.w) A (jy v name pl) P E s:=by intro V s v A P E S hi q;refine bE (D.open S hi) fun a o vs n z12 ho hc hn hd zz=>?_;subst z12;exact Rl (T:="list") (bq o ho hc) PySem.F.plainAttrs_list slot hty (fun b e=>by(injection e with e;subst e);exact(bq o ho hn.1)) (q _ _ (aG.mpr (bO _ _ rfl hi (be.mpr rfl))) S)
theorem Eb{dflt:DV}(D:DS Z d l)(q:Q ((ku l k).getD dflt) Y Z):cI G B E (.builtin "dict.get") ([d]++[DK.key k,dflt]) Y Z Q:=by intro V s vs S hi;refine aM (aG.mp hi) ?_;clear hi;intro v zz z13 iv hi;subst z13;refine aM (aG.mp hi) ?_;clear hi;intro kv zz z14 ik hi;subst z14;refine aM (aG.mp hi) ?_;clear hi;intro dv zz z15 idf hi;subst z15;obtain rfl:=be.mp hi;refine bU (D.open S iv) fun a o kvs z16 ho lo hd hk=>?_;subst z16;have hD:s.heap.DictOf (DK.knd G.prog G.w (K:=K)) a kvs:=bc.mpr (bq o ho hd);exact qj AO hD.typeIs yN (PySem.F.args_dict_get_3 _ _ _) (meets_dict_get_default _ a (DK.is ik) lo dv) (bq _ hD.mapOf ⟨_,Y,Z,V,S.sat_toks _,.refl _,hk.getD idf,q⟩)
theorem Ec(D:DS Z d l)(q:Q ((ku l k).getD .none) Y Z):cI G B E (.builtin "dict.get") ([d]++[DK.key k]) Y Z Q:=by intro V s vs S hi;refine aM (aG.mp hi) ?_;clear hi;intro v zz z17 iv hi;subst z17;refine aM (aG.mp hi) ?_;clear hi;intro kv zz z18 ik hi;subst z18;obtain rfl:=be.mp hi;refine bU (D.open S iv) fun a o kvs z19 ho lo hd hk=>?_;subst z19;have hD:s.heap.DictOf (DK.knd G.prog G.w (K:=K)) a kvs:=bc.mpr (bq o ho hd);exact qj AO hD.typeIs yN (PySem.F.args_dict_get_2 _ _) (meets_dict_get _ a (DK.is ik) lo) (bq _ hD.mapOf ⟨_,Y,Z,V,S.sat_toks _,.refl _,hk.getD (aT.mpr ⟨rfl,rfl⟩),q⟩)
theorem Tn(D:DS Z d l)(q:Q (.bool (ku l k).isSome) Y Z):O2 G B E (Is G.prog G.w) (bi .In) (DK.key k) d Y Z Q:=by intro V s kv v S ik iv;refine bU (D.open S iv) fun a o kvs z20 ho lo hd hk=>?_;subst z20;have hD:s.heap.DictOf (DK.knd G.prog G.w (K:=K)) a kvs:=bc.mpr (bq o ho hd);exact wpAny_in_of (DK.is ik) lo hD.mapOf ⟨_,Y,Z,V,S.sat_toks _,.refl _,aT.mpr ⟨rfl,rfl⟩,hk.isSome▸q⟩
theorem QH{o i:bZ}(h:EV G B E (a9 o B.env) Y Z (Ry G B E i (i7 o i) Q)):EV G B E (a9 (.Subscript o i pos) B.env) Y Z Q:=by intro V s S;refine Subscript_ (WP.use h S (fun a s_1 da Y1 Z1 V_1 S_1 k_1 i_1 h₁=>?_));refine WP.use h₁ S_1 (fun b s_2 db Y2 Z2 V_2 S_2 k_2 i_2 h_2=>?_);exact aQ (h_2 V_2 s_2 a b S_2 (i_1.mono k_2) i_2) (fun zz zz=>qP.up (k_1.trans k_2)) fun zz zz x=>x
theorem cw{x:DV}(D:DS Z d l)(e:ku l k=ac x)(q:Q x Y Z)(hs:∀o i,rZ slice ak o i=HZ [o,i] (H7 o i)):O2 G B E (Is G.prog G.w) (i7 value slice) d (DK.key k) Y Z Q:=by intro V s v kv S iv ik;refine bU (D.open S iv) fun a o kvs z24 ho lo hd hk=>?_;subst z24;have hD:s.heap.DictOf (DK.knd G.prog G.w (K:=K)) a kvs:=bc.mpr (bq o ho hd);refine ar (hk.some e) fun u hu iu=>?_;exact WT hD.typeIs slot_dict_getitem.lookup (wpAny_getItem_of (DK.is ik) hD.mapOf hu ⟨x,Y,Z,V,S.sat_toks _,.refl _,iu,q⟩) (hs _ _)
theorem Dc{i:Int}{n j:Nat}(h0:0<=i)(h1:i<n)(e:i.toNat=j):mz i n=ac j:=by unfold mz;dsimp only;rw[if_neg (nZ.mpr h0),decide_eq_true h0,decide_eq_true h1,e];rfl
theorem ej{l:List DV}{i:Int}{j:Nat}{x:DV}(h0:-(2 ^ 63)<=i)(h1:i<2 ^ 63)(hj:mz i l.length=ac j)(e:l[j]?=ac x)(q:Q x Y Z)(hs:∀o i,rZ slice ak o i=HZ [o,i] (H7 o i)):O2 G B E (Is G.prog G.w) (i7 value slice) (.tup l) (.int i) Y Z Q:=by
 intro V s v kv S iv ik;refine bE iv ?_;clear iv;intro a o vs n z25 ho hc hn hd hl;subst z25;refine aY (bA.mp ik) fun t z26=>?_;subst z26;refine ar (ln hl e) fun u hu iu=>?_;have hT:IsTup s.heap a vs.toList.toArray:=(dK o (S.vh _ _ ho) hc n (by simpa using hd))
 exact item_tupleT hT h0 h1 (by rw[bb hl];exact hj) hu ⟨x,Y,Z,V,S,.refl _,iu,q⟩ (hs _ _)
theorem lV{l:List DV}{i:Int}{x:DV}(D:LS Z d l)(h0:0<=i)(h1:i<2 ^ 63)(e:l[i.toNat]?=ac x)(q:Q x Y Z)(hs:∀o i,rZ slice ak o i=HZ [o,i] (H7 o i)):O2 G B E (Is G.prog G.w) (i7 value slice) d (.int i) Y Z Q:=by
 intro V s v kv S iv ik;refine bE (D.open S iv) fun a o vs n z27 ho hc hn hd hl=>?_;subst z27;refine aY (bA.mp ik) fun t z28=>?_;subst z28;refine ar (ln hl e) fun u hu iu=>?_;have hL:s.heap.IsList a vs:=(dK o ho hc n hd)
 exact WT hL.typeIs Ri.lookup (wpAny_getItem_list hL h0 h1 (by simpa using hu) ⟨x,Y,Z,V,S,.refl _,iu,q⟩) (hs _ _)
theorem Ph{i j:Int}(q:Q (.int (i+j)) Y Z):O2 G B E (Is G.prog G.w) (fK .Add) (.int i) (.int j) Y Z Q:=by intro V s a b S ia ib;refine aY (bA.mp ia) fun t z30=>?_;subst z30;refine aY (bA.mp ib) fun u z29=>?_;subst z29;exact add_int ⟨_,Y,Z,V,S.sat_toks _,.refl _,bA.mpr ⟨_,rfl⟩,q⟩
theorem Pf{i j:Int}(q:Q (.int (i-j)) Y Z):O2 G B E (Is G.prog G.w) (fK .Sub) (.int i) (.int j) Y Z Q:=by intro V s a b S ia ib;refine aY (bA.mp ia) fun t z32=>?_;subst z32;refine aY (bA.mp ib) fun u z31=>?_;subst z31;exact sub_int ⟨_,Y,Z,V,S.sat_toks _,.refl _,bA.mpr ⟨_,rfl⟩,q⟩
theorem GC{i j:Int}(q:Q (.bool (i==j)) Y Z):O2 G B E (Is G.prog G.w) (bi .Eq) (.int i) (.int j) Y Z Q:=by intro V s a b S ia ib;refine aY (bA.mp ia) fun t z34=>?_;subst z34;refine aY (bA.mp ib) fun u z33=>?_;subst z33;exact eq_int ⟨_,Y,Z,V,S,.refl _,aT.mpr ⟨rfl,rfl⟩,q⟩
theorem Gu{i j:Int}(q:Q (.bool (i != j)) Y Z):O2 G B E (Is G.prog G.w) (bi .NotEq) (.int i) (.int j) Y Z Q:=by intro V s a b S ia ib;refine aY (bA.mp ia) fun t z36=>?_;subst z36;refine aY (bA.mp ib) fun u z35=>?_;subst z35;exact ne_int ⟨_,Y,Z,V,S,.refl _,aT.mpr ⟨rfl,rfl⟩,q⟩
theorem Gv{i j:Int}(q:Q (.bool (decide (i<j))) Y Z):O2 G B E (Is G.prog G.w) (bi .Lt) (.int i) (.int j) Y Z Q:=by intro V s a b S ia ib;refine aY (bA.mp ia) fun t z38=>?_;subst z38;refine aY (bA.mp ib) fun u z37=>?_;subst z37;exact lt_int ⟨_,Y,Z,V,S,.refl _,aT.mpr ⟨rfl,rfl⟩,q⟩
theorem Gz{i j:Int}(q:Q (.bool (decide (i>j))) Y Z):O2 G B E (Is G.prog G.w) (bi .Gt) (.int i) (.int j) Y Z Q:=by intro V s a b S ia ib;refine aY (bA.mp ia) fun t z40=>?_;subst z40;refine aY (bA.mp ib) fun u z39=>?_;subst z39;exact gt_int ⟨_,Y,Z,V,S,.refl _,aT.mpr ⟨rfl,rfl⟩,q⟩
theorem GA{i j:Int}(q:Q (.bool (decide (i>=j))) Y Z):O2 G B E (Is G.prog G.w) (bi .GtE) (.int i) (.int j) Y Z Q:=by intro V s a b S ia ib;refine aY (bA.mp ia) fun t z42=>?_;subst z42;refine aY (bA.mp ib) fun u z41=>?_;subst z41;exact ge_int ⟨_,Y,Z,V,S,.refl _,aT.mpr ⟨rfl,rfl⟩,q⟩
theorem Gw{i j:Int}(q:Q (.bool (decide (i<=j))) Y Z):O2 G B E (Is G.prog G.w) (bi .LtE) (.int i) (.int j) Y Z Q:=by intro V s a b S ia ib;refine aY (bA.mp ia) fun t z44=>?_;subst z44;refine aY (bA.mp ib) fun u z43=>?_;subst z43;exact le_int ⟨_,Y,Z,V,S,.refl _,aT.mpr ⟨rfl,rfl⟩,q⟩
theorem QJ{x:bZ}(h:EV G B E (a9 x B.env) Y Z fun d Y' Z'=>∃i,d=.int i/\Q (.int (-i)) Y' Z'):EV G B E (a9 (.UnaryOp .USub x pos) B.env) Y Z Q:=by intro V s S;refine ZU (WP.use h S (fun v s_1 d Y1 Z1 V_1 S_1 k_1 i_1 z46=>ar z46 fun i e q=>?_));subst e;refine aY (bA.mp i_1) fun t z47=>?_;subst z47;exact neg_int ⟨_,Y1,Z1,V_1,S_1.sat_toks _,k_1,bA.mpr ⟨_,rfl⟩,q⟩
noncomputable def E0(v:aE):Bool:=tR v.ctorIdx 0
noncomputable def pE:DV->Option Bool|.raw v=>ac (E0 v)|.any=>aq|_=>ac ak
theorem gM(z:v=u)(h:ac (E0 u)=ac b):(v==dn)=b:=by subst z;refine Eq.trans ?_ (aB h);cases v<;>rfl
theorem BR(h:pE d=ac b)(hi:Is G.prog G.w V d v):(v==dn)=b:=by
 cases d with
 |raw u=>exact gM (aT.mp hi).1 h|any=>injection h|int i=>exact aY (bA.mp hi) fun t z=>gM z h
 |str i=>exact aY (ir.mp hi) fun t z=>gM z h
 |byt b=>exact aY hi fun t z=>gM z h
 |tup l=>exact d5 hi fun a o vs n z _=>gM z h
 |lst l=>exact d5 hi fun a o vs n z _=>gM z h
 |sdic l=>exact fx hi fun a o vs z _=>gM z h
 |idic l=>exact fx hi fun a o vs z _=>gM z h
 |inst C l=>exact d5 hi fun a o vs n z _=>gM z h
theorem Dk(h:pE d=ac b)(q:Q (.bool b) Y Z):O2 G B E (Is G.prog G.w) (bi .Is) d .none Y Z Q:=by intro V s a c S ia ic;refine aZ (aT.mp ic) fun z59 zz=>?_;subst z59;exact is_none ⟨_,Y,Z,V,S,.refl _,aT.mpr ⟨by rw[BR h ia],rfl⟩,q⟩
theorem xl(h:pE d=ac b)(q:Q (.bool (!b)) Y Z):O2 G B E (Is G.prog G.w) (bi .IsNot) d .none Y Z Q:=by intro V s a c S ia ic;refine aZ (aT.mp ic) fun z60 zz=>?_;subst z60;exact isNot_none ⟨_,Y,Z,V,S,.refl _,aT.mpr ⟨by rw[BR h ia],rfl⟩,q⟩
theorem b9.grow0(S:b9 (cx G B) V Y Z s){h':jl}{t:Nat}(hx:lR s.heap.objs.size s.heap h')(hsz:s.heap.objs.size<=h'.objs.size):b9 (cx G B) V Y Z {s with heap:=h',toks:=t}:=by have k:∀{b:aW}{o:uD},s.heap.get? b=ac o->h'.get? b=ac o:=fun e=>hx _ _ (bP (aR e)) e;refine ar S.m ?_;(try clear m);intro m z61 he;refine fx z61 ?_;clear z61;intro o es ep ho r;refine⟨(bq m (o6 o es ep (k ho) r) he),S.nd,fun p hp=>?_,S.dj,fun b o e=>k (S.vh _ _ e),S.vL,S.vm,S.fr,S.v0,S.b0,S.mf,fun b o n l e=>let ⟨o',e',r⟩:=S.pr b o n l e;⟨o',k e',r⟩,ae S.sz hsz,S.hk,S.rest⟩;refine aY ((S.mu p hp).at) fun o ho=>?_;exact(S.mu p hp).mono (.refl _) ((k ho).trans ho.symm)
theorem Fz{a b:DV}{Q:aP->Mu->Prop}(O:B.Ok G)(hn:B.hd=ak)(h1:pK Y x a Y1)(h2:pK Y1 y b Y2)(q:Q Y2 Z):AS G B E (.Tuple [.Name x px,.Name y py] k pos) (.tup [a,b]) Y Z Q:=by
 intro V s v S hi;refine d5 hi ?_;clear hi;intro t o vs n z62 y14;refine oS y14 ?_;clear y14;intro ho hc zz hd u1 y15;refine mq y15 ?_;clear y15;intro zz hv iu1 u2 r y16;refine jM y16 ?_;clear y16;intro z63 iu2 z64;subst z62;subst z63;subst z64;have hT:s.heap.IsTuple t vs:=(dK o (S.vh _ _ ho) hc n hd)
 have hsz:vs.size=2:=by rw[<-aF,hv];rfl
 rw[yJ];refine ah (cG ?_);show bd _ _ (unpack (.ref t) [(ak,assign (.Name x px) B.env),(ak,assign (.Name y py) B.env)]) _ _ _;unfold unpack;show bd _ _ (holding _ (rY (.ref t) 2 aq) >>= _) _ _ _;rw[<-hsz];refine ah (bG (b5 (fY (O.calm hn) hT fun h' hx hz=>?_)));rw[hv];have S1:b9 (cx G B) V Y Z {s with heap:=h'}:=(S.grow0 hx hz)
 refine ah (bG (ah (cG (c8 (gK O S1 iu1 h1 fun s2 S2=>?_)))));refine ah (bG (ah (cG (c8 (gK O S2 iu2 h2 fun s3 S3=>?_)))));exact aH ⟨(),Y2,Z,V,S3,.refl _,trivial,q⟩
end
def Jk(n:Int)(o:uD):Prop:=∃t u v,o={cls:=.type "range",dict:=aq,data:=.fields #[.int 0 t,.int n u,.int 1 v],slots:=#[]}
theorem m5{n:Int}(O:B.Ok G)(q:∀a,Q (.ptr a) Y ((a,.pr (Jk n))::Z)):cI G B E (.type "range") [.int n] Y Z Q:=by intro V s vs S hi;refine aM (aG.mp hi) ?_;clear hi;intro v zz z1 iv hi;subst z1;obtain rfl:=be.mp hi;refine aY (bA.mp iv) fun t z2=>?_;subst z2;exact call_range_1 ⟨_,Y,_,V,(S.allocMu O.c _ (.pr (Jk n)) rfl ⟨_,aN _ rfl,_,_,_,rfl⟩).sat_toks _,.refl _,aT.mpr ⟨rfl,rfl⟩,q _⟩
theorem vj(n):th 0 n 1=(n.toNat:Int):=by
 unfold th;split;.split<;>omega
 .omega
theorem Be{n:Int}(h:n<1000000)(h0:-1000000<n):wS 0 n 1=ai:=by unfold wS RV;rw[vj];simp;omega
theorem mV{n:Int}(O:B.Ok G)(hn:B.hd=ak)(h:n<1000000)(h0:-1000000<n):qK G B E (.ptr a) ((dH n.toNat).map fun i=>.int (i:Nat)) Y ((a,.pr (Jk n))::Z) Z:=by
 intro V s v P S hi q;refine aZ (aT.mp hi) fun z3 zz=>?_;subst z3;refine wq (S.mu _ (.head _)) fun o ho t u w z4=>?_;subst z4;refine wpAny_pyIter_range ho (Be h h0) ?_;refine(vj n).symm▸?_;let own:Nat->Mu:=fun i=>[(s.heap.objs.size,.pr fun o=>o={cls:=.type "range_iterator",dict:=aq,data:=.fields #[fb (i:Nat),fb ((n.toNat:Int)-(i:Nat)),fb 1],slots:=#[]})]
 have S2:=S.drop.allocMu O.c {cls:=.type "range_iterator",data:=.fields #[fb 0,fb (n.toNat:Int),fb 1]} (.pr fun o=>o={cls:=.type "range_iterator",dict:=aq,data:=.fields #[fb (0:Nat),fb ((n.toNat:Int)-(0:Nat)),fb 1],slots:=#[]}) rfl (bq _ (aN _ rfl) (by simp));refine q _ own _ V S2 (.refl _) ⟨?_,?_,fun k S' q'=>by refine ar (S'.mu _ (.head _)) fun oi hoi z5=>?_;subst z5;exact wpAny_pyIter_rangeiter hoi q'⟩
 .intro i d hd V' Y' Z' s' P E' k S' q'
  rw[bj] at hd;have hi:i<n.toNat:=by
   rcases Nat.lt_or_ge i n.toNat with z|z;.exact z
   .rw[CW (by simpa using z)] at hd;injection hd
  rw[cM (by simpa using hi)] at hd;simp at hd;subst hd;refine ar (S'.mu _ (.head _)) fun oi hoi z6=>?_;subst z6;refine wpAny_pyNext_range_item hoi (Yv hi) fun h' hi' hs'=>q' _ _ V' (S'.turn0 (mo':=.pr fun o=>o={cls:=.type "range_iterator",dict:=aq,data:=.fields #[fb (i+1:Nat),fb ((n.toNat:Int)-(i+1:Nat)),fb 1],slots:=#[]}) hs' (bq _ hi' ?_)) (.refl _) (bA.mpr ⟨_,rfl⟩);simp[Int.sub_sub]
 .intro V' Y' Z' s' P E' k S' q'
  refine ar (S'.mu _ (.head _)) fun oi hoi z7=>?_;subst z7;exact b5 (wpAny_pyNext_range_end (O.calm hn) hoi (by simp) fun h' hx' hz=>q' _ V' (S'.gone hx' hz) (.refl _))
theorem p6{l:List (aV×α)}(nd:(l.map (·.1)).Nodup)(h:(x,v)∈l):l.lookup x=ac v:=by
 induction l with|nil=>cases h|cons p r ih=>
  rw[au,av] at nd;rw[d1];rcases ao.mp h with e|h;.rw[<-e,beq_self_eq_true]
  .rw[beq_false_of_ne fun e:x=p.1=>nd.1 (e▸ax (f:=(·.1)) h)]
   exact ih nd.2 h
theorem rk:∀{ps:List aV}{ds:List DV}{vs:List aE},gP G.prog G.w V ds vs->∀p∈ps.zip ds,∃v,(p.1,v)∈ps.zip vs/\Is G.prog G.w V p.2 v
 |[],_,_,_,p,hp=>by simp at hp
 |_::_,[],_,_,p,hp=>by simp at hp
 |x::ps,d::ds,vs,h,p,hp=>by
  refine aM (aG.mp h) fun v rs z8 a b=>?_;subst z8;rw[HO] at hp ⊢;rcases ao.mp hp with rfl|hp;.exact bq v (.head _) a
  .refine ar (rk b p hp) fun u hu iu=>?_
   exact bq u (.tail _ hu) iu
theorem wF{rest:List aV}(hlen:ds.length=ps.length)(hb:∀vs,vs.length=ps.length->i8 fd ⟨vs,[]⟩=pure (ps.zip vs))(nd:ps.Nodup)(hl:((ps++rest).all fun x=>fd.scope.names.lookup x==ac .local)=ai):∀V s vs,Kp G.hb.get? V->Kp V s.heap.get?->gP G.prog G.w V ds vs->∃binds,xa s fd ⟨vs,[]⟩ binds/\(∀x∈binds,fd.scope.names.lookup x.1=ac .local)/\∀p∈(ps.zip ds++rest.map fun x=>(x,DV.any)),fd.scope.names.lookup p.1=ac .local/\(p.2≠.any->∃v,binds.reverse.lookup p.1=ac v/\Is G.prog G.w V p.2 v):=by
 intro V s vs zz zz hi;have hv:vs.length=ps.length:=(bb hi).trans hlen;have L:∀x∈ps++rest,fd.scope.names.lookup x=ac .local:=fun x hx=>by simpa using aU.mp hl x hx
 have nz:((ps.zip vs).map (·.1)).Nodup:=by refine((show(ps.zip vs).map (·.1)=ps from jQ (bv hv.symm)) ..).symm▸?_;exact nd
 have nr:((ps.zip vs).reverse.map (·.1)).Nodup:=by refine(m9 ..).symm▸?_;unfold rU;rw[CV];exact nz.imp fun h=>o9 h
 refine cB (ps.zip vs) (.of_eq (hb vs hv)) (fun x hx=>L _ (bF _ (ge hx).1)) (fun p hp=>?_);rcases aJ.mp hp with h|h
 .refine ar (rk hi p h) fun v hv iv=>?_
  exact⟨L _ (bF _ (ge h).1),fun zz=>(bq v (p6 nr (KJ.mpr hv)) iv)⟩
 .refine ar (az.mp h) fun x hx z9=>?_
  subst z9;exact⟨L x (aK _ hx),fun h=>absurd rfl h⟩
def CD(G:G0)(name:aV)(Q:DV->aP->Mu->Prop):DV->aP->Mu->Prop:=fun d Y' Z'=>∃C l ns attr d',d=.inst C l/\my G C/\kB G.K (.ref C) name=ac attr/\noGet G.K attr=ai/\l.map (·.1)=ns/\ns.Nodup/\CK l name d'/\Q d' Y' Z'
theorem JU(O:B.Ok G)(h:EV G B E (a9 e B.env) Y Z (CD G name Q))
  (he:a9 (.Attribute e name pos) B.env=(do let o <-a9 e B.env;sZ pos.atName;let r <-holding [o] (getAttr o name ai);WY e o r;pure r)) :
  EV G B E (a9 (.Attribute e name pos) B.env) Y Z Q:=MR O h he
structure fy (G:G0) (C:aW) (ns:List aV) (name:aV):Prop where
 cls:my G C
 find:kB G.K (.ref C) name=ac aq
 nd:ns.Nodup
theorem Vp(F:fy G C ns name)(hl:l.map (·.1)=ns)(hx:CK l name d')(q:Q d' Y Z):CD G name Q (.inst C l) Y Z:=⟨C,l,ns,aq,d',rfl,F.cls,F.find,rfl,hl,F.nd,hx,q⟩
def No(x:aV)(Q:aP->Mu->Prop):DV->aP->Mu->Prop:=fun d Y' Z'=>∃Y'',pK Y' x d Y''/\Q Y'' Z'
theorem DR{Q:Fl->aP->Mu->Prop}(O:B.Ok G)(h:EV G B E (a9 e B.env) Y Z (No x (Q .next)))(hs:gO e (ac (.Name x xp)) pos.line B.env=pure ak):EX G B E (fc (.Assign [.Name x xp] e pos) B.env) Y Z Q:=Hh O h hs
theorem Tm{Q:aP->Mu->Prop}(h:pK Y x d Y')(q:Q Y' Z):No x Q d Y Z:=(bq Y' h q)
def rR(b:Bool)(P R:Prop):Prop:=(b=ai->P)/\(b=ak->R)
theorem Ng{P R:Prop}(h:P):rR ai P R:=⟨fun zz=>h,fun h=>by injection h⟩
theorem Nh{P R:Prop}(h:R):rR ak P R:=⟨fun h=>by(injection h),fun zz=>h⟩
abbrev IfK(G:G0)(B:Bx)(E:aE->ay->Prop)(b o:List jW)(Q:Fl->aP->Mu->Prop):Bool->aP->Mu->Prop:=fun c Y' Z'=>rR c (EX G B E (eG b B.env) Y' Z' Q) (EX G B E (eG o B.env) Y' Z' Q)
abbrev ZI(G:G0)(B:Bx)(E:aE->ay->Prop)(b o:bZ)(Q:DV->aP->Mu->Prop):Bool->aP->Mu->Prop:=fun c Y' Z'=>rR c (EV G B E (a9 b B.env) Y' Z' Q) (EV G B E (a9 o B.env) Y' Z' Q)
abbrev ZS(G:G0)(B:Bx)(E:aE->ay->Prop)(rest:List bZ)(Q:Bool->aP->Mu->Prop):Bool->aP->Mu->Prop:=fun b Y' Z'=>rR b (EB G B E (jc .And rest B.env) Y' Z' Q) (Q ak Y' Z')
abbrev OrK(G:G0)(B:Bx)(E:aE->ay->Prop)(rest:List bZ)(Q:Bool->aP->Mu->Prop):Bool->aP->Mu->Prop:=fun b Y' Z'=>rR b (Q ai Y' Z') (EB G B E (jc .Or rest B.env) Y' Z' Q)
theorem JJ{b o:List jW}{Q:Fl->aP->Mu->Prop}(h:EB G B E (isTrue t B.env (a9 t B.env)) Y Z (IfK G B E b o Q)):EX G B E (fc (.If t b o pos) B.env) Y Z Q:=U3 h
theorem Hk{t b o:bZ}(h:EB G B E (isTrue t B.env (a9 t B.env)) Y Z (ZI G B E b o Q)):EV G B E (a9 (.IfExp t b o pos) B.env) Y Z Q:=JQ h
theorem xC{x:bZ}{Q:Bool->aP->Mu->Prop}(h:EB G B E (isTrue x B.env (a9 x B.env)) Y Z (ZS G B E rest Q)):EB G B E (jc .And (x::rest) B.env) Y Z Q:=AC (h.mono fun zz zz zz h=>⟨h.2,h.1⟩)
theorem AB{x:bZ}{Q:Bool->aP->Mu->Prop}(h:EB G B E (isTrue x B.env (a9 x B.env)) Y Z (OrK G B E rest Q)):EB G B E (jc .Or (x::rest) B.env) Y Z Q:=Cs (h.mono fun zz zz zz h=>⟨h.1,h.2⟩)
def Ky(d:DV)(P R:Prop):Prop:=∃c,tL d=ac c/\rR c P R
abbrev FE(G:G0)(B:Bx)(E:aE->ay->Prop)(y:bZ)(Q:DV->aP->Mu->Prop):DV->aP->Mu->Prop:=fun a Y' Z'=>Ky a (EV G B E (a9 y B.env) Y' Z' Q) (Q a Y' Z')
abbrev Q7(G:G0)(B:Bx)(E:aE->ay->Prop)(y:bZ)(Q:DV->aP->Mu->Prop):DV->aP->Mu->Prop:=fun a Y' Z'=>Ky a (Q a Y' Z') (EV G B E (a9 y B.env) Y' Z' Q)
theorem JV{x y:bZ}(h:EV G B E (a9 x B.env) Y Z (FE G B E y Q)):EV G B E (a9 (.BoolOp .And [x,y] pos) B.env) Y Z Q:=MT (h.mono fun zz zz zz z1=>ar z1 fun c e h=>(cB c e h.2 h.1))
theorem MH{x y:bZ}(h:EV G B E (a9 x B.env) Y Z (Q7 G B E y Q)):EV G B E (a9 (.BoolOp .Or [x,y] pos) B.env) Y Z Q:=QI (h.mono fun zz zz zz z2=>ar z2 fun c e h=>(cB c e h.1 h.2))
abbrev Re(G:G0)(B:Bx)(E:aE->ay->Prop)(f:aE)(Q:DV->aP->Mu->Prop):List DV->aP->Mu->Prop:=fun ds Y' Z'=>cI G B E f ds Y' Z' Q
abbrev AJ(G:G0)(B:Bx)(E:aE->ay->Prop)(f:aE)(pre:List DV)(Q:DV->aP->Mu->Prop):List DV->aP->Mu->Prop:=fun ds Y' Z'=>cI G B E f (pre++ds) Y' Z' Q
def CC(G:G0)(B:Bx)(E:aE->ay->Prop)(pos:xH)(args:List bZ)(Q:DV->aP->Mu->Prop):DV->aP->Mu->Prop:=fun fd Y1 Z1=>∃f,fd=.raw f/\bH G f/\EL G B E (dB (cy pos (br args B.env))) Y1 Z1 (Re G B E f Q)
theorem wl(O:B.Ok G)(h:EV G B E (a9 func B.env) Y Z (CC G B E pos args Q))
  (he:a9 (.Call func args [] pos) B.env=(do r7 pos (<-a9 func B.env) [] (cy pos (br args B.env)) (pM pos (jx [] B.env))))
  (hp:(cy pos (br args B.env)).any (·.1)=ak):EV G B E (a9 (.Call func args [] pos) B.env) Y Z Q:=MP O h he hp
theorem Km(hf:bH G f)(h:EL G B E (dB (cy pos (br args B.env))) Y Z (Re G B E f Q)):CC G B E pos args Q (.raw f) Y Z:=(cB f rfl hf h)
def nF(G:G0)(B:Bx)(E:aE->ay->Prop)(name:aV)(pl:HN Bool)(pos:xH)(args:List bZ)(Q:DV->aP->Mu->Prop):DV->aP->Mu->Prop:=fun d Y1 Z1=>∃f ds,(∀V s v A P E,b9 (cx G B) V Y1 Z1 s->Is G.prog G.w V d v->(∀first s',gP G.prog G.w V ds first->b9 (cx G B) V Y1 Z1 s'->P (f,first) s')->bd (bf G.prog G.w) A (jy v name pl) P E s)/\bH G f/\EL G B E (dB (cy pos (br args B.env))) Y1 Z1 (AJ G B E f ds Q)
theorem Hj{o:bZ}(O:B.Ok G)(h:EV G B E (a9 o B.env) Y Z (nF G B E name pl pos args Q))
  (he:a9 (.Call (.Attribute o name apos) args [] pos) B.env=(do
     let ov <-a9 o B.env
     sZ apos.atName
     let (f,first) <-holding [ov] (jy ov name pl)
     r7 pos f first (cy pos (br args B.env)) (pM pos (jx [] B.env))))
  (hp:(cy pos (br args B.env)).any (·.1)=ak):EV G B E (a9 (.Call (.Attribute o name apos) args [] pos) B.env) Y Z Q:=JO O h he hp
structure lK (G:G0) (C:aW) (ns:List aV) (name:aV) (f:aW):Prop where
 cls:my G C
 find:kB G.K (.ref C) name=ac (ac (.ref f))
 fn:isFn G.K (.ref f)=ai
 no:ns.contains name=ak
 keep:keepIn G.K (.ref f)=ai
theorem Dp(O:B.Ok G)(F:lK G C ns name f)(hl:l.map (·.1)=ns)(h:EL G B E (dB (cy pos (br args B.env))) Y Z (AJ G B E (.ref f) [.inst C l] Q)):nF G B E name pl pos args Q (.inst C l) Y Z:=(bO (.ref f) [.inst C l] (GL O F.cls F.find F.fn hl F.no) (cj F.keep) h)
theorem qy{K:Type}[DecidableEq K][DK K]{l:List (K×DV)}{id:String}(D:DS Z d l)(slot:Slot "dict" name id)(hty:iN (.builtin id)=pure (.type "method_descriptor"))(h:EL G B E (dB (cy pos (br args B.env))) Y Z (AJ G B E (.builtin id) [d] Q)):nF G B E name pl pos args Q d Y Z:=(bO (.builtin id) [d] (GM D slot hty) kg h)
theorem kJ{id:String}(D:LS Z d l)(slot:Slot "list" name id)(hty:iN (.builtin id)=pure (.type "method_descriptor"))(h:EL G B E (dB (cy pos (br args B.env))) Y Z (AJ G B E (.builtin id) [d] Q)):nF G B E name pl pos args Q d Y Z:=(bO (.builtin id) [d] (GK D slot hty) kg h)
def Q8(Q:DV->aP->Mu->Prop):DV->aP->Mu->Prop:=fun d Y' Z'=>∃i,d=.int i/\Q (.int (-i)) Y' Z'
theorem MK{x:bZ}(h:EV G B E (a9 x B.env) Y Z (Q8 Q)):EV G B E (a9 (.UnaryOp .USub x pos) B.env) Y Z Q:=QJ h
theorem YS{i:Int}(q:Q (.int (-i)) Y Z):Q8 Q (.int i) Y Z:=(bq i rfl q)
def Q1(Q:DV->aP->Mu->Prop):List DV->aP->Mu->Prop:=fun ds Y' Z'=>ds.length<=1000000/\Q (.tup ds) Y' Z'
theorem Hi(O:B.Ok G)(h:EL G B E (dB (cy pos (br elts B.env))) Y Z (Q1 Q)):EV G B E (a9 (.Tuple elts k pos) B.env) Y Z Q:=JM O h
theorem Xk(h:ds.length<=1000000)(q:Q (.tup ds) Y Z):Q1 Q ds Y Z:=⟨h,q⟩
abbrev AsK(G:G0)(B:Bx)(E:aE->ay->Prop)(tg:bZ)(Q:aP->Mu->Prop):DV->aP->Mu->Prop:=fun d Y' Z'=>AS G B E tg d Y' Z' Q
theorem qe{Q:Fl->aP->Mu->Prop}(h:EV G B E (a9 e B.env) Y Z (AsK G B E (.Tuple [.Name x px,.Name y py] k tp) (Q .next)))(h1:nS [.Tuple [.Name x px,.Name y py] k tp] e pos.line B.env=pure ak)(h2:nT [.Tuple [.Name x px,.Name y py] k tp] e B.env=pure aq):EX G B E (fc (.Assign [.Tuple [.Name x px,.Name y py] k tp] e pos) B.env) Y Z Q:=by intro V s S;refine Assign_Tuple (WP.use h S (fun v s_1 d Y1 Z1 V_1 S_1 k_1 i_1 hA=>?_)) h1 h2;exact aQ (hA V_1 s_1 v S_1 i_1) (fun zz s_2 z4=>iK z4 fun zz Y2 Z2 V_2 S_2 k_2 zz q=>⟨.next,Y2,Z2,V_2,S_2,k_1.trans k_2,rfl,q⟩) fun zz zz x=>x
theorem cT(h:Z.map (·.1)=Z0.map (·.1))(r:R d Z):km Z0 R (.ret d) Y Z:=(eB [] Z d (.refl _) h r (.inl rfl))
theorem kO(h:Z.map (·.1)=Z0.map (·.1))(r:R d Z):km Z0 R (.ret d) Y (p::Z):=(eB [p] Z d (.refl _) h r (.inl rfl))
theorem U7(h:Z.map (·.1)=Z0.map (·.1))(r:R d Z):km Z0 R (.ret d) Y (p::p'::Z):=(eB [p,p'] Z d (.refl _) h r (.inl rfl))
theorem gN(h:Z.map (·.1)=Z0.map (·.1))(r:R .none Z):km Z0 R .next Y Z:=(eB [] Z .none (.refl _) h r (.inr (.inl ⟨rfl,rfl⟩)))
theorem Cd(h:Z.map (·.1)=Z0.map (·.1))(e:Rx mo=ac d)(r:R d Z):km Z0 R (.ret (.ptr a)) Y ((a,mo)::Z):=(eB [(a,mo)] Z d (.refl _) h r (.inr (.inr (bO a mo rfl (.head _) e))))
theorem U8(h:Z.map (·.1)=Z0.map (·.1))(e:Rx mo=ac d)(r:R d Z):km Z0 R (.ret (.ptr a)) Y (p::p'::(a,mo)::Z):=(eB [p,p',(a,mo)] Z d (.refl _) h r (.inr (.inr (bO a mo rfl (.tail _ (.tail _ (.head _))) e))))
def bY(G:G0)(x:aV)(d:DV):Prop:=∃v,Ei G x v/\Is G.prog G.w G.hb.get? d v
theorem wk(O:B.Ok G)(h:bY G x d)(hx:B.env.kindOf x=ac .globalImplicit)(hd:(x==("__debug__" : aV))=ak)(q:Q d Y Z):EV G B E (a9 (.Name x pos) B.env) Y Z Q:=let ⟨_,a,b⟩:=h;MM O a hx hd b q
def N9(G:G0)(C:aW)(name:aV):Prop:=∀{A:fR}{s:ay}{x:aW}{ox:uD}{od:Option uD}{tk:Tok}{v:aE}{R:yL->ay->Prop},G.K.In s.heap->W.InstAt s.heap x ox C od->(∀b,bd (bf G.prog G.w) A.in1 (KO (.ref x) (.ref C) (.str name tk) name v b) (fun fin s'=>match fin with|.done f=>R (.ok f) s'|.again c'=>c'.quiet=ai/\fJ (bf G.prog G.w) A c' R s') (fun e s'=>R (.error e) s') s)->fJ (bf G.prog G.w) A (.call (.builtin "object.__setattr__") ⟨[.ref x,.str name tk,v],[]⟩) R s
structure gq (G:G0) (C:aW) (name:aV):Prop where
 set:kB G.K (.ref C) "__setattr__" = ac (ac (.builtin "object.__setattr__"))
 opens:N9 G C name
 hd:(Rm G.K C).any (·.hasDict)=ai
theorem de(h1:kB G.K (.ref C) "__setattr__" = ac (ac (.builtin "object.__setattr__")))(h2:plainOver G.K C=ai)(h3:takerIn G.K C name=ac aq)(h4:(Rm G.K C).any (·.hasDict)=ai):gq G C name:=⟨h1,fun X I h=>osa_open X I h2 h3 h,h4⟩
theorem Ml:∀{l:List (aV×DV)}{es:List mF},yE G.prog G.w V l es->es.length=l.length:=by
 intro p0_;induction p0_ with
 |nil=>intro es h;rw[h];rfl
 |cons p_ r ih=>
  rcases p_ with⟨x,d⟩
  intro es h;refine bB h ?_;clear h;intro e rs z1 zz zz h;subst z1;rw[cK,cK,ih h]
theorem Jp:∀{l:List (aV×DV)}{es:List mF},yE G.prog G.w V l es->(l.map (·.1)).contains x=ak->es.any (·.key.isStr x)=ak:=by
 intro p0_;induction p0_ with
 |nil=>intro es h zz;rw[h];rfl
 |cons p_ r ih=>
  rcases p_ with⟨y,d⟩
  intro es h n;refine bB h ?_;clear h;intro e rs z2 z3 zz h;subst z2;refine aY z3 ?_;clear z3;intro t hk;rw[au,dt,fp] at n;rw[dF,hk,ih h n.2,qR];have n1:=n.1;rw[beq_eq_false_iff_ne] at n1;simpa[pN] using fun q=>n1 q.symm
theorem IV{hsh:Int}:∀{es:List mF},es.any (·.key.isStr name)=ak->putL name hsh k v es=es++[⟨hsh,k,v⟩]:=by
 intro p0_;induction p0_ with
 |nil=>intro zz;exact rfl
 |cons e r ih=>intro h;rw[dF,fp] at h;unfold putL;rw[h.1,ih h.2];rfl
theorem DC{hsh:Int}(hi:Is G.prog G.w V d v):∀{l:List (aV×DV)}{es:List mF},yE G.prog G.w V l es->yE G.prog G.w V (l++[(x,d)]) (es++[⟨hsh,.str x t,v⟩]):=by
 intro p0_;induction p0_ with
 |nil=>intro es h;rw[h];show Exists _;exact dw _ [] rfl ⟨t,rfl⟩ hi rfl
 |cons p_ r ih=>
  rcases p_ with⟨y,d'⟩
  intro es h;refine bB h ?_;clear h;intro e rs z4 hk hi' h;subst z4;show Exists _;exact dw e _ rfl hk hi' (ih h)
set_option tactic.hygienic true in
theorem uR{Z1:Mu}{l:List (aV×DV)}{Q:Fin->ay->Prop}(S:b9 (cx G B) V Y (Z1++(dx,.flds l)::Z) s)(hi:Is G.prog G.w V d v)(hno:(l.map (·.1)).contains name=ak)(hl:l.length<=900)(q:∀s',b9 (cx G B) V Y (Z1++(dx,.flds (l++[(name,d)]))::Z) s'->Q (.done (.ret .none)) s'):bd (bf G.prog G.w) A (nsSet dx name v) (fun _ s'=>bd (bf G.prog G.w) A (do lookBehind dx (ac (.str name 0));ret .none) Q E s') E s:=by
 refine cY (S.mu (dx,.flds l) (aK _ (.head _))) fun es n D hf=>?_;have D:s.heap.get? dx=ac (jh es n):=D;have hget:=Jq hf hno;have e:Wm name (wP G.w.params name) (.str name s.toks) v (jh es n)=jh (es++[⟨wP G.w.params name,.str name s.toks,v⟩]) (putN name es n):=by rw[putName_dict,IV (Jp hf hno)]
 have D':=cp (Wm name (wP G.w.params name) (.str name s.toks) v) D (by rw[e];rfl);unfold nsSet;refine ah (ah (wpAny_askSetting (aH (ah (wpAny_mkText (ah (CO D ?_)))))));have c:(!es.toArray.any (·.key.isStr name)&&es.toArray.any (·.refKey))=ak:=by
  rw[<-jG,<-jG];unfold getL at hget;split at hget;.cases hget
  .split at hget
   .injection hget
   .rename_i z;rw[Bool.not_eq_true] at z
    rw[kC,z,Bool.and_false]
 dsimp only;rw[aRefKeyMayBeTheName_at,c];have hz:es.length<=1000:=by rw[Ml hf];exact je hl rfl
 refine wpAny_updatePart D ?_;refine ah (wpAny_lookBehind (D'.trans (congrArg ac e)) (pastItsLine_dict (by rw[lO,aS,AL,bQ];exact om0 hz)) ?_);exact aH (q _ (S.turn (t:=s.toks+1) (mo':=.flds (l++[(name,d)])) (cW ..) (jP _ _ (D'.trans (congrArg ac e)) (DC hi hf))))
theorem u8{x dx C:aW}{Q:Unit->ay->Prop}(O:B.Ok G)(S:b9 (cx G B) V Y ((x,.obj ox)::(dx,.flds l)::Z) s)(ec:ox.cls=.ref C)(ed:ox.dict=ac dx)(en:notCls ox=ai)(hi:Is G.prog G.w V d v)(F:gq G C name)(hno:(l.map (·.1)).contains name=ak)(hl:l.length<=900)(q:∀s',b9 (cx G B) V Y ((x,.obj ox)::(dx,.flds (l++[(name,d)]))::Z) s'->Q () s'):bd (bf G.prog G.w) B.A (setAttr (.ref x) name v) Q E s:=by
 have X:=S.kin O;have hx:s.heap.get? x=ac ox:=S.mu _ (.head _);refine cY (S.mu (dx,.flds l) (.tail _ (.head _))) fun es n D hf=>?_;have D:s.heap.get? dx=ac (jh es n):=D;have I:InstAt s.heap x ox C (ac (jh es n)):=⟨hx,ec,en,by rw[ed];exact D⟩
 refine set_plain X I F.set (F.opens (s:={s with toks:=s.toks+1}) X I fun b=>?_);refine ar (W8 F.hd) fun cd hc hd'=>?_;obtain⟨oc,odi,oda,osl⟩:=ox;dsimp only at ec ed;subst ec ed;refine ah (aH (ah (ah (CO hx (ah (K4 X hc _ _ _ _ (fun zz zz e=>e) ?_))))));rw[hd'];exact aH (a:=ac dx) (ah (aH (ah (uR (Z1:=[(x,.obj _)]) (S.sat_toks _) hi hno hl q))))
theorem wj{o e:bZ}{Q:Fl->aP->Mu->Prop}(O:B.Ok G)(h:EV G B E (a9 e B.env) Y Z fun d Y1 Z1=>EV G B E (a9 o B.env) Y1 Z1 fun d' Y2 Z2=>∃x dx C l Zr,d'=.ptr x/\Z2=(x,.obj (cn C dx))::(dx,.flds l)::Zr/\gq G C name/\(l.map (·.1)).contains name=ak/\l.length<=900/\Q .next Y2 ((x,.obj (cn C dx))::(dx,.flds (l++[(name,d)]))::Zr))(hs:gO e (ac (.Attribute o name apos)) pos.line B.env=pure ak):EX G B E (fc (.Assign [.Attribute o name apos] e pos) B.env) Y Z Q:=by intro V s S;refine j7 (WP.use h S (fun v s_1 d Y1 Z1 V_1 S_1 k_1 i_1 h₁=>?_)) hs;refine WP.use h₁ S_1 (fun ov s_2 d' Y2 Z2 V_2 S_2 k_2 i_2 z7=>eu z7 fun x dx C l Zr y51=>iZ y51 fun ed em F hno hl q=>?_);subst ed em;refine aZ (aT.mp i_2) fun z8 zz=>?_;subst z8;exact u8 O S_2 rfl rfl rfl (i_1.mono k_2) F hno hl fun s' S'=>⟨.next,Y2,_,V_2,S',k_1.trans k_2,rfl,q⟩
def Q5(G:G0)(name:aV)(d:DV)(Q:Fl->aP->Mu->Prop):DV->aP->Mu->Prop:=fun d' Y2 Z2=>∃x dx C l Zr,d'=.ptr x/\Z2=(x,.obj (cn C dx))::(dx,.flds l)::Zr/\gq G C name/\(l.map (·.1)).contains name=ak/\l.length<=900/\Q .next Y2 ((x,.obj (cn C dx))::(dx,.flds (l++[(name,d)]))::Zr)
abbrev VD(G:G0)(B:Bx)(E:aE->ay->Prop)(o:bZ)(name:aV)(Q:Fl->aP->Mu->Prop):DV->aP->Mu->Prop:=fun d Y1 Z1=>EV G B E (a9 o B.env) Y1 Z1 (Q5 G name d Q)
theorem ug{o e:bZ}{Q:Fl->aP->Mu->Prop}(O:B.Ok G)
  (h:EV G B E (a9 e B.env) Y Z (VD G B E o name Q))
  (hs:gO e (ac (.Attribute o name apos)) pos.line B.env=pure ak):EX G B E (fc (.Assign [.Attribute o name apos] e pos) B.env) Y Z Q:=wj O h hs
theorem pP{x dx C:aW}{Q:Fl->aP->Mu->Prop}(F:gq G C name)(hno:(l.map (·.1)).contains name=ak)(hl:l.length<=900)(q:Q .next Y ((x,.obj (cn C dx))::(dx,.flds (l++[(name,d)]))::Z)):Q5 G name d Q (.ptr x) Y ((x,.obj (cn C dx))::(dx,.flds l)::Z):=⟨x,dx,C,l,Z,rfl,rfl,F,hno,hl,q⟩
theorem qJ.made(h:qJ A (k+1)):qJ (A.under (.builtin "type.__call__" ⟨.ref C::rest,kw⟩)) k:=by
 have hw:(tf "type.__call__" ⟨.ref C::rest,kw⟩).weight=1:=by kernel_rfl
 have hu:(tf "type.__call__" ⟨.ref C::rest,kw⟩).cUnits=1:=rfl;refine⟨?_,?_⟩;.have:=h.1;show A.depth+(tf "type.__call__" ⟨.ref C::rest,kw⟩).weight+4*k<900;exact om1 hw this
 .have:=h.2;show A.units+(tf "type.__call__" ⟨.ref C::rest,kw⟩).cUnits+20*k<9000;exact om2 hu this
structure o3 (G:G0) (C fI:aW):Prop where
 makes:makesIn G.K C=ai
 init:kB G.K (.ref C) "__init__" = ac (ac (.ref fI))
 fn:HY G.K (.ref fI)=ac (.type "function")
noncomputable abbrev ya(s:ay)(C:aW):jl:=(s.heap.push yI).push (cn C s.heap.objs.size)
noncomputable abbrev BI(s:ay)(C:aW)(l:List (aV×DV))(Z:Mu):Mu:=(s.heap.objs.size+1,.obj (cn C s.heap.objs.size))::(s.heap.objs.size,.flds l)::Z
theorem sC(s C):(ya s C).objs.size=s.heap.objs.size+2:=by rw[bV,bV]
theorem pC(e:s.heap.get? a=ac o):(ya s C).get? a=ac o:=aX _ (aX _ e)
theorem BH(lt:a<s.heap.objs.size)(h:a∉Z.map (·.1)):a∉(BI s C l Z).map (·.1):=fun z=>by
 rcases ao.mp z with z|z;.exact absurd z (bP (gG lt))
 .rcases ao.mp z with z|z
  .exact absurd z (bP lt)
  .exact h z
theorem Eh.muLt(P:Eh G V Z s)(h:a∈Z.map (·.1)):a<s.heap.objs.size:=ar (az.mp h) fun p hp e=>aY (P.mu p hp).at fun o ho=>e▸aR ho
theorem Br{C:aW}(P:Eh G V Z s):Eh G V (BI s C [] Z) {s with heap:=ya s C}:=by
 have gx:(ya s C).get? (s.heap.objs.size+1)=ac (cn C s.heap.objs.size):=by heap_get
 refine⟨P.b0,fun a o e=>pC (P.vh _ _ e),fun p hp=>?_,?_,fun p hp=>?_⟩
 .rcases ao.mp hp with rfl|hp
  .exact gx
  .rcases ao.mp hp with rfl|hp
   .exact jP [] 0 (aX _ (aN _ rfl)) rfl
   .exact aY ((P.mu p hp).at) fun o ho=>(P.mu p hp).mono (.refl _) ((pC ho).trans ho.symm)
 .refine av.mpr ⟨fun q=>?_,av.mpr ⟨fun q=>mK _ (P.muLt q),P.nd⟩⟩
  rcases ao.mp q with q|q;.exact absurd q (K8 _)
  .exact absurd (P.muLt q) (bu.mpr (cD _))
 .rcases ao.mp hp with rfl|hp
  .exact P.nV (cD _)
  .rcases ao.mp hp with rfl|hp
   .exact P.nV (aI _)
   .exact P.vm p hp
theorem A5{A A':fR}{C:aW}(hA:A'.frames=A.frames)(hstk:m7 A (Z.map (·.1)) V s):m7 A' ((BI s C [] Z).map (·.1)) V {s with heap:=ya s C}:=ar hstk fun l hl hs=>(bq l (hA.trans hl) (fun env he=>gB (hs env he) fun a f o b c d e e'=>⟨a,f,o,b,c,BH (aR e) d,pC e,e'⟩))
theorem xT{A A':fR}{C:aW}{l:List (aV×DV)}{Zr:Mu}{V':Vw}{s':ay}(hA:A'.frames=A.frames)(P:Eh G V Z s)(T:AG G A' V (BI s C [] Z) {s with heap:=ya s C} V' (BI s C l Zr) s'):∃V'',AG G A V Z s V'' Zr s'/\Is G.prog G.w V'' (.inst C l) (.ref (s.heap.objs.size+1))/\Kp V' V''/\∀a,s.heap.objs.size+2<=a->V'' a=V' a:=by
 have hx:s'.heap.get? (s.heap.objs.size+1)=ac (cn C s.heap.objs.size):=T.mu _ (.head _);refine cY (T.mu (s.heap.objs.size,.flds l) (.tail _ (.head _))) fun es n hd hf=>?_;have hd:s'.heap.get? s.heap.objs.size=ac (jh es n):=hd;have vx:V' (s.heap.objs.size+1)=aq:=T.vm _ (.head _);have vd:V' s.heap.objs.size=aq:=T.vm (s.heap.objs.size,.flds l) (.tail _ (.head _));have k1:Kp V' (fS V' s.heap.objs.size (jh es n)):=dc vd;have k2:Kp (fS V' s.heap.objs.size (jh es n)) (fS (fS V' s.heap.objs.size (jh es n)) (s.heap.objs.size+1) (cn C s.heap.objs.size)):=dc (by rw[dC _ _ (K8 _)];exact vx);have as:Zr.map (·.1)=Z.map (·.1):=(HQ (HQ T.as).2).2;have out:∀{a},a≠s.heap.objs.size+1->a≠s.heap.objs.size->fS (fS V' s.heap.objs.size (jh es n)) (s.heap.objs.size+1) (cn C s.heap.objs.size) a=V' a:=fun q q'=>(dC _ _ q).trans (dC _ _ q');refine qh (fS (fS V' s.heap.objs.size (jh es n)) (s.heap.objs.size+1) (cn C s.heap.objs.size)) ⟨T.v0.trans (k1.trans k2),fun a o e=>?_,fun a ha=>?_,fun p hp=>(T.mu p (.tail _ (.tail _ hp))).mono (k1.trans k2) rfl,as,fun p hp=>?_,fun a o hn e=>(show mZ A'=mZ A by unfold mZ;rw[hA])▸T.pr a o (BH (aR e) hn) (pC e),ae (cg _ 2) (sC s C▸T.sz),T.rest⟩ ?_ (k1.trans k2) (fun a ha=>out (gU ha) (gU (Nat.lt_of_succ_lt ha)))
 .by_cases q:a=s.heap.objs.size+1
  .subst q;rw[bT] at e;exact hx.trans e
  .by_cases q':a=s.heap.objs.size
   .subst q';rw[dC _ _ q,bT] at e;exact hd.trans e
   .exact T.vh _ _ ((out q q').symm.trans e)
 .by_cases q:a=s.heap.objs.size+1
  .exact .inr (q▸cD _)
  .by_cases q':a=s.heap.objs.size
   .exact .inr (q'▸aI _)
   .rw[out q q'] at ha
    exact(T.fr a ha).imp id fun z=>ae (cg _ 2) (sC s C▸z)
 .have:=P.muLt (as▸ax hp:p.1∈Z.map (·.1))
  rw[out (bP (gG this)) (bP this)];exact T.vm p (.tail _ (.tail _ hp))
 .show Exists _
  exact fG _ _ es n rfl (bT _ _ _) (by rw[dC _ _ (bP (c9 _)),bT]) (hf.mono (k1.trans k2))
theorem kt(g:G.Ok)(F:o3 G C fI)(H:∀x dx,gj G hd k (.ref fI) (.ptr x::ds) ((x,.obj (cn C dx))::(dx,.flds [])::Zc) (fun d Z'=>∃l Zr,d=.none/\Z'=(x,.obj (cn C dx))::(dx,.flds l)::Zr/\R (.inst C l) Zr) (fun zz zz zz zz zz=>False)):gj G hd (k+1) (.ref C) ds Zc R (fun zz zz zz zz zz=>False):=by
 intro A V s vs rm hcalm hh hstk P hi;have kb:∀b o,G.hb.get? b=ac o->s.heap.get? b=ac o:=fun b o e=>P.vh _ _ (P.b0 _ _ e);have X:G.K.In s.heap:=g.kin.keeps kb;have P':=Br (C:=C) P;have hst':=A5 (C:=C) (A':=A.under (.builtin "type.__call__" ⟨.ref C::vs,[]⟩)) rfl hstk;have fin:=fun l Zr V' s'=>xT (A:=A) (A':=A.under (.builtin "type.__call__" ⟨.ref C::vs,[]⟩)) (C:=C) (l:=l) (Zr:=Zr) (V':=V') (s':=s') rfl P;rcases s with⟨h,gs,dr,tk,os⟩
 refine make_core (makes_of X F.makes) (jU X F.init) (fun self=>bind_fn X self F.fn) (.inl rfl) ?_;refine dR (H (h.objs.size+1) h.objs.size (A.under (.builtin "type.__call__" ⟨.ref C::vs,[]⟩)) V _ (.ref (h.objs.size+1)::vs) rm.made hcalm hh hst' P' (aG.mpr (bO _ _ rfl (aT.mpr ⟨rfl,rfl⟩) hi))) fun r s' hr=>?_;rcases r with e|(v|_|_|_)<;>first|exact hr.elim|skip
 refine bl hr fun d Z' V' T i y52=>aM y52 fun l Zr z9 z10 hR=>?_;subst z9;subst z10;refine aZ (aT.mp i) fun z11 zz=>?_;subst z11;exact⟨rfl,jE (fin l Zr V' s' T) fun V'' T2 i2 _ _=>(i5 (.inst C l) Zr V'' T2 i2 hR)⟩
def Q2(a:aW)(h:jl):Prop:=∃o vs,h.get? a=ac o/\o.data=.fields vs/\vs[2]?=ac .none
noncomputable def cZ(a:aW):HN α->Prop|.pure _=>True|.raise _=>True|.unsupported _=>True|.finish _=>True|.rule _ k=>cZ a (k ())|.at _ k=>cZ a (k ())|.load _ _ k=>∀o,cZ a (k o)|.update b _ f k=>(∀h,Q2 a h->Q2 a (h.update b f))/\cZ a (k ())|.alloc _ k=>∀x,cZ a (k x)|.ask k=>∀x,cZ a (k x)|.stack k=>∀x,cZ a (k x)|.fresh k=>∀x,cZ a (k x)|.point _ k=>cZ a (k ())|_=>False
theorem cz(hf:∀x,cZ a (f x)):∀{t:HN α},cZ a t->cZ a (t >>= f):=by
 intro t;show cZ a t->cZ a (Sem.bind t f);induction t with
 |pure x=>exact fun zz=>hf x
 |raise|unsupported|finish=>exact fun h=>h
 |rule _ k ih|«at» _ k ih=>exact fun h=>ih () h
 |point _ k ih=>exact fun h=>ih () h
 |load _ _ k ih=>exact fun h o=>ih o (h o)
 |alloc _ k ih=>exact fun h o=>ih o (h o)
 |ask k ih=>exact fun h o=>ih o (h o)
 |stack k ih=>exact fun h o=>ih o (h o)
 |fresh k ih=>exact fun h o=>ih o (h o)
 |update b _ g k ih=>exact fun h=>⟨h.1,ih () h.2⟩
 |_=>exact fun h=>h.elim
theorem tz{x:α}:cZ a (pure x:HN α):=trivial
theorem Q2.push(q:Q2 a h)(o):Q2 a (h.push o):=by refine cY q ?_;clear q;intro o' vs h1 h2;exact jP o' vs (aX _ h1) h2
theorem FW{Q:α->xH->ay->Prop}{E:aE->xH->ay->Prop}:∀{p:xH}{s:ay},cZ a t->Q2 a s.heap->CS M Γ t Q E p s->CS M Γ t (fun x p' s'=>Q2 a s'.heap/\Q x p' s') (fun e p' s'=>Q2 a s'.heap/\E e p' s') p s:=by
 induction t with
 |pure x=>intro p s _ q h;exact⟨q,h⟩
 |raise v=>intro p s _ q h;exact⟨q,h⟩
 |unsupported|finish=>intro p s _ q h;exact h
 |rule _ k ih|«at» _ k ih=>intro p s kk q h;exact ih _ kk q h
 |point _ k ih=>intro p s kk q h;exact ih _ kk q h
 |ask k ih|stack k ih=>intro p s kk q h;exact ih _ (kk _) q h
 |fresh k ih=>intro p s kk q h;exact ih _ (kk _) q h
 |alloc o k ih=>intro p s kk q h;exact ih _ (kk _) (q.push o) h
 |load b _ k ih=>intro p s kk q ⟨o,ho,h⟩;exact⟨o,ho,ih _ (kk _) q h⟩
 |update b _ f k ih=>intro p s kk q ⟨ha,h⟩;exact⟨ha,ih _ kk.2 (kk.1 _ q) h⟩
 |_=>intro p s kk q h;exact kk.elim
theorem eW{Q:α->ay->Prop}(k:cZ a t)(q:Q2 a s.heap)(h:bd M A t (fun x s'=>Q2 a s'.heap->Q x s') (fun e s'=>Q2 a s'.heap->E e s') s):bd M A t Q E s:=fun Γ p hΓ=>FL M Γ t (fun zz zz zz x=>x.2 x.1) (fun zz zz zz x=>x.2 x.1) p s (FW k q (h Γ p hΓ))
theorem Q2.upd(hf:∀o vs,o.data=.fields vs->vs[2]?=ac .none->∃vs',(f o).data=.fields vs'/\vs'[2]?=ac .none)(h)(q:Q2 a h):Q2 a (h.update b f):=by
 refine aM q ?_;clear q;intro o vs h1 h2 h3;by_cases e:b=a
 .subst e
  refine ar (hf o vs h2 h3) fun vs' g2 g3=>?_;exact bO (f o) vs' (cp _ h1 (pO g2)) g2 g3
 .exact bO o vs ((jd _ _ e).trans h1) h2 h3
theorem qA(hi:i≠2):cZ a (updateField b i v):=by
 intro o;show cZ a (match o.data with|.fields vs=>if i<vs.size then update b (AX (·.setIfInBounds i v)) else K0 "internal:no-such-field"|_=>K0 "internal:write-to-non-record");split
 .split
  .refine⟨Q2.upd fun o vs h2 h3=>(bq _ (lC h2 _) ?_),trivial⟩
   rw[Array.getElem?_setIfInBounds_ne hi];exact h3
  .trivial
 .trivial
theorem jX(hi:i≠2):cZ a (K1 e i v):=by
 unfold K1;split;.exact qA hi
 .trivial
theorem ke:cZ a (field e i):=by
 unfold field;refine cz (fun x=>?_) ?_;.split<;>trivial
 .unfold fieldsOf
  split
  .intro o
   show cZ a (match o.data with|.fields vs=>pure vs|_=>K0 "internal:no-fields");split<;>trivial
  .trivial
theorem gL:cZ a (HL e f):=by
 unfold HL;refine cz (fun x=>?_) ke;split;.exact jX (by decide)
 .trivial
theorem xt:cZ a (W6 env outer):=by
 unfold W6;split;.trivial
 .split
  .trivial
  .exact cz (fun x=>tz) ke
theorem BN:cZ a (keptBack env b outer):=by
 cases outer with
 |nil=>
  show cZ a (if(env.scope.isGenerator||env.scope.isCoroutine)=ai then pure dn else do return if <-underTheClaimsCaller then .notImplemented else .none);by_cases h:(env.scope.isGenerator||env.scope.isCoroutine)=ai;.rw[if_pos h];trivial
  .rw[if_neg h];exact fun zz=>trivial
 |cons c r=>exact(trivial:cZ a (pure _:HN aE))
theorem zN:∀{l:List Ou},cZ a (readyFrames l):=by
 intro p0_;induction p0_ with|nil=>exact trivial|cons env outer ih=>
  unfold readyFrames;cases env.frame with|none=>trivial|some f=>
   dsimp only;refine cz (fun o=>?_) (fun zz=>trivial);split;.trivial
   .refine cz (fun x=>cz (fun y=>?_) BN) xt
    exact cz (fun zz=>ih) ⟨Q2.upd fun o vs h2 h3=>(bq vs h2 h3),trivial⟩
theorem vI:cZ a (yM env):=by
 unfold yM;refine cz (fun l=>cz (fun x=>?_) ?_) (fun zz=>trivial);.split<;>trivial
 .cases List.dropWhile (fun x=>x.frame != env.frame) l with|nil=>trivial|cons e r=>exact cz (fun zz=>tz) zN
theorem zP:cZ a (nP x1 x2 x3 x4 x5 pl):=by
 unfold nP newFields newObj;generalize[x1,x2,x3,x4,x5]++(if pl.isEmpty=ai then d8 6 dn else pl)=l;dsimp only;split;.trivial
 .exact fun zz=>trivial
theorem zO:cZ a (H8 f b):=by unfold H8;refine cz (fun l=>?_) (fun zz=>trivial);dsimp only;split<;>trivial
theorem oH:cZ a (RG e env):=by
 unfold RG;cases env.frame with|none=>trivial|some f=>
  dsimp only;refine cz (fun head=>?_) ke;have tail:cZ a (do K1 e 1 (<-nP head (<-yM env) .none (fb f) .none (<-H8 f (head != .none))):HN Unit):=
   cz (fun zz=>cz (fun zz=>cz (fun zz=>jX (by decide)) zP) zO) vI
  split
  .refine cz (fun x=>?_) ke
   split;.trivial
   .exact cz (fun zz=>tail) (jX (by decide))
  .exact tail
theorem kK:cZ a (leaving env e):=cz (fun zz=>gL) oH
def wM(o:uD):Prop:=o.cls=.ref 59/\∃vs a0,o.data=.fields vs/\vs[0]?=ac a0/\vs[1]?=ac .none/\vs[2]?=ac .none
structure Zn (G:G0) (A:fR) (V:Vw) (Z:Mu) (s:ay) (x:aW) (fl:aE) (a:aW) (l:List Ou) (V':Vw) (base:jl) (a0:aE) (s':ay):Prop where
 fr:A.frames=ac l
 st:base.StaysIn s'.heap
 no:base.get? a=aq
 ff:s'.heap.FunFrames base l
 tr:s'.heap.TracedAtW base a (.ref 59) a0 fl
 big:s.heap.objs.size<=a
 q2:Q2 a s'.heap
 v0:Kp V V'
 vb:Kp V' base.get?
 vn:∀b,V' b≠aq->V b≠aq\/s.heap.objs.size<=b
 mu:∀p∈Z,jv G.prog G.w V' base.get? p.1 p.2
 vm:∀p∈Z,V' p.1=aq
 pr:∀b o,b∉Z.map (·.1)->b∉mZ A->s.heap.get? b=ac o->base.get? b=ac o
 sl:∀b o,b≠x->b∈mZ A->s.heap.get? b=ac o->∃sl,s'.heap.get? b=ac {o with slots:=sl}
 sz:s.heap.objs.size<=s'.heap.objs.size
 rest:ul s s'
structure Zp (G:G0) (A:fR) (V:Vw) (Z:Mu) (s:ay) (x:aW) (a:aW) (V':Vw) (base:jl) (s':ay):Prop where
 no:base.get? a=aq
 big:s.heap.objs.size<=a
 v0:Kp V V'
 vb:Kp V' base.get?
 vn:∀b,V' b≠aq->V b≠aq\/s.heap.objs.size<=b
 mu:∀p∈Z,jv G.prog G.w V' base.get? p.1 p.2
 vm:∀p∈Z,V' p.1=aq
 pr:∀b o,b∉Z.map (·.1)->b∉mZ A->s.heap.get? b=ac o->base.get? b=ac o
 sl:∀b o,b≠x->b∈mZ A->s.heap.get? b=ac o->∃sl,s'.heap.get? b=ac {o with slots:=sl}
 sz:s.heap.objs.size<=s'.heap.objs.size
 rest:ul s s'
theorem Zn.b{x:aW}(X:Zn G A V Z s x fl a l V' base a0 s'):Zp G A V Z s x a V' base s':=⟨X.no,X.big,X.v0,X.vb,X.vn,X.mu,X.vm,X.pr,X.sl,X.sz,X.rest⟩
def XF(G:G0)(A:fR)(V:Vw)(Z:Mu)(s:ay)(x:aW)(fl e:aE)(s':ay):Prop:=∃a l V' base a0,e=.ref a/\Zn G A V Z s x fl a l V' base a0 s'
abbrev XE(G:G0)(Z:Mu):fR->Vw->ay->aE->ay->Prop:=fun A V s e s'=>XF G A V Z s s.heap.objs.size .none e s'
abbrev jg(G:G0)(k:Nat)(f:aE)(ds:List DV)(Z:Mu)(R:DV->Mu->Prop)(ok:Prop):Prop:=gj G ak k f ds Z (fun d Z'=>ok/\R d Z') (fun A V s e s'=>¬ok/\XE G Z A V s e s')
structure qg (B:Bx):Prop where
 frame:B.env.frame=ac B.L
 fr:∃l,B.A.frames=ac (B.env::l)
inductive EF (G:G0) (B:Bx) (Z0:Mu):aE->ay->Prop
 |made {a:aW} {V:Vw} {Y:aP} {Z:Mu} {s':ay}:b9 (cx G B) V Y ((a,.pr wM)::Z) s'->(∀p∈Z0,p∈Z)->EF G B Z0 (.ref a) s'
 |fly {e:aE} {s':ay}:XF G B.A B.V0 Z0 B.s0 B.L .none e s'->EF G B Z0 e s'
 |held {e:aE} {s':ay}:XF G B.A B.V0 Z0 B.s0 B.L (fb B.L) e s'->EF G B Z0 e s'
theorem qg.mem(W:qg B):B.L∈mZ B.A:=by refine aY W.fr fun l hl=>?_;unfold mZ;rw[hl];exact cm.mpr (bq B.env (.head _) W.frame)
theorem XF.up(O:B.Ok G)(W:qg B)(S:b9 (cx G B) V Y Z s)(P:i4 Z Zc f)(h0:∀p∈Z0,p∈Z)(hm:B.m0=Z0.map (·.1))(h:XF G B.A V Zc s s.heap.objs.size .none e s'):XF G B.A B.V0 Z0 B.s0 B.L .none e s':=by
 refine pH h ?_;clear h;intro a l V' base a0 z1 X;subst z1;have dj:=av.mp S.dj;have inj:∀p∈Z,∀q∈Z,p.1=q.1->p=q:=fun p hp q hq e=>by
  have nd:(Z.map (·.1)).Nodup:=dj.2;clear dj S h0 P;induction Z with|nil=>cases hp|cons r t ih=>
   rw[au,av] at nd;rcases ao.mp hp with hp1|hp1<;>rcases ao.mp hq with hq1|hq1
   .exact hp1.trans hq1.symm
   .exact absurd (by rw[<-hp1,e];exact ax hq1) nd.1
   .exact absurd (by rw[<-hq1,<-e];exact ax hp1) nd.1
   .exact ih hp1 hq1 nd.2
 refine⟨a,l,V',base,a0,rfl,X.fr,X.st,X.no,X.ff,X.tr,ae S.sz X.big,X.q2,S.v0.trans X.v0,X.vb,fun b hb=>?_,fun p hp=>?_,fun p hp=>?_,fun b o hb hf ho=>?_,fun b o hx hb ho=>?_,ae S.sz X.sz,S.rest.trans X.rest⟩
 .rcases X.vn b hb with z|z
  .exact S.fr b z
  .exact .inr (ae S.sz z)
 .have hp':=h0 p hp
  by_cases q:p.1∈Zc.map (·.1)
  .refine ar (az.mp q) fun r hr e=>?_
   exact inj r (P.sub r hr) p hp' e▸X.mu r hr
  .refine aY ((S.mu p hp').at) fun o ho=>?_
   exact(S.mu p hp').mono X.v0 ((X.pr p.1 o q (fun z=>((S.stk O).fro z).2.1 (ax hp')) ho).trans ho.symm)
 .have hp':=h0 p hp
  cases q:V' p.1 with|none=>rfl|some o=>
   rcases X.vn p.1 (by rw[q];simp) with z|z;.exact absurd (S.vm p hp') z
   .exact absurd (S.muLt hp') (bu.mpr z)
 .have hL:b≠B.L:=fun q=>hf (q▸W.mem)
  refine ar (S.pr b o (by rw[show(cx G B).m0=B.m0 from rfl,hm];exact hb) hL ho) fun o' e' nr=>?_;rw[nr.1 hf] at e';refine X.pr b o (fun z=>?_) hf e';refine ar (az.mp z) fun r hr e=>?_;subst e;rcases S.mf r (P.sub r hr) with z|z;.exact hb (hm▸z)
  .exact absurd (aR ho) (bu.mpr z)
 .by_cases q:b∈B.m0
  .refine ar (az.mp (hm▸q)) fun r hr e=>?_
   subst e;exact absurd (ax (h0 r hr)) ((S.stk O).fro hb).2.1
  .refine ar (S.pr b o q hx ho) fun o' e' r=>?_
   refine aY (X.sl b o' (bP (aR e')) hb e') ?_;(try clear sl);intro sl hs;refine Fj r ?_;clear r;intro zz sl' z2;subst z2;exact⟨sl,hs⟩
theorem wC(O:B.Ok G)(W:qg B)(hm:B.m0=Z0.map (·.1))(H:jg G k f ds Zc R ok)(hh:B.hd=ak)(P:i4 Z Zc re)(hk:k<=B.k)(h0:∀p∈Z0,p∈Z)(hE:¬ok->∀e s',XF G B.A B.V0 Z0 B.s0 B.L .none e s'->E e s')(q:ok->∀d Zc',R d Zc'->Q d Y (re Zc')):cI G B E f ds Y Z Q:=wD O H (.inr hh) P hk (fun d Zc' h=>q h.1 d Zc' h.2) fun V s e s' S h=>hE h.1 e s' (XF.up O W S P h0 hm h.2)
theorem EJ{h h':jl}(u:h.UpToSlots h')(hn:∀vs,o.data≠.fields vs)(e:h.get? b=ac o')(x:∃sl,o'={o with slots:=sl}):∃sl,h'.get? b=ac {o with slots:=sl}:=by refine aY x ?_;clear x;intro sl z3;subst z3;refine aY (u b _ e hn) fun sl' e'=>?_;exact⟨sl',e'⟩
theorem vF{E':aE->ay->Prop}(hB:B=⟨A.deeper env,env,s.heap.objs.size,V,Z0.map (·.1),s,k,hd⟩)(hfe:env.frame=ac s.heap.objs.size)(O:B.Ok G)(hst:m7 A (Z0.map (·.1)) V s)(h:EF G B Z0 e s'):bd (bf G.prog G.w) B.A (leaving B.env e) (fun zz s''=>XE G Z0 A V s e s'') E' s':=by
 refine ar hst ?_;clear hst;intro l hl hst;have hfr:B.A.frames=ac (B.env::l):=by rw[hB];exact e9 hl
 have hf:B.env.frame=ac B.L:=by rw[hB];exact hfe
 have hL:B.L=s.heap.objs.size:=by rw[hB]
 have hV:B.V0=V:=by rw[hB]
 have hs0:B.s0=s:=by rw[hB]
 have hm0:B.m0=Z0.map (·.1):=by rw[hB]
 have W:qg B:=⟨hf,l,hfr⟩
 have sub:∀b,b∈mZ A->b∈mZ B.A:=fun b hb=>by unfold mZ at hb ⊢;rw[hl] at hb;rw[hfr];refine ar (cm.mp hb) fun env he hf=>?_;exact cm.mpr (bq env (.tail _ he) hf)
 have froL:∀{b},b≠B.L->b∉mZ A->b∉mZ B.A:=fun {b} n h z=>by
  unfold mZ at h z;rw[hfr] at z;rw[hl] at h;refine ar (cm.mp z) fun env he hf'=>?_;rcases ao.mp he with rfl|he;.rw[hf] at hf';exact n (aB hf').symm
  .exact h (cm.mpr (bq env he hf'))
 have nf:∀{b o},b∈mZ A->s.heap.get? b=ac o->∀vs,o.data≠.fields vs:=fun {b o} hb ho=>by unfold mZ at hb;rw[hl] at hb;refine ar (cm.mp hb) fun env he hf=>?_;refine gB (hst env he) fun zz f o' hf' zz zz ho' hd=>?_;rw[hf] at hf';(injection hf' with hf';subst hf');rw[ho] at ho';(injection ho' with ho';subst ho');exact hd
 have nsz:∀{b o},s.heap.get? b=ac o->b≠B.L:=fun e=>hL▸bP (aR e);have Xout:∀{a:aW}{V':Vw}{base:jl}{a0:aE}{h':jl},Zp G B.A B.V0 Z0 B.s0 B.L a V' base s'->base.StaysIn h'->h'.FunFrames base l->h'.TracedW base a (.ref 59) a0->s'.heap.UpToSlots h'->s'.heap.objs.size<=h'.objs.size->Q2 a h'->XE G Z0 A V s (.ref a) {s' with heap:=h'}:=fun {a V' base a0 h'} X x1 x2 x3 x4 x5 x6=>by
  refine⟨a,l,V',base,a0,rfl,hl,x1,X.no,x2,x3,hs0▸X.big,x6,hV▸X.v0,X.vb,fun b hb=>?_,X.mu,X.vm,fun b o h1 h2 h3=>?_,fun b o zz hb ho=>?_,?_,?_⟩;.have:=X.vn b hb;rw[hV,hs0] at this;exact this
  .exact X.pr b o h1 (froL (nsz h3) h2) (by rw[hs0];exact h3)
  .refine aY (X.sl b o (nsz ho) (sub b hb) (by rw[hs0];exact ho)) ?_
   (try clear sl);intro sl hs;exact EJ x4 (nf hb ho) hs ⟨sl,rfl⟩
  .have:=X.sz;rw[hs0] at this;exact ae this x5
  .have:=X.rest;rw[hs0] at this;exact this
 cases h with
 |@made a V_1 Y1 Z1 _ S h0=>
  refine mq (S.mu (a,.pr wM) (.head _)) fun oe ho hc vs a0 y32=>jY y32 fun hd h00 h01 h02=>?_;have ho:s'.heap.get? a=ac oe:=ho;have hVa:V_1 a=aq:=S.vm (a,.pr wM) (.head _);have dj:=av.mp S.dj;have dj2:=av.mp (au▸dj.2);have stk:=S.stk O;have q2:Q2 a s'.heap:=(bO oe vs ho hd h02)
  have bget:∀{b o},s'.heap.get? b=ac o->b≠a->b∉mZ B.A->(Rk s'.heap (a::mZ B.A)).get? b=ac o:=fun e n1 n2=>hideAll_get _ e fun z=>by
   rcases ao.mp z with z|z;.exact n1 z
   .exact n2 z
  have hff:s'.heap.FunFrames (Rk s'.heap (a::mZ B.A)) (B.env::l):=by
   refine ar stk ?_;clear stk;intro l' hl' hs;rw[hfr] at hl';(injection hl' with hl';subst hl');have hin:∀env∈B.env::l,∀f,env.frame=ac f->f∈a::mZ B.A:=fun env he f hf=>.tail _ (by unfold mZ;rw[hfr];exact cm.mpr (bq env he hf));have go:∀ls,(∀env∈ls,env∈B.env::l)->s'.heap.FunFrames (Rk s'.heap (a::mZ B.A)) ls:=by
    intro ls;induction ls with
    |nil=>exact fun zz=>trivial
    |cons env r ih=>intro hsub;refine gB (hs env (hsub env (.head _))) fun k1 f o k2 k3 k4 k5 k6=>?_;exact jT k1 (dw f o k2 (H6 _ (hin env (hsub env (.head _)) f k2)) k5 k6) (ih fun e he=>hsub e (.tail _ he))
   exact go _ fun zz h=>h
  refine eW kK q2 (b5 (wpAny_leaving_firstW (base:=Rk s'.heap (a::mZ B.A)) hfr hff hf ho (fun b o e=>of_hideAll _ e) (H6 _ (.head _)) hd h01 h00 fun h' z4=>jY z4 fun x1 x2 x3 x4=>?_));intro x5 x6;rw[hc] at x3;refine Xout (V':=V_1) ⟨H6 _ (.head _),(S.mf (a,.pr wM) (.head _)).resolve_left (fun z=>by rw[show(cx G B).m0=B.m0 from rfl,hm0] at z;refine ar (az.mp z) fun r hr e=>?_;exact dj2.1 (e▸ax (h0 r hr))),S.v0,fun b o e=>?_,S.fr,fun p hp=>?_,fun p hp=>S.vm p (.tail _ (h0 p hp)),fun b o h1 h2 h3=>?_,fun b o h1 h2 h3=>?_,S.sz,S.rest⟩ x1 x2.2.2 x3 x4 x5 x6
  .refine bget (S.vh _ _ e) (fun q=>?_) (fun q=>?_)
   .rw[q,hVa] at e;injection e
   .rw[(stk.fro q).1] at e;injection e
  .have hp':=h0 p hp
   refine aY ((S.mu p (.tail _ hp')).at) fun o ho'=>?_;exact(S.mu p (.tail _ hp')).mono (.refl _) ((bget ho' (fun q=>dj2.1 (by have:=ax (f:=fun x:aW×MO=>x.1) hp';rw[q] at this;exact this)) (fun q=>(stk.fro q).2.1 (ax (Eu _ hp')))).trans ho'.symm)
  .have hL':b≠B.L:=fun q=>h2 (q▸W.mem)
   have hbm:b∉B.m0:=hm0▸h1;refine ar (S.pr b o hbm hL' h3) fun o' e' nr=>?_;rw[nr.1 h2] at e';refine bget e' (fun q=>?_) h2;subst q;rcases S.mf _ (.head _) with z|z;.exact hbm z
   .exact absurd (aR h3) (bu.mpr z)
  .by_cases q:b∈B.m0
   .refine ar (az.mp (hm0▸q)) fun r hr e=>?_
    subst e;exact absurd (ax (Eu _ (h0 r hr))) (stk.fro h2).2.1
   .refine Fg (S.pr b o q h1 h3) fun o' e' zz sl z5=>?_
    subst z5;exact⟨sl,e'⟩
 |fly h=>refine pH h ?_;clear h;intro a l' V' base a0 z6 X;subst z6;obtain rfl:l'=B.env::l:=aB (X.fr.symm.trans hfr);refine eW kK X.q2 (b5 (wpAny_leaves_onW hfr hf (o7 X.st X.no X.ff X.tr) fun h' z7 u=>jY z7 fun x1 x2 x3 x4=>fun x5 x6=>Xout X.b x1 x3 x4 u x5 x6))
 |held h=>refine pH h ?_;clear h;intro a l' V' base a0 z8 X;subst z8;obtain rfl:l'=B.env::l:=aB (X.fr.symm.trans hfr);refine eW kK X.q2 (b5 ?_);unfold leaving;refine ah (wpAny_noteFrame_againW hf X.tr (wpAny_landsW (o7 X.st X.no X.ff X.tr) fun h' z9 u=>jY z9 fun x1 x2 x3 x4=>fun x5 x6=>Xout X.b x1 x3.2.2 x4 u x5 x6))
theorem JW(g:G.Ok)(ho:G.K.lookup f=ac o)(hdata:o.data=.func fd)(hb:fd.body=.stmts body)(hco:fd.scope.isCoroutine=ak)(hgen:fd.scope.isGenerator=ak)(hk:fd.scope.kind=.function)(hcell:∀x∈fd.scope.names,x.2≠.cell)(hgl:fd.globals=ce)(hbu:fd.builtins=d9)(hcd:nW G.K fd.code fd.qualname=ai)(bind:∀V s vs,Kp G.hb.get? V->Kp V s.heap.get?->gP G.prog G.w V ds vs->∃binds,xa s fd ⟨vs,[]⟩ binds/\(∀x∈binds,fd.scope.names.lookup x.1=ac .local)/\∀p∈Y0,fd.scope.names.lookup p.1=ac .local/\(p.2≠.any->∃v,binds.reverse.lookup p.1=ac v/\Is G.prog G.w V p.2 v))(hns:Y0.map (·.1)=ns)(nd:ns.Nodup)(H:∀B,B.Ok G->qg B->B.k=k->B.hd=ak->B.env=nN fd B.L f->B.m0=Z0.map (·.1)->EX G B (fun e s'=>¬ok/\EF G B Z0 e s') (eG body B.env) Y0 Z0 (km Z0 fun d Z'=>ok/\R d Z')):jg G (k+1) (.ref f) ds Z0 R ok:=
 J1 (EE:=fun B e s'=>¬ok/\EF G B Z0 e s') g ho hdata hb hco hgen hk hcell hgl hbu hcd bind hns nd
  (fun A V s B hB O hst e s' h=>aQ (vF (E':=fun zz zz=>False) hB rfl O hst h.2) (fun zz zz x=>⟨h.1,x⟩) fun zz zz x=>x.elim)
  fun B O h1 h2=>H B O ⟨h1,h2⟩
theorem t0{s:ay}{Q:Unit->ay->Prop}(hkb:base.StaysIn s.heap)(hen:base.get? e=aq)(hl:s.heap.FunFrames base l)(ht:s.heap.TracedAtW base e cls a0 fl)(h:∀h',Heap.HeldW base l e cls a0 L h'->s.heap.UpToSlots h'->Q () {s with heap:=h'}):bd M A (HL (.ref e) (ac L)) Q E s:=by
 refine eu ht ?_;clear ht;intro oe vs T oT ts y33;refine iZ y33 ?_;clear y33;intro he hcls hd h1 hnT y34;refine jY y34 ?_;clear y34;intro hTe hT hdT h3;have hsz3:3<ts.size:=(kS.mp h3).1;have other:∀b,b≠T->(s.heap.update T (AX (·.setIfInBounds 3 ((ac L).elim dn fun f=>fb f)))).get? b=s.heap.get? b:=fun b hb=>jd _ _ (o9 hb);have noRecord:∀b o,s.heap.get? b=ac o->(∀vs,o.data≠.fields vs)->b≠T:=fun b o hb hnf q=>by rw[q,hT] at hb;injection hb with hb;subst hb;exact hnf ts hdT
 unfold HL;refine ah (rX he hd h1 ?_);rw[if_pos (show(cs T != dn)=ai from by simp)];refine CM hT hdT hsz3 (h _ (o7 (fun b o hbo=>(other b fun q=>by rw[q,hnT] at hbo;injection hbo).trans (hkb b o hbo)) hen (hl.of_keeps fun b o hb hnf=>(bq o ((other b (noRecord b o hb hnf)).trans hb) rfl)) ?_) fun b o hb hnf=>⟨o.slots,(other b (noRecord b o hb hnf)).trans hb⟩);exact⟨oe,vs,T,_,_,(other e (o9 hTe)).trans he,hcls,hd,h1,hnT,hTe,cp _ hT (pO (lC hdT _)),lC hdT _,by simp[hsz3]⟩
theorem Nb{x L:aW}(hfr:A.frames=ac (env::outer))(hf:env.frame=ac L)(nf:∀b o,b∈mZ A->s.heap.get? b=ac o->b≠x->∀vs,o.data≠.fields vs)(h:XF G A V Z s x .none e s')(hE:∀s'',XF G A V Z s x (fb L) e s''->E e s''):wZ (bf G.prog G.w) A env (cameBackBy (bf G.prog G.w) A env E) e s':=by refine pH h ?_;clear h;intro a l V' base a0 z10 X;subst z10;obtain rfl:l=env::outer:=aB (X.fr.symm.trans hfr);refine eW oH X.q2 (b5 (VW hfr hf (o7 X.st X.no X.ff X.tr) fun h' z11 u=>jY z11 fun x1 x2 x3 x4=>?_));intro z1 z2;refine eu (id x4) fun oe vs T oT ts y35=>iZ y35 fun he hcls hd h1 hnT y36=>jY y36 fun hTe hT hdT h3=>?_;unfold cameBackBy;refine ah (rX he hd h1 ?_);rw[if_neg (show ¬((cs T==dn)=ai) from by simp),hf];refine eW gL z2 (b5 (t0 (s:={s' with heap:=h'}) x1 x2 x3 x4 fun h'' z12 u'=>jY z12 fun y1 y2 y3 y4=>?_));intro z3 z4;refine hE _ ⟨a,_,V',base,a0,rfl,X.fr,y1,X.no,y3,y4,X.big,z4,X.v0,X.vb,X.vn,X.mu,X.vm,X.pr,fun b o h1 h2 h3=>?_,ae X.sz (ae z1 z3),X.rest⟩;refine aY (X.sl b o h1 h2 h3) ?_;(try clear sl);intro sl hs;refine aY (u b _ hs (nf b o h2 h3 h1)) fun sl' hs'=>?_;refine aY (u' b _ hs' (nf b o h2 h3 h1)) fun sl'' hs''=>?_;exact⟨sl'',hs''⟩
theorem Bx.Ok.nf(O:B.Ok G):∀b o,b∈mZ B.A->B.s0.heap.get? b=ac o->b≠B.L->∀vs,o.data≠.fields vs:=fun b o hb ho hn=>by refine ar O.stk fun l hl h=>?_;unfold mZ at hb;rw[hl] at hb;refine ar (cm.mp hb) fun env he hf=>?_;refine sS (h env he) fun zz f hf' q=>?_;rw[hf] at hf';(injection hf' with hf';subst hf');refine Au (q.resolve_left hn) fun zz zz o' ho' hd=>?_;rw[ho] at ho';(injection ho' with ho';subst ho');exact hd
def CE(G:G0)(B:Bx)(Y:aP)(Z:Mu)(e:aE)(s':ay):Prop:=∃V s Zc re,b9 (cx G B) V Y Z s/\i4 Z Zc re/\XF G B.A V Zc s s.heap.objs.size .none e s'
theorem wE(O:B.Ok G)(H:jg G k f ds Zc R ok)(hh:B.hd=ak)(P:i4 Z Zc re)(hk:k<=B.k)(hE:¬ok->∀e s',CE G B Y Z e s'->E e s')(q:ok->∀d Zc',R d Zc'->Q d Y (re Zc')):cI G B E f ds Y Z Q:=wD O H (.inr hh) P hk (fun d Zc' h=>q h.1 d Zc' h.2) fun V s e s' S h=>hE h.1 e s' (kj V s _ _ S P h.2)
noncomputable def UA(B:Bx)(a:aW):Bx:={B with A:=B.A.mark (ac (.ref a)),hd:=ai}
theorem I5(O:B.Ok G):(UA B a).Ok G:=⟨O.g,⟨O.c.fn,O.c.loc,O.c.glo,O.c.bui⟩,O.room,(fun h=>by injection h),O.stk⟩
theorem b9.unmark(h:b9 (cx G (UA B a)) V' Y' Z' s')(hk:CL B.A V'):b9 (cx G B) V' Y' Z' s':=⟨h.m,h.nd,h.mu,h.dj,h.vh,h.vL,h.vm,h.fr,h.v0,h.b0,h.mf,h.pr,h.sz,hk,h.rest⟩
theorem b9.caught{re:Mu->Mu}{base:jl}{s_1 s_2:ay}{vs:Array aE}(O:B.Ok G)(W:qg B)(S:b9 (cx G B) V Y Z s)(P:i4 Z Zc re)(X:Zp G B.A V Zc s s.heap.objs.size a V' base s_1)(st:base.StaysIn s_2.heap)(u:s_1.heap.UpToSlots s_2.heap)(hsz:s_1.heap.objs.size<=s_2.heap.objs.size)(hr:ul s_1 s_2)(he:s_2.heap.get? a=ac oe)(hd:oe.data=.fields vs)(h2:vs[2]?=ac .none):b9 (cx G (UA B a)) (fS V' a oe) Y Z s_2:=by
 have dj:=av.mp S.dj;have stk:=S.stk O;have inj:∀p∈Z,∀q∈Z,p.1=q.1->p=q:=fun p hp q hq e=>by
  have nd:(Z.map (·.1)).Nodup:=dj.2;clear dj S P stk;induction Z with|nil=>cases hp|cons r t ih=>
   rw[au,av] at nd;rcases ao.mp hp with hp1|hp1<;>rcases ao.mp hq with hq1|hq1
   .exact hp1.trans hq1.symm
   .exact absurd (by rw[<-hp1,e];exact ax hq1) nd.1
   .exact absurd (by rw[<-hq1,<-e];exact ax hp1) nd.1
   .exact ih hp1 hq1 nd.2
 have va:V' a=aq:=by cases q:V' a with|none=>rfl|some o=>have:=X.vb _ _ q;rw[X.no] at this;injection this
 have k:Kp V' (fS V' a oe):=dc va;have vnone:∀b o,s.heap.get? b=ac o->V b=aq->V' b=aq:=fun b o ho hv=>by
  cases q:V' b with|none=>rfl|some x=>
   rcases X.vn b (by rw[q];simp) with z|z;.exact absurd hv z
   .exact absurd (aR ho) (bu.mpr z)
 have nfr:∀b o,b∈mZ B.A->s.heap.get? b=ac o->∀vs,o.data≠.fields vs:=fun b o hb ho=>by refine ar stk ?_;clear stk;intro l hl h;unfold mZ at hb;rw[hl] at hb;refine ar (cm.mp hb) fun env he hf=>?_;refine gB (h env he) fun zz f o' hf' zz zz ho' hd'=>?_;rw[hf] at hf';(injection hf' with hf';subst hf');rw[ho] at ho';(injection ho' with ho';subst ho');exact hd'
 have frm:∀b o,b∈mZ B.A->s.heap.get? b=ac o->∃sl,s_2.heap.get? b=ac {o with slots:=sl}:=fun b o hb ho=>by refine aY (X.sl b o (bP (aR ho)) hb ho) ?_;(try clear sl);intro sl hs;exact EJ u (nfr b o hb ho) hs ⟨sl,rfl⟩
 have ne_a:∀b o,s.heap.get? b=ac o->b≠a:=fun b o ho q=>absurd (aR ho) (bu.mpr (q▸X.big));have mub:∀p∈Z,jv G.prog G.w V' s_2.heap.get? p.1 p.2:=fun p hp=>by
  have:jv G.prog G.w V' base.get? p.1 p.2:=by
   by_cases q:p.1∈Zc.map (·.1)
   .refine ar (az.mp q) fun r hr e=>?_
    exact inj r (P.sub r hr) p hp e▸X.mu r hr
   .refine aY ((S.mu p hp).at) fun o ho=>?_
    exact(S.mu p hp).mono X.v0 ((X.pr p.1 o q (fun z=>(stk.fro z).2.1 (ax hp)) ho).trans ho.symm)
  refine aY this.at fun o ho=>?_;exact this.mono (.refl _) ((st _ _ ho).trans ho.symm)
 refine ar S.m ?_;(try clear m);intro m z5 hen;refine fx z5 ?_;clear z5;intro oL es ep hL hr';have hL:s.heap.get? B.L=ac oL:=hL;refine aY (frm B.L oL W.mem hL) fun sl hs=>?_;have aL:B.L≠a:=ne_a _ _ hL;refine⟨(bq m (o6 _ es ep hs hr') (b9.envMono (X.v0.trans k) hen)),S.nd,fun p hp=>(mub p hp).mono k rfl,S.dj,fun b o e=>?_,?_,fun p hp=>?_,fun b hb=>?_,S.v0.trans (X.v0.trans k),S.b0,S.mf,fun b o n l e=>?_,ae S.sz (ae X.sz hsz),.inr (eB a oe vs rfl (bT _ _ _) hd h2),S.rest.trans (X.rest.trans hr)⟩
 .by_cases q:b=a
  .subst q;rw[bT] at e;(injection e with e;subst e);exact he
  .rw[dC _ _ q] at e;exact st _ _ (X.vb _ _ e)
 .show fS V' a oe B.L=aq
  rw[dC _ _ aL];exact vnone _ _ hL S.vL
 .refine aY ((S.mu p hp).at) fun o ho=>?_
  rw[dC _ _ (ne_a _ _ ho)];exact vnone _ _ ho (S.vm p hp)
 .by_cases q:b=a
  .exact .inr (by rw[q];exact ae S.sz X.big)
  .rw[dC _ _ q] at hb
   rcases X.vn b hb with z|z;.exact S.fr b z
   .exact .inr (ae S.sz z)
 .refine ar (S.pr b o n l e) fun o' e' nr=>?_
  by_cases q:b∈mZ B.A
  .refine aY (frm b o' q e') fun sl hs=>?_
   exact bq _ hs (nr.trans ⟨fun z=>absurd q z,sl,rfl⟩)
  .refine bq o' (st _ _ (X.pr b o' (fun z=>?_) q e')) nr
   refine ar (az.mp z) fun r hr e''=>?_;subst e'';rcases S.mf r (P.sub r hr) with z|z;.exact n z
   .exact absurd (aR e) (bu.mpr z)
structure Ek (G:G0) (C:aW) (nm q:aV) (N:aW) (bs bm:List aE) (sub:List aE) (k0 k1 k2 k3 k5:Option aE) (newId:String):Prop where
 obj:G.K.lookup C=ac (hX nm q C N bs bm ai [] sub ak aq aq k0 k1 k2 k3 k5 newId)
 base:bm.contains (.type "BaseException")=ai
theorem JF{sub:List aE}{newId:String}{Y':aP}{Z':Mu}{Q:Fl->aP->Mu->Prop}(O:B.Ok G)(W:qg B)(F:Ek G 59 nm q N bs bm sub k0 k1 k2 k3 k5 newId)(hg:bY G x (.ptr 59))(hx:B.env.kindOf x=ac .globalImplicit)(hdbg:(x==("__debug__" : aV))=ak)(h:∀B_1,B_1.Ok G->B_1.env=B.env->B_1.k=B.k->B_1.hd=B.hd->B_1.m0=Z.map (·.1)->EX G B_1 (CE G B_1 Y' Z') (eG body B_1.env) Y Z Q)(hc:∀B',B'.Ok G->B'.env=B.env->B'.k=B.k->B'.hd=ai->B'.m0=Z'.map (·.1)->EX G B' (fun zz zz=>False) (eG (b_0::suite) B'.env) Y' Z' Q):EX G B E (fc (.Try body [.ExceptHandler (ac (.Name x xp)) aq (b_0::suite) hp] [] [] pos) B.env) Y Z Q:=by
 intro V s S;have O_1:(CI B V Z s).Ok G:=O.re S;have W_1:qg (CI B V Z s):=⟨W.frame,W.fr⟩
 refine RC (aQ (h (CI B V Z s) O_1 rfl rfl rfl rfl V s S.rebase) (fun f s_1 z6=>iK z6 fun fl Y1 Z1 V_1 S_1 k_1 hf hq=>?_) fun e s_1 hce=>?_)
 .have S_1:=S.unbase S_1
  cases fl with
  |next=>obtain rfl:f=.next:=hf;exact ja ⟨.next,Y1,Z1,V_1,S_1,k_1,rfl,hq⟩
  |cont=>obtain rfl:f=.cont:=hf;exact⟨.cont,Y1,Z1,V_1,S_1,k_1,rfl,hq⟩
  |brk=>obtain rfl:f=.brk:=hf;exact⟨.brk,Y1,Z1,V_1,S_1,k_1,rfl,hq⟩
  |ret d=>refine ar hf ?_;clear hf;intro v z7 hv;subst z7;exact⟨.ret d,Y1,Z1,V_1,S_1,k_1,(bq v rfl hv),hq⟩
 .refine d5 hce ?_
  clear hce;intro V_1 s_0 Zc re S_1 y11;refine J3 y11 ?_;clear y11;intro P a l V' base y12;refine ar y12 ?_;clear y12;intro a0 z8 X;subst z8;refine aY W.fr fun l' hl'=>?_;obtain rfl:l=B.env::l':=aB (X.fr.symm.trans hl');refine eW oH X.q2 (b5 (VW hl' W.frame (o7 X.st X.no X.ff X.tr) fun h_2 H_2 u_2=>fun z1 q1=>?_));refine eW gL q1 (b5 (wpAny_landsW (s:={s_1 with heap:=h_2}) H_2 fun h_3 H_3 u_3=>fun z2 q2=>?_));have hK:∀{h:jl},base.StaysIn h->h.get? 59=ac (hX nm q 59 N bs bm ai [] sub ak aq aq k0 k1 k2 k3 k5 newId):=fun st=>st _ _ (X.vb _ _ (X.v0 _ _ (S_1.v0 _ _ (S_1.b0 _ _ (O.g.kin _ _ F.obj)))));refine aM q2 ?_;clear q2;intro oe vs e1 e2 e3;have S_3:=S_1.caught O_1 W_1 P X.b (s_2:={s_1 with heap:=h_3}) H_3.1 (u_2.trans u_3) (ae z1 z2) (.refl _) e1 e2 e3;refine wpAny_handleBy_cons (codeAny_handlers_test ?_) (by intro q;injection q);refine ar hg ?_;clear hg;intro gv hgv hgi;refine aZ (aT.mp hgi) fun z9 zz=>?_;subst z9;refine JB (B:=UA (CI B V Z s) a) (I5 O_1) hgv hx hdbg S_3 ?_;have hcls:oe.cls=.ref 59:=by refine J7 H_3 ?_;clear H_3;intro zz zz zz oe' zz y13;refine bl y13 ?_;clear y13;intro zz zz zz he' hc' zz;have e1:h_3.get? a=ac oe:=e1;rw[e1] at he';(injection he' with he';subst he');exact hc'.1
  refine wpAny_excMatches_sub_self (h:=h_3) (hK H_3.1) e1 hcls F.base ?_;refine codeAny_handlers_suite (eW gL (bO oe vs e1 e2 e3) (b5 (lands_againW (s:={s_1 with heap:=h_3}) H_3 fun h_4 H4 u4=>fun z3 q3=>?_)));refine aM q3 ?_;clear q3;intro oe' vs' f1 f2 f3;have S_4:=S_1.caught O_1 W_1 P X.b (s_2:={s_1 with heap:=h_4}) H4.1 ((u_2.trans u_3).trans u4) (ae z1 (ae z2 z3)) (.refl _) f1 f2 f3;have O4:(CI (UA (CI B V Z s) a) (fS V' a oe') Z' {s_1 with heap:=h_4}).Ok G:=(I5 O_1).re S_4;have va:V' a=aq:=by cases q:V' a with|none=>rfl|some o=>have:=X.vb _ _ q;rw[X.no] at this;injection this
  have kk:Kp V (fS V' a oe'):=S_1.v0.trans (X.v0.trans (dc va));refine aQ (hc _ O4 rfl rfl rfl rfl _ _ S_4.rebase) (fun f s_5 z10=>iK z10 fun fl Y5 Z5 V5 S_5 k_5 hf hq=>?_) fun zz zz x=>x.elim;have S_6:b9 (cx G B) V5 Y5 Z5 s_5:=S.unbase ((S_4.unbase S_5).unmark (S.hk.mono (kk.trans k_5)));exact⟨fl,Y5,Z5,V5,S_6,kk.trans k_5,hf,hq⟩
section
variable {h : jl} {g : Array GenState} {d : Drawn} {t : Nat} {os : w2} {R : yL → ay → Prop}
variable {nm q : aV} {C N : aW} {bs bm bmB : List aE} {sub : List aE} {k0 k1 k2 k3 k5 : Option aE} {B newId initId : String}
theorem LW(F:w9 B newId initId bmB)(hB:bm.contains (.type B)=ai)(hA:bm.contains (.type "AttributeError")=ak)(hN:bm.contains (.type "NameError")=ak)(hC:h.get? C=ac (hX nm q C N bs bm ai [] sub ak aq aq k0 k1 k2 k3 k5 newId))(hq:R (.ok (.ret (.ref (h.objs.size+1)))) ⟨(h.push {cls:=.type "tuple",data:=.seq rest.toArray}).push {cls:=.ref C,data:=.fields #[.ref h.objs.size,.none,.none,.none,.bool ak,.none]},g,d,t,os⟩)(hrest:rest.length<=fZ):fJ (bf prog w) A (.builtin newId ⟨.ref C::rest,[]⟩) R ⟨h,g,d,t,os⟩:=by
 have hends:=F.ends;have hcB:(cs C::bm).contains (.type B)=ai:=by rw[dt,hB,tm]
 have hcA:(cs C::bm).contains (.type "AttributeError")=ak:=by rw[dt,hA];rfl
 have hcN:(cs C::bm).contains (.type "NameError")=ak:=by rw[dt,hN];rfl
 refine PySem.codeAny_builtinAt F.entry ?_;unfold gT.«BaseException.__new__»;refine KH ?_;show PySem.wpAt _ _ _ (stack >>= _) _ _ _;refine KH (PySem.wpAt_stack fun p below=>Em ?_);wp_walk;refine Em ?_;rw[F.owner];repeat(first|with_reducible refine wpAny_madeHere_exc F.canon hC ?_|with_reducible refine eE hC ?_|(with_reducible refine lL hC ?_;first|rw[hcB]|rw[hcA]|rw[hcN])|wp_step)
 show R _ _;rw[bV];exact hq
noncomputable abbrev gb(C t:aW):uD:={cls:=.ref C,data:=.fields #[.ref t,.none,.none,.none,.bool ak,.none]}
theorem wB(F:w9 B newId initId bmB)(hB:bm.contains (.type B)=ai){Q:Unit->ay->Prop}(hC:h.get? C=ac (hX nm q C N bs bm ai [] sub ak aq aq k0 k1 k2 k3 k5 newId))(he:h.get? e=ac oe)(hcls:oe.cls=.ref C)(hq:Q () ⟨h,g,d,t,os⟩):bd M A (RM initId ⟨.ref e::rest,[]⟩) Q E ⟨h,g,d,t,os⟩:=by
 have hcB:(cs C::bm).contains (.type B)=ai:=by rw[dt,hB,tm]
 have hshort:=F.noStar;simp only[RM,F.initKind,F.initSplit,F.initRow];repeat(first|(with_reducible refine eE he ?_;rw[hcls])|with_reducible refine eE hC ?_|(with_reducible refine lL hC ?_;rw[hcB])|wp_step)
 refine FG ?_;rw[show ∀(a b:String)(n:Nat),Bind.check ⟨.positional,"*",B,.self,[⟨"args",.varPos,ak⟩]⟩ a b n (kU (fun x=>x.fst) ({pos:=cs e::rest}:Args).kw)=pure () from fun a b n=>check_star_args _ _ _ _ _ _];exact aH hq
theorem xb{K:Ot}(F:w9 B newId initId bmB)(hB:bm.contains (.type B)=ai)(hA:bm.contains (.type "AttributeError")=ak)(hN:bm.contains (.type "NameError")=ak)(X:K.In h){Q:Fin->ay->Prop}(hC:h.get? C=ac (hX nm q C N bs bm ai [] sub ak aq aq k0 k1 k2 k3 k5 newId))(hi:kB K (.ref C) "__init__" = ac (ac (.ref fI)))(hf:HY K (.ref fI)=ac (.type "function"))(hq:fJ (bf prog w) A (.call (.ref fI) ⟨.ref (h.objs.size+1)::rest,[]⟩) (o8 (fun r s'=>r=.none/\Q (.done (.ret (.ref (h.objs.size+1)))) s') E) ⟨(h.push {cls:=.type "tuple",data:=.seq rest.toArray}).push (gb C h.objs.size),g,d,t,os⟩)(hrest:rest.length<=fZ):bd (bf prog w) A (gT.«type.__call__» ⟨.ref C::rest,[]⟩) Q E ⟨h,g,d,t,os⟩:=by
 repeat(first|with_reducible refine eE hC ?_|with_reducible refine wpAny_madeBy_exc hC ?_|wp_step)
 refine codeAny_call_builtin_code (HR _ F.quiet) (PySem.wpAny_check_new_subU F hB .base hC ?_);refine LW F hB hA hN hC ?_ hrest;show bd _ _ _ _ _ _;have kk:∀b o,h.get? b=ac o->((h.push {cls:=.type "tuple",data:=.seq rest.toArray}).push {cls:=.ref C,data:=.fields #[.ref h.objs.size,.none,.none,.none,.bool ak,.none]}).get? b=ac o:=fun b o e=>aX _ (aX _ e);have hC1:=kk _ _ hC;have hget:((h.push {cls:=.type "tuple",data:=.seq rest.toArray}).push {cls:=.ref C,data:=.fields #[.ref h.objs.size,.none,.none,.none,.bool ak,.none]}).get? (h.objs.size+1)=ac {cls:=.ref C,data:=.fields #[.ref h.objs.size,.none,.none,.none,.bool ak,.none]}:=by heap_get
 have hcC:(cs C::bm).contains (.ref C)=ai:=by simp
 unfold Om;repeat(first|with_reducible refine eE hget ?_|(with_reducible refine lL hC1 ?_;rw[hcC])|wp_step)
 show bd _ _ (Of (.ref C) _) _ _ _;refine((jU X hi).keeps kk).here ?_;refine bG (ah ?_);refine((bind_fn X (.ref (h.objs.size+1)) hf).keeps kk).here ?_;refine ah (kA (dR hq fun r s' z=>?_));rcases r with e|(v|_|_|_)<;>first|exact z.elim|skip
 .exact z
 .refine aZ z ?_
  clear z;intro z1 z;subst z1;wp_walk;exact z
theorem Ay{K:Ot}(F:w9 B newId initId bmB)(hB:bm.contains (.type B)=ai)(hA:bm.contains (.type "AttributeError")=ak)(hN:bm.contains (.type "NameError")=ak)(X:K.In h){Q:aE->ay->Prop}(hC:h.get? C=ac (hX nm q C N bs bm ai [] sub ak aq aq k0 k1 k2 k3 k5 newId))(hi:kB K (.ref C) "__init__" = ac (ac (.ref fI)))(hf:HY K (.ref fI)=ac (.type "function"))(hq:fJ (bf prog w) (A.under (.builtin "type.__call__" ⟨.ref C::rest,[]⟩)) (.call (.ref fI) ⟨.ref (h.objs.size+1)::rest,[]⟩) (o8 (fun r s'=>r=.none/\Q (.ref (h.objs.size+1)) s') E) ⟨(h.push {cls:=.type "tuple",data:=.seq rest.toArray}).push (gb C h.objs.size),g,d,t,os⟩)(hrest:rest.length<=fZ):bd (bf prog w) A (call (.ref C) rest) Q E ⟨h,g,d,t,os⟩:=by
 have f1:=tc_lookup;have f2:=tc_bind (.ref C);have hT:(⟨h,g,d,t,os⟩:ay).TypeIs (.ref C) "type":=(bq _ hC rfl)
 refine kA (codeAny_of_tree ?_);show bd _ _ (callAny (.ref C) _) _ _ _;repeat(any_goals (first|assumption|with_reducible refine eE hC ?_|wp_step))
 refine⟨rfl,?_⟩;exact codeAny_call_builtin_at (HR _ (by decide +kernel)) entry_typeCall (wpAny_check_type_call_sub hC (xb F hB hA hN X hC hi hf hq hrest))
end
abbrev VM(Q:Fl->aP->Mu->Prop):DV->aP->Mu->Prop:=fun zz Y' Z'=>Q .next Y' Z'
theorem Fc{Q:Fl->aP->Mu->Prop}(O:B.Ok G)(h:EV G B E (a9 e B.env) Y Z (VM Q))(hs:gO e aq pos.line B.env=pure ak):EX G B E (fc (.Expr e pos) B.env) Y Z Q:=by
 intro V s S;have hi:interactive B.env=ak:=by unfold interactive;rw[show B.env.scope.kind=.function from O.c.fn];rfl
 exact wpAny_Expr_any (WP.use h S (fun v s_1 d Y1 Z1 V_1 S_1 k_1 zz q=>⟨.next,Y1,Z1,V_1,S_1,k_1,rfl,q⟩)) hi hs
theorem zF{K:Ot}{T:String}{Q:aE×List aE->ay->Prop}(X:K.In s.heap)(ht:iN (.type T)=pure (.type "type"))(hs:FO T=ak)(e:findCls K (.type T) (.type "type") name=ac (.val v))(hh:r5 v=ai)(h:Q (v,[]) {s with toks:=s.toks+1}):bd (bf G.prog G.w) A (jy (.type T) name pl) Q E s:=by
 have hstub:yG (.type T)=pure aq:=by unfold yG;dsimp only;rw[hs];rfl
 have L0:lM (bf G.prog G.w) s.heap (iN (.type T)) (.type "type"):=ig ht;have hg:kB K (.type "type") "__getattribute__" = ac (ac (.builtin "type.__getattribute__")):=type_tga;unfold jy specialOf;refine ah (ah (L0.here ((jU X hg).here ?_)));dsimp only;rw[if_pos canon_tga];refine ah (aQ (Q:=fun v=>Q (v,[])) (E:=E) ?_ (fun zz zz z=>aH z) fun zz zz z=>z);have LO:lM (bf G.prog G.w) s.heap (yG (.type T)) aq:=ig hstub;refine cls_open X LO L0 hg (looks_hook X (r:=aq) (by rfl)) (by show Rh K _ _=_;rfl) e (aH (by show bd _ _ (handedOut v) _ _ _;rw[handedOut_of hh];exact aH h))
theorem Do{T f:String}(O:B.Ok G)(ht:iN (.type T)=pure (.type "type"))(hs:FO T=ak)(e:findCls G.K (.type T) (.type "type") name=ac (.val (.builtin f)))(hh:r5 (.builtin f)=ai)(h:EL G B E (dB (cy pos (br args B.env))) Y Z fun es Y' Z'=>cI G B E (.builtin f) ([]++es) Y' Z' Q):nF G B E name pl pos args Q (.raw (.type T)) Y Z:=(bO (.builtin f) [] (fun V s v A P E S hi q=>by refine aZ (aT.mp hi) fun z3 zz=>?_;subst z3;exact zF (S.kin O) ht hs e hh (q [] _ (be.mpr rfl) (S.sat_toks _))) kg h)
structure AH (G:G0) (nm q:aV) (N:aW) (bs bm:List aE) (sub:List aE) (k0 k1 k2 k3 k5:Option aE):Prop where
 cls:Ek G 59 nm q N bs bm sub k0 k1 k2 k3 k5 "Exception.__new__"
 exc:bm.contains (.type "Exception")=ai
 att:bm.contains (.type "AttributeError")=ak
 nam:bm.contains (.type "NameError")=ak
 init:kB G.K (.ref 59) "__init__" = ac (ac (.ref 36))
 fn:HY G.K (.ref 36)=ac (.type "function")
theorem Ax{sub:List aE}(O:B.Ok G)(F:AH G nm qn N bs bm sub k0 k1 k2 k3 k5)(q:∀t',Q .none Y ((e,.obj (gb 59 t'))::Z)):cI G B E (.builtin "Exception.__init__") [.ptr e,d] Y ((e,.obj (gb 59 t))::Z) Q:=by
 intro V s vs S hi;refine aM (aG.mp hi) ?_;clear hi;intro v1 r1 z4 i1 hi;subst z4;refine aM (aG.mp hi) ?_;clear hi;intro v2 r2 z5 i2 hi;subst z5;obtain rfl:=be.mp hi;refine aZ (aT.mp i1) fun z6 zz=>?_;subst z6;have FB:=wO;have hC:s.heap.get? 59=ac (hX nm qn 59 N bs bm ai [] sub ak aq aq k0 k1 k2 k3 k5 "Exception.__new__"):=S.kin O _ _ F.cls.obj;have he:s.heap.get? e=ac {cls:=.ref 59,data:=.fields #[.ref t,.none,.none,.none,.bool ak,.none]}:=S.mu (e,.obj (gb 59 t)) (.head _);have hcB:(cs 59::bm).contains (.type "Exception")=ai:=by rw[dt,F.exc,tm]
 have hshort:=FB.noStar;have fin:∀h',h'=(s.heap.push {cls:=.type "tuple",data:=.seq [v2].toArray}).update e (AX (·.setIfInBounds 0 (.ref s.heap.objs.size)))->qP G B (Is G.prog G.w) V Q .none {s with heap:=h'}:=by rintro h' rfl;have S1:=S.alloc O.c {cls:=.type "tuple",data:=.seq [v2].toArray} rfl;have k1:Kp V (fS V s.heap.objs.size {cls:=.type "tuple",data:=.seq [v2].toArray}):=dc S.fresh;refine⟨.none,Y,_,_,S1.turn (Z1:=[]) (mo':=.obj (gb 59 s.heap.objs.size)) (cW ..) ?_,k1,aT.mpr ⟨rfl,rfl⟩,q _⟩;exact cp _ (aX _ he) rfl
 obtain⟨hp,gs,dr,tk,os⟩:=s;refine kA (K5 FB.init.plain FB.initEntry (wB FB F.exc hC he rfl ?_));wp_walk;exact fin _ rfl
theorem b9.swap(S:b9 C V Y (p::p'::Z) s):b9 C V Y (p'::p::Z) s:=by
 have m:∀x,x∈p'::p::Z->x∈p::p'::Z:=fun x h=>by
  rcases ao.mp h with h|h;.exact .tail _ (h▸.head _)
  .rcases ao.mp h with h|h
   .exact h▸.head _
   .exact .tail _ (.tail _ h)
 refine⟨S.m,S.nd,fun x h=>S.mu x (m x h),?_,S.vh,S.vL,fun x h=>S.vm x (m x h),S.fr,S.v0,S.b0,fun x h=>S.mf x (m x h),S.pr,S.sz,S.hk,S.rest⟩;have d:=S.dj;simp only[au,av,ao,not_or] at d ⊢;exact o7 (jT d.1.2.1 d.1.1 d.1.2.2) ⟨fun e=>d.2.1.1 e.symm,d.2.2.1⟩ d.2.1.2 d.2.2.2
noncomputable abbrev wg(C t dx:aW):uD:={cls:=.ref C,dict:=ac dx,data:=.fields #[.ref t,.none,.none,.none,.bool ak,.none]}
theorem zi{Q:Unit->ay->Prop}(O:B.Ok G)(S:b9 (cx G B) V Y ((e,.obj (gb 59 t))::Z) s)(hi:Is G.prog G.w V d v)(F:gq G 59 name)(q:∀dx s',b9 (cx G B) V Y ((e,.obj (wg 59 t dx))::(dx,.flds [(name,d)])::Z) s'->Q () s'):bd (bf G.prog G.w) B.A (setAttr (.ref e) name v) Q E s:=by
 have X:=S.kin O;have hx:s.heap.get? e=ac (gb 59 t):=S.mu _ (.head _);have I:W.InstAt s.heap e (gb 59 t) 59 aq:=⟨hx,rfl,rfl,trivial⟩
 refine set_plain X I F.set (F.opens (s:={s with toks:=s.toks+1}) X I fun b=>?_);refine ar (W8 F.hd) fun cd hc hd'=>?_;refine ah (aH (ah (ah (CO hx (ah (K4 X hc _ _ _ _ (fun zz zz e=>e) ?_))))));rw[hd'];show bd _ _ (alloc {cls:=cV "dict",data:=Data.dict #[]} >>= fun d=>update e (fun o=>{cls:=o.cls,dict:=ac d,data:=o.data,slots:=o.slots}) >>= fun zz=>pure (ac d)) _ _ _;have hx1:(s.heap.push yI).get? e=ac (gb 59 t):=aX _ hx;have ne:e≠s.heap.objs.size:=bP (aR hx);refine ah (wpAny_alloc (ah (wpAny_update hx1 (aH ?_))));show bd _ _ (KP s.heap.objs.size _ _ _) _ _ _;have S1:b9 (cx G B) V Y ((s.heap.objs.size,.flds [])::(e,.obj (gb 59 t))::Z) {s with heap:=s.heap.push yI}:=S.allocMu O.c yI (.flds []) rfl (jP [] 0 (aN _ rfl) rfl);have S2:b9 (cx G B) V Y ((s.heap.objs.size,.flds [])::(e,.obj (wg 59 t s.heap.objs.size))::Z) {s with heap:=(s.heap.push yI).update e (fun o=>{cls:=o.cls,dict:=ac s.heap.objs.size,data:=o.data,slots:=o.slots}),toks:=s.toks+1}:=S1.turn (Z1:=[(s.heap.objs.size,.flds [])]) (mo':=.obj (wg 59 t s.heap.objs.size)) (cW ..) (cp _ hx1 rfl);exact ah (aH (ah (uR (Z1:=[]) (l:=[]) (S2.sat_toks _) hi rfl (a7 _) fun s' S'=>q _ _ S'.swap)))
def VB(G:G0)(name:aV)(d:DV)(Q:Fl->aP->Mu->Prop):DV->aP->Mu->Prop:=fun d' Y2 Z2=>∃e t Zr,d'=.ptr e/\Z2=(e,.obj (gb 59 t))::Zr/\gq G 59 name/\∀dx,Q .next Y2 ((e,.obj (wg 59 t dx))::(dx,.flds [(name,d)])::Zr)
def VA(G:G0)(name:aV)(d:DV)(Q:Fl->aP->Mu->Prop):DV->aP->Mu->Prop:=fun d' Y2 Z2=>∃e t dx l Zr,d'=.ptr e/\Z2=(e,.obj (wg 59 t dx))::(dx,.flds l)::Zr/\gq G 59 name/\(l.map (·.1)).contains name=ak/\l.length<=900/\Q .next Y2 ((e,.obj (wg 59 t dx))::(dx,.flds (l++[(name,d)]))::Zr)
theorem JH{o e:bZ}{Q:Fl->aP->Mu->Prop}(O:B.Ok G)(h:EV G B E (a9 e B.env) Y Z fun d Y1 Z1=>EV G B E (a9 o B.env) Y1 Z1 (VB G name d Q))(hs:gO e (ac (.Attribute o name apos)) pos.line B.env=pure ak):EX G B E (fc (.Assign [.Attribute o name apos] e pos) B.env) Y Z Q:=by intro V s S;refine j7 (WP.use h S (fun v s_1 d Y1 Z1 V_1 S_1 k_1 i_1 h₁=>?_)) hs;refine WP.use h₁ S_1 (fun ov s_2 d' Y2 Z2 V_2 S_2 k_2 i_2 z9=>eD z9 fun x t Zr ed em F q=>?_);subst ed em;refine aZ (aT.mp i_2) fun z10 zz=>?_;subst z10;exact zi O S_2 (i_1.mono k_2) F fun dx s' S'=>⟨.next,Y2,_,V_2,S',k_1.trans k_2,rfl,q dx⟩
theorem JG{o e:bZ}{Q:Fl->aP->Mu->Prop}(O:B.Ok G)(h:EV G B E (a9 e B.env) Y Z fun d Y1 Z1=>EV G B E (a9 o B.env) Y1 Z1 (VA G name d Q))(hs:gO e (ac (.Attribute o name apos)) pos.line B.env=pure ak):EX G B E (fc (.Assign [.Attribute o name apos] e pos) B.env) Y Z Q:=by intro V s S;refine j7 (WP.use h S (fun v s_1 d Y1 Z1 V_1 S_1 k_1 i_1 h₁=>?_)) hs;refine WP.use h₁ S_1 (fun ov s_2 d' Y2 Z2 V_2 S_2 k_2 i_2 z13=>eu z13 fun x t dx l Zr y47=>iZ y47 fun ed em F hno hl q=>?_);subst ed em;refine aZ (aT.mp i_2) fun z14 zz=>?_;subst z14;exact u8 O S_2 rfl rfl rfl (i_1.mono k_2) F hno hl fun s' S'=>⟨.next,Y2,_,V_2,S',k_1.trans k_2,rfl,q⟩
theorem D8{sub:List aE}(O:B.Ok G)(F:AH G nm qn N bs bm sub k0 k1 k2 k3 k5)(H:∀e t,gj G ak k (.ref 36) [.ptr e,.str m] [(e,.obj (gb 59 t))] (fun d Z'=>d=.none/\∃t dx,Z'=[(e,.obj (wg 59 t dx))]) (fun zz zz zz zz zz=>False))(hh:B.hd=ak)(hk:k+1<=B.k)(q:∀e t dx,Q (.ptr e) Y ((e,.obj (wg 59 t dx))::Z)):cI G B E (.ref 59) [.str m] Y Z Q:=by intro V s vs S hi;refine aM (aG.mp hi) ?_;clear hi;intro v1 r1 z15 i1 hi;subst z15;obtain rfl:=be.mp hi;have hC:s.heap.get? 59=ac (hX nm qn 59 N bs bm ai [] sub ak aq aq k0 k1 k2 k3 k5 "Exception.__new__"):=S.kin O _ _ F.cls.obj;have X:=S.kin O;have S1:=S.alloc O.c {cls:=.type "tuple",data:=.seq [v1].toArray} rfl;have kk1:Kp V (fS V s.heap.objs.size {cls:=.type "tuple",data:=.seq [v1].toArray}):=dc S.fresh;have S2:=S1.allocMu O.c (gb 59 s.heap.objs.size) (.obj (gb 59 s.heap.objs.size)) rfl (aN _ rfl);have esz:(s.heap.push {cls:=.type "tuple",data:=.seq [v1].toArray}).objs.size=s.heap.objs.size+1:=bV ..;dsimp only at S2;rw[esz] at S2;have P:i4 ((s.heap.objs.size+1,MO.obj (gb 59 s.heap.objs.size))::Z) [(s.heap.objs.size+1,.obj (gb 59 s.heap.objs.size))] _:=.take .nil;have hz:=H (s.heap.objs.size+1) s.heap.objs.size (B.A.under (.builtin "type.__call__" ⟨.ref 59::[v1],[]⟩)) _ _ [.ref (s.heap.objs.size+1),v1] (qJ.made (O.room.le hk)) (fun zz=>O.calm hh) S2.hk ((S2.stk O).less fun a z=>P.sublist.subset z) (S2.pre P) (aG.mpr (bO _ _ rfl (aT.mpr ⟨rfl,rfl⟩) (aG.mpr (bO _ _ rfl (i1.mono kk1) (be.mpr rfl)))));obtain⟨h,gs,dr,tk,os⟩:=s;refine Ay wO F.exc F.att F.nam X hC F.init F.fn (dR hz (o8.mono (fun r s' z16=>bl z16 fun d Z' V' T i y48=>As y48 fun ed t dx e=>?_) fun zz zz x=>x.elim)) (by show 1<=2 ^ 24;decide);subst e ed;refine aZ (aT.mp i) fun z17 zz=>?_;subst z17;have S3:=S2.post O P (show AG G B.A _ _ _ _ _ _ from⟨T.v0,T.vh,T.fr,T.mu,T.as,T.vm,T.pr,T.sz,T.rest⟩);exact⟨rfl,.ptr (h.objs.size+1),Y,_,V',S3,kk1.trans T.v0,aT.mpr ⟨rfl,rfl⟩,q _ t dx⟩
theorem xk{C N:aW}{nm qn:aV}{bs bm sub:List aE}{k0 k1 k2 k3 k5:Option aE}{newId:String}{x:HN aE}{Q:Flow->ay->Prop}(hbase:bm.contains (.type "BaseException")=ai)(hh:A.handled=aq)(h:bd M A x (fun v s_1=>∃e t dx,v=.ref e/\s_1.heap.get? C=ac (hX nm qn C N bs bm ai [] sub ak aq aq k0 k1 k2 k3 k5 newId)/\s_1.heap.get? e=ac {cls:=.ref C,dict:=ac dx,data:=.fields #[.ref t,.none,.none,.none,.bool ak,.none]}/\E (.ref e) s_1) E s):bd M A (raiseStmt env (ac x) aq) Q E s:=by
 have hcB:(cs C::bm).contains (.type "BaseException")=ai:=by rw[dt,hbase,tm]
 unfold raiseStmt;refine ah (aQ h (fun v s_1 h₁=>?_) fun zz zz x=>x);refine eD h₁ ?_;clear h₁;intro e t dx z18 hC he hE;subst z18;obtain⟨hp,g,d,tk,os⟩:=s_1;repeat(first|with_reducible refine eE he ?_|with_reducible refine eE hC ?_|(with_reducible refine lL hC ?_;rw[hcB])|wp_step)
 exact wpAny_raiseNew_none hh hE
theorem JI{sub:List aE}{x:bZ}{Q:Fl->aP->Mu->Prop}(O:B.Ok G)(F:AH G nm qn N bs bm sub k0 k1 k2 k3 k5)(hh:B.hd=ak)(hok:¬ok)(h:EV G B (fun zz zz=>False) (a9 x B.env) Y Z fun d Y' Z'=>∃e t dx Z'',d=.ptr e/\Z'=(e,.obj (wg 59 t dx))::Z''/\∀p∈Z0,p∈Z''):EX G B (fun e s'=>¬ok/\EF G B Z0 e s') (fc (.Raise (ac x) aq pos) B.env) Y Z Q:=by intro V s S;rw[arm_exec_Raise];refine ah (cG (xk (C:=59) (nm:=nm) (qn:=qn) (N:=N) (bs:=bs) (bm:=bm) (sub:=sub) (k0:=k0) (k1:=k1) (k2:=k2) (k3:=k3) (k5:=k5) (newId:="Exception.__new__") F.cls.base (O.calm hh) ?_));refine ah (aQ (h V s S) (fun v s_1 z19=>iK z19 fun d Y1 Z1 V_1 S_1 k_1 i_1 z20=>fE z20 fun e t dx Z'' ed em hsub=>ah (cG (aH ?_))) fun zz zz x=>x.elim);subst ed em;refine aZ (aT.mp i_1) fun z21 zz=>?_;subst z21;have he:s_1.heap.get? e=ac (wg 59 t dx):=S_1.mu _ (.head _);refine c7 e t dx rfl (S_1.kin O _ _ F.cls.obj) he hok ?_;exact .made (S_1.turn (Z1:=[]) (mo':=.pr wM) (.refl _ _) ⟨_,he,rfl,_,_,rfl,rfl,rfl,rfl⟩) hsub
theorem xZ{cd:ClassData}(hc:Rm G.K C=ac cd)(hp:∀self,Oh self "__setattr__" cd.mro=pure ())(hm:cd.mro.contains (.type "object")=ai)(ht:takerIn G.K C name=ac aq):N9 G C name:=by
 intro A s x ox od tk v R X I h;have SF:=PySem.F.store_object;have ne:cd.mro.isEmpty=ak:=by cases q:cd.mro with|nil=>rw[q] at hm;injection hm|cons _ _=>rfl
 have sub:lM (bf G.prog G.w) s.heap (Om (.ref x) (.type "object")) ai:=I.type.andThen (looks_mroIn X (by unfold mroIn;rw[hc,tb,if_neg (by rw[ne];decide),hm]));refine K5 SF.slot.plain SF.entry (@check_slot (bf G.prog G.w) _ _ s "object.__setattr__" "object" "__setattr__" (.ref x) [.str name tk,v] [] _ SF.kind SF.split sub (SF.args (.ref x) (.str name tk) v) ?_);refine ar (cC.mp ht) fun attr ha hr=>?_;have hm':lM (bf G.prog G.w) s.heap (mroOf (.ref C)) cd.mro:=(K4 X hc).andThen .now;have L3:lM (bf G.prog G.w) s.heap (KN attr) aq:=by cases attr with|none=>exact .now|some a=>refine ar (aD.mp hr) fun b hb e=>?_;refine(looks_takesIn X hb).andThen ?_;cases b<;>first|exact .now|injection e
 rw[osa_eq,refuse_eq];refine ah (ah (I.type.here (ah (hm'.here ?_))));rw[hp];refine aH (ah (I.type.here (ah ((jU X ha).here (ah (L3.here ?_))))));exact h _
theorem kL:∀{vs vs':List aE},gP G.prog G.w V ds vs->gP G.prog G.w V ds' vs'->gP G.prog G.w V (ds++ds') (vs++vs'):=by
 induction ds with
 |nil=>intro vs vs' h h';obtain rfl:=be.mp h;exact h'
 |cons d r ih=>intro vs vs' h h';refine aM (aG.mp h) fun v rs z1 a b=>?_;subst z1;exact aG.mpr (bO v _ rfl a (ih b h'))
theorem QX(g:G.Ok){ps:List aV}{ds dds:List DV}{dvs:List aE}{rest:List aV}(hlen:ds.length+dds.length=ps.length)(hb:∀s vs,vs.length=ds.length->G.K.In s.heap->xa s fd ⟨vs,[]⟩ (ps.zip (vs++dvs)))(hd:∀V,gP G.prog G.w V dds dvs)(nd:ps.Nodup)(hl:((ps++rest).all fun x=>fd.scope.names.lookup x==ac .local)=ai):∀V s vs,Kp G.hb.get? V->Kp V s.heap.get?->gP G.prog G.w V ds vs->∃binds,xa s fd ⟨vs,[]⟩ binds/\(∀x∈binds,fd.scope.names.lookup x.1=ac .local)/\∀p∈(ps.zip (ds++dds)++rest.map fun x=>(x,DV.any)),fd.scope.names.lookup p.1=ac .local/\(p.2≠.any->∃v,binds.reverse.lookup p.1=ac v/\Is G.prog G.w V p.2 v):=by
 intro V s vs k1 k2 hi0;have hv0:vs.length=ds.length:=bb hi0;have X:G.K.In s.heap:=g.kin.keeps fun b o e=>k2 _ _ (k1 _ _ e);have hi:gP G.prog G.w V (ds++dds) (vs++dvs):=kL hi0 (hd V);have hv:(vs++dvs).length=ps.length:=by rw[bb hi,aS];exact hlen
 have L:∀x∈ps++rest,fd.scope.names.lookup x=ac .local:=fun x hx=>by simpa using aU.mp hl x hx
 have nz:((ps.zip (vs++dvs)).map (·.1)).Nodup:=by rw[show(ps.zip (vs++dvs)).map (·.1)=ps from jQ (bv hv.symm)];exact nd
 have nr:((ps.zip (vs++dvs)).reverse.map (·.1)).Nodup:=by rw[m9];unfold rU;rw[CV];exact nz.imp fun h=>o9 h
 refine cB (ps.zip (vs++dvs)) (hb s vs hv0 X) (fun x hx=>L _ (bF _ (ge hx).1)) (fun p hp=>?_);rcases aJ.mp hp with h|h
 .refine ar (rk hi p h) fun v hv iv=>?_
  exact⟨L _ (bF _ (ge h).1),fun zz=>(bq v (p6 nr (KJ.mpr hv)) iv)⟩
 .refine ar (az.mp h) fun x hx z2=>?_
  subst z2;exact⟨L x (aK _ hx),fun h=>absurd rfl h⟩
inductive fF (a:aW) (mo mo':MO):Mu->Mu->Prop
 |head {r:Mu}:fF a mo mo' ((a,mo)::r) ((a,mo')::r)
 |tail {p:aW×MO} {r r':Mu}:fF a mo mo' r r'->fF a mo mo' (p::r) (p::r')
theorem fF.split(h:fF a mo mo' Z Z'):∃Z1 Z2,Z=Z1++(a,mo)::Z2/\Z'=Z1++(a,mo')::Z2:=by induction h with|@head r=>exact jP [] r rfl rfl|@tail p r r' _ ih=>refine cY ih ?_;clear ih;intro m1 m2 e e';exact jP (p::m1) m2 (by rw[e];rfl) (by rw[e'];rfl)
theorem fF.mem(h:fF a mo mo' Z Z'):(a,mo)∈Z:=by refine cY h.split fun m1 m2 z3 zz=>?_;subst z3;exact aK _ (.head _)
theorem b9.repl(S:b9 C V Y Z s)(R:fF a mo mo' Z Z'){t:Nat}(hs:nO a s.heap h')(hm:jv C.prog C.w V h'.get? a mo'):b9 C V Y Z' {s with heap:=h',toks:=t}:=by refine cY R.split fun m1 m2 z4 z5=>?_;subst z4;subst z5;exact S.turn hs hm
section
variable {K : Type} [DecidableEq K] [DK K] {l : List (K × DV)}
theorem Bh{Q:Unit->ay->Prop}(S:b9 (cx G B) V Y Z s)(R:fF a (DK.mo l) (DK.mo (jq l k d)) Z Z')(hl:l.length<=1000000)(ik:Is G.prog G.w V (DK.key k) kv)(iv:Is G.prog G.w V d v)(q:∀s',b9 (cx G B) V Y Z' s'->Q () s'):bd (bf G.prog G.w) B.A (setItem (.ref a) kv v) Q E s:=by refine bB (DK.moOpen (S.mu _ R.mem)) fun o kvs ho lo hd hk=>?_;have hD:s.heap.DictOf (DK.knd G.prog G.w (K:=K)) a kvs:=bc.mpr (bq o ho hd);refine wpAny_setItem_pairs (DK.is ik) hD (fun h' hD' hs=>q _ ?_) (by rw[hk.length];exact ae hl (by decide));refine ar (bc.mp hD') fun o' ho' hd'=>?_;exact S.repl R hs (DK.moShut ho' lo hd' (hk.put iv))
end
def HI(Q:Fl->aP->Mu->Prop)(d x:DV):DV->aP->Mu->Prop:=fun y Y' Z'=>(∃a k l Z'',x=.ptr a/\y=.str k/\fF a (.sdic l) (.sdic (jq l k d)) Z' Z''/\l.length<=1000000/\Q .next Y' Z'')\/(∃a k l Z'',x=.ptr a/\y=.int k/\fF a (.idic l) (.idic (jq l k d)) Z' Z''/\l.length<=1000000/\Q .next Y' Z'')
abbrev Vy(G:G0)(B:Bx)(E:aE->ay->Prop)(i:bZ)(Q:Fl->aP->Mu->Prop)(d:DV):DV->aP->Mu->Prop:=fun x Y2 Z2=>EV G B E (a9 i B.env) Y2 Z2 (HI Q d x)
abbrev Vz(G:G0)(B:Bx)(E:aE->ay->Prop)(o i:bZ)(Q:Fl->aP->Mu->Prop):DV->aP->Mu->Prop:=fun d Y1 Z1=>EV G B E (a9 o B.env) Y1 Z1 (Vy G B E i Q d)
theorem xy{o i e:bZ}{Q:Fl->aP->Mu->Prop}(h:EV G B E (a9 e B.env) Y Z (Vz G B E o i Q))(hs:gO e (ac (.Subscript o i pos')) pos.line B.env=pure ak):EX G B E (fc (.Assign [.Subscript o i pos'] e pos) B.env) Y Z Q:=by
 intro V s S;refine wpAny_Assign_Subscript (WP.use h S (fun v s_1 d Y1 Z1 V_1 S_1 k_1 i_1 h₁=>?_)) hs;refine WP.use h₁ S_1 (fun ov s_2 x Y2 Z2 V_2 S_2 k_2 i_2 h_2=>?_);refine WP.use h_2 S_2 (fun iv s_3 y Y3 Z3 V_3 S_3 k_3 i_3 h_3=>?_);rcases h_3 with⟨a,k,l,Z'',rfl,rfl,R,hl,q⟩|⟨a,k,l,Z'',rfl,rfl,R,hl,q⟩
 .refine aZ (aT.mp i_2) fun z9 zz=>?_
  subst z9;exact Bh (K:=aV) S_3 R hl i_3 (i_1.mono (k_2.trans k_3)) fun s' S'=>⟨.next,Y3,Z'',V_3,S',k_1.trans (k_2.trans k_3),rfl,q⟩
 .refine aZ (aT.mp i_2) fun z10 zz=>?_
  subst z10;exact Bh (K:=Int) S_3 R hl i_3 (i_1.mono (k_2.trans k_3)) fun s' S'=>⟨.next,Y3,Z'',V_3,S',k_1.trans (k_2.trans k_3),rfl,q⟩
theorem IE{Q:Fl->aP->Mu->Prop}(R:fF a (.sdic l) (.sdic (jq l k d)) Z Z')(hl:l.length<=1000000)(q:Q .next Y Z'):HI Q d (.ptr a) (.str k) Y Z:=.inl (jw a k l Z' rfl rfl R hl q)
theorem IF{Q:Fl->aP->Mu->Prop}{k:Int}(R:fF a (.idic l) (.idic (jq l k d)) Z Z')(hl:l.length<=1000000)(q:Q .next Y Z'):HI Q d (.ptr a) (.int k) Y Z:=.inr (jw a k l Z' rfl rfl R hl q)
theorem LS.openX(h:LS Z d l)(S:b9 (cx G B) V Y Z s)(hi:Is G.prog G.w V d v):∃a vs n,v=.ref a/\s.heap.get? a=ac {cls:=.type "list",dict:=aq,data:=.seq vs n,slots:=#[]}/\Mine.gP G.prog G.w V l vs.toList:=by refine bE (h.open S hi) fun a z11 vs n z12 ho hc z13 hd hl=>?_;obtain⟨oc,od,oda,osl⟩:=z11;subst z12;refine aZ z13 ?_;clear z13;intro hn hs;dsimp only at hc hn hs hd;subst hc hn hs hd;exact i5 a vs n rfl ho hl
theorem ko(S:b9 (cx G B) V Y Z s)(hi:Is G.prog G.w V (.tup l) v):∃a vs n,v=.ref a/\V a=ac {cls:=.type "tuple",dict:=aq,data:=.seq vs n,slots:=#[]}/\s.heap.get? a=ac {cls:=.type "tuple",dict:=aq,data:=.seq vs n,slots:=#[]}/\Mine.gP G.prog G.w V l vs.toList:=by refine bE hi ?_;clear hi;intro a z14 vs n z15 ho hc z16 hd hl;obtain⟨oc,od,oda,osl⟩:=z14;subst z15;refine aZ z16 ?_;clear z16;intro hn hs;dsimp only at hc hn hs hd;subst hc hn hs hd;exact eB a vs n rfl ho (S.vh _ _ ho) hl
theorem tJ{Q:DV->aP->Mu->Prop}(R:fF a (.lst l) (.lst (l++[d])) Z Z')(hl:l.length<=1000000)(q:Q .none Y Z'):cI G B E (.builtin "list.append") ([.ptr a]++[d]) Y Z Q:=by
 intro V s vs S hi;refine aM (aG.mp hi) ?_;clear hi;intro v1 r1 z17 i1 hi;subst z17;refine aM (aG.mp hi) ?_;clear hi;intro v2 r2 z18 i2 hi;subst z18;obtain rfl:=be.mp hi;refine bl (LS.openX (.inr (bq _ rfl R.mem)) S i1) fun a vs n z19 ho hL=>?_;subst z19;refine aZ (aT.mp i1) fun e zz=>?_;(injection e with e;subst e);have hsz:vs.size<=fZ:=by rw[<-aF,bb hL];exact ae hl (by decide)
 refine aY (w3 (o:={cls:=.type "list",dict:=aq,data:=.seq vs n,slots:=#[]}) rfl (·.push v2)) fun n' hd'=>?_;refine kz PySem.F.slot_list_append (bq _ ho rfl) PySem.F.entry_list_append ?_ (PySem.F.args_list_append_2 _ _);show bd _ _ (RE a (·.push v2) >>= fun zz=>ret .none) _ _ s;refine ah (AW ho rfl (aH ⟨.none,rfl,.none,Y,Z',V,S.repl (t:=s.toks) R (cW ..) ?_,.refl _,aT.mpr ⟨rfl,rfl⟩,q⟩) (hz:=hsz));refine c7 _ (vs.push v2) n' (cp _ ho (r8 hd')) (yP ..) ⟨?_,?_⟩ hd' ?_;.rfl
 .rfl
 .rw[Array.toList_push];exact kL hL (aG.mpr (bO _ _ rfl i2 (be.mpr rfl)))
theorem G3:∀{vs:List aE},Mine.gP G.prog G.w V (ds++ds') vs->∃v1 v2,vs=v1++v2/\Mine.gP G.prog G.w V ds v1/\Mine.gP G.prog G.w V ds' v2:=by
 induction ds with
 |nil=>intro vs h;exact bO [] vs rfl (be.mpr rfl) h
 |cons d r ih=>intro vs h;refine aM (aG.mp h) fun v rs z1 a b=>?_;subst z1;refine aM (ih b) fun v1 v2 z2 b1 b2=>?_;subst z2;exact bO (v::v1) v2 rfl (aG.mpr (bO _ _ rfl a b1)) b2
theorem Ki(R:fF a (.lst (l++[d])) (.lst l) Z Z')(hl:l.length<=1000000)(q:Q d Y Z'):cI G B E (.builtin "list.pop") ([.ptr a]++[]) Y Z Q:=by
 intro V s vs S hi;refine aM (aG.mp hi) ?_;clear hi;intro v1 r1 z3 i1 hi;subst z3;obtain rfl:=be.mp hi;refine bl (LS.openX (.inr (bq _ rfl R.mem)) S i1) fun a vs n z4 ho hL=>?_;subst z4;refine aZ (aT.mp i1) fun e zz=>?_;(injection e with e;subst e);refine aM (G3 hL) fun v1 v2 e b1 b2=>?_;refine aM (aG.mp b2) ?_;clear b2;intro u r z5 iu b2;subst z5;obtain rfl:=be.mp b2;have hvs:vs.size=l.length+1:=by rw[<-aF,bb hL];simp
 have hv1:v1.length=l.length:=bb b1;have hsz:vs.size<=fZ:=by rw[hvs];exact ae (b6 hl) (by decide)
 have hy:vs[vs.size-1]?=ac u:=by rw[<-di,e,hvs,Ic,<-hv1];simp
 refine aY (w3 (o:={cls:=.type "list",dict:=aq,data:=.seq vs n,slots:=#[]}) rfl (fun xs=>xs.eraseIdxIfInBounds (vs.size-1))) fun n' hd'=>?_;refine qk PySem.F.slot_list_pop (bq _ ho rfl) PySem.F.entry_list_pop (PySem.F.args_list_pop_1 _) (Rp a vs n u hy hsz) ⟨ho,d,Y,Z',V,S.repl (t:=s.toks) R (cW ..) ?_,.refl _,iu,q⟩;refine c7 _ (vs.eraseIdxIfInBounds (vs.size-1)) n' (cp _ ho (r8 hd')) (yP ..) ⟨rfl,rfl⟩ hd' ?_;have e2:(vs.eraseIdxIfInBounds (vs.size-1)).toList=v1:=by rw[Array.toList_eraseIdxIfInBounds,e,hvs,Ic,<-hv1,List.eraseIdx_append_of_length_le (aI _),Nat.sub_self];exact bR v1
 rw[e2];exact b1
theorem yb(O:B.Ok G)(S:b9 (cx G B) V Y Z s):(s.heap.objs.size==fQ)=ak:=by have:=modules_low (S.lim O);rw[beq_eq_false_iff_ne];exact gU this
theorem lJ{K:Type}[DecidableEq K][DK K]{l:List (K×DV)}(O:B.Ok G)(D:DS Z d l)(hl:l.length<=1000000)(q:∀a,Q (.ptr a) Y ((a,DK.mo l)::Z)):cI G B E (.type "dict") [d] Y Z Q:=by intro V s vs S hi;refine aM (aG.mp hi) ?_;clear hi;intro v1 r1 z6 i1 hi;subst z6;obtain rfl:=be.mp hi;refine bU (D.open S i1) fun a o kvs z7 ho lo hd hk=>?_;subst z7;have hD:s.heap.DictOf (DK.knd G.prog G.w (K:=K)) a kvs:=bc.mpr (bq o ho hd);refine kt_call_dict lo hD (by rw[hk.length];exact ae hl (by decide)) fun h' hD' hs=>?_;refine ar (bc.mp hD') fun o' ho' hd'=>?_;have S1:=S.allocMu O.c {cls:=.type "dict",data:=.dict #[]} (.pr fun zz=>True) rfl (bq _ (aN _ rfl) trivial);have S2:=S1.turn (t:=s.toks) (Z1:=[]) (mo':=DK.mo l) hs (DK.moShut ho' (yb O S) hd' hk);exact⟨.ptr s.heap.objs.size,Y,_,V,S2,.refl _,aT.mpr ⟨rfl,rfl⟩,q _⟩
theorem oR{K:Type}[DecidableEq K][DK K]{Q:DV->aP->Mu->Prop}(O:B.Ok G)(q:∀a,Q (.ptr a) Y ((a,DK.mo ([]:List (K×DV)))::Z)):EV G B E (a9 (.Dict [] [] pos) B.env) Y Z Q:=by intro V s S;refine RD ?_;have hD:(s.heap.push {cls:=.type "dict",data:=.dict #[]}).DictOf (DK.knd G.prog G.w (K:=K)) s.heap.objs.size []:=jk s.heap;refine ar (bc.mp hD) fun o' ho' hd'=>?_;have S1:=S.allocMu O.c {cls:=.type "dict",data:=.dict #[]} (DK.mo ([]:List (K×DV))) rfl (DK.moShut ho' (yb O S) hd' .nil);exact⟨.ptr s.heap.objs.size,Y,_,V,S1,.refl _,aT.mpr ⟨rfl,rfl⟩,q _⟩
abbrev EP(K:Type)[DecidableEq K][DK K](G:G0)(B:Bx)(E:aE->ay->Prop)(t:HN (List (aE×aE)))(Y:aP)(Z:Mu)(Q:List (K×DV)->aP->Mu->Prop):Prop:=WP G B E (fun V l vs=>∃kvs,Carries (DK.knd G.prog G.w (K:=K)) vs kvs/\KV G.prog G.w V l kvs) t Y Z Q
section
variable {K : Type} [DecidableEq K] [DK K]
theorem QL{Q:List (K×DV)->aP->Mu->Prop}(q:Q [] Y Z):EP K G B E (s9 (s8 [] [] B.env pos)) Y Z Q:=fun V s S=>evalPairs_nil ⟨[],Y,Z,V,S,.refl _,(bq [] trivial .nil),q⟩
theorem MV{vs:List bZ}{Q:List (K×DV)->aP->Mu->Prop}(h:EV G B E (a9 k B.env) Y Z fun d Y1 Z1=>∃key,d=DK.key key/\EV G B E (a9 v B.env) Y1 Z1 fun x Y2 Z2=>EP K G B E (s9 (s8 ks vs B.env pos)) Y2 Z2 fun l Y3 Z3=>Q ((key,x)::l) Y3 Z3):EP K G B E (s9 (s8 (ac k::ks) (v::vs) B.env pos)) Y Z Q:=by intro V s S;refine pairTrees_cons_walk (WP.use h S (fun a s_1 d Y1 Z1 V_1 S_1 k_1 i_1 z9=>ar z9 fun key ed h₁=>?_));subst ed;refine WP.use h₁ S_1 (fun b s_2 x Y2 Z2 V_2 S_2 k_2 i_2 h_2=>?_);exact aQ (h_2 V_2 s_2 S_2) (fun r s_3 z=>iK z fun l Y3 Z3 V_3 S_3 k_3 z q=>ar z fun kvs hc hk=>⟨(key,x)::l,Y3,Z3,V_3,S_3,k_1.trans (k_2.trans k_3),(bq ((key,b)::kvs) (jT (DK.is i_1) rfl hc) (.cons (i_2.mono k_3) hk)),q⟩) fun zz zz x=>x
theorem KV.keys{l:List (K×DV)}(h:KV prog w V l kvs):kvs.map (·.1)=l.map (·.1):=by induction h with|nil=>rfl|cons _ _ ih=>rw[au,au,ih]
theorem yv(O:B.Ok G)(h:∀a,EP K G B E (s9 (s8 keys values B.env pos)) Y ((a,DK.mo ([]:List (K×DV)))::Z) fun l Y' Z'=>∃Z'',(l.map (·.1)).Nodup/\fF a (DK.mo ([]:List (K×DV))) (DK.mo l) Z' Z''/\Q (.ptr a) Y' Z'')(hall:keys.all (·.isSome)=ai)(hl:keys.length=values.length)(h0:keys≠[])(hlen:keys.length<=15):EV G B E (a9 (.Dict keys values pos) B.env) Y Z Q:=by intro V s S;have hD:(s.heap.push {cls:=.type "dict",data:=.dict #[]}).DictOf (DK.knd G.prog G.w (K:=K)) s.heap.objs.size []:=jk s.heap;refine ar (bc.mp hD) fun o' ho' hd'=>?_;have S1:=S.allocMu O.c {cls:=.type "dict",data:=.dict #[]} (DK.mo ([]:List (K×DV))) rfl (DK.moShut ho' (yb O S) hd' .nil);refine VX (knd:=DK.knd G.prog G.w (K:=K)) hall hl h0 hlen (aQ (h s.heap.objs.size V _ S1) (fun vs s_1 z=>iK z fun l Y1 Z1 V_1 S_1 k_1 z z'=>ar z fun kvs hc hk=>bp z' fun Z'' nd R q=>?_) fun zz zz x=>x);refine bB (DK.moOpen (S_1.mu _ R.mem)) fun o_1 kv1 ho_1 lo1 hd_1 hk_1=>?_;cases hk_1;refine cB kvs hc (bc.mpr (bq o_1 ho_1 hd_1)) (fun h' hD' hs=>?_);rw[Ny kvs (by rw[hk.keys];exact nd)] at hD';refine ar (bc.mp hD') fun o_2 ho2 hd2=>?_;exact⟨.ptr s.heap.objs.size,Y1,Z'',V_1,S_1.repl R hs (DK.moShut ho2 lo1 hd2 hk),k_1,aT.mpr ⟨rfl,rfl⟩,q⟩
inductive N8 (a:aW) (mo:MO):Mu->Mu->Prop
 |head {r:Mu}:N8 a mo ((a,mo)::r) r
 |tail {p:aW×MO} {r r':Mu}:N8 a mo r r'->N8 a mo (p::r) (p::r')
theorem N8.split(h:N8 a mo Z Z'):∃Z1 Z2,Z=Z1++(a,mo)::Z2/\Z'=Z1++Z2:=by induction h with|@head r=>exact jP [] r rfl rfl|@tail p r r' _ ih=>refine cY ih ?_;clear ih;intro m1 m2 e e';exact jP (p::m1) m2 (by rw[e];rfl) (by rw[e'];rfl)
theorem Hl(O:B.Ok G)(h:∀a,EP K G B E (s9 (s8 keys values B.env pos)) Y ((a,DK.mo ([]:List (K×DV)))::Z) fun l Y' Z'=>∃Z'',(l.map (·.1)).Nodup/\N8 a (DK.mo ([]:List (K×DV))) Z' Z''/\Q (DK.dv l) Y' Z'')(hall:keys.all (·.isSome)=ai)(hl:keys.length=values.length)(h0:keys≠[])(hlen:keys.length<=15):EV G B E (a9 (.Dict keys values pos) B.env) Y Z Q:=by intro V s S;have hD:(s.heap.push {cls:=.type "dict",data:=.dict #[]}).DictOf (DK.knd G.prog G.w (K:=K)) s.heap.objs.size []:=jk s.heap;refine ar (bc.mp hD) fun o' ho' hd'=>?_;have S1:=S.allocMu O.c {cls:=.type "dict",data:=.dict #[]} (DK.mo ([]:List (K×DV))) rfl (DK.moShut ho' (yb O S) hd' .nil);refine VX (knd:=DK.knd G.prog G.w (K:=K)) hall hl h0 hlen (aQ (h s.heap.objs.size V _ S1) (fun vs s_1 z=>iK z fun l Y1 Z1 V_1 S_1 k_1 z z'=>ar z fun kvs hc hk=>bp z' fun Z'' nd R q=>?_) fun zz zz x=>x);refine cY R.split fun m1 m2 z19 z20=>?_;subst z19;subst z20;refine bB (DK.moOpen (S_1.mu (s.heap.objs.size,DK.mo ([]:List (K×DV))) (aK _ (.head _)))) fun o_1 kv1 ho_1 lo1 hd_1 hk_1=>?_;cases hk_1;refine cB kvs hc (bc.mpr (bq o_1 ho_1 hd_1)) (fun h' hD' hs=>?_);rw[Ny kvs (by rw[hk.keys];exact nd)] at hD';refine ar (bc.mp hD') fun o_2 ho2 hd2=>?_;have S2:=S_1.turn (t:=s_1.toks+vs.length) (mo':=DK.mo l) hs (DK.moShut ho2 lo1 hd2 hk);have S3:=S2.freeze S.sz ho2;have kf:Kp V_1 (fS V_1 s.heap.objs.size o_2):=dc (S_1.vm (s.heap.objs.size,DK.mo ([]:List (K×DV))) (aK _ (.head _)));exact⟨DK.dv l,Y1,_,_,S3,k_1.trans kf,DK.shut (bT _ _ _) lo1 hd2 (hk.mono kf),q⟩
end
theorem qx(O:B.Ok G)(hl:l.length+l'.length<=1000000)(q:Q (.tup (l++l')) Y Z):O2 G B E (Is G.prog G.w) (fK .Add) (.tup l) (.tup l') Y Z Q:=by
 intro V s a b S ia ib;refine eD (ko S ia) fun t vs n z7 V1 h1 L1=>?_;subst z7;refine eD (ko S ib) fun u ws n' z8 V2 h2 L2=>?_;subst z8;by_cases e1:vs.isEmpty=ai
 .have:l=[]:=by have:=bb L1;rw[aF,tU.mp e1] at this;exact fO.mp this.symm
  subst this;exact H9 (bq _ h1 rfl) (bq _ h2 rfl) yH FJ mH lN (lB _ _) (tuple_addW0 t u vs ws n n' aq aq #[] #[] e1) (jT h1 h2 ⟨.tup l',Y,Z,V,S,.refl _,ib,q⟩)
 .by_cases e2:ws.isEmpty=ai
  .have:l'=[]:=by have:=bb L2;rw[aF,tU.mp e2] at this;exact fO.mp this.symm
   subst this;rw[bR] at q;exact H9 (bq _ h1 rfl) (bq _ h2 rfl) yH FJ mH lN (lB _ _) (tuple_addW1 t u vs ws n n' aq aq #[] #[] e1 e2) (jT h1 h2 ⟨.tup l,Y,Z,V,S,.refl _,ia,q⟩)
  .refine H9 (bq _ h1 rfl) (bq _ h2 rfl) yH FJ mH lN (lB _ _) (tuple_addW2 t u vs ws n n' aq aq #[] #[] e1 e2 ?_) (jT h1 h2 ?_)
   .rw[<-aF,<-aF,bb L1,bb L2];exact ae hl (by decide)
   .have S1:=S.alloc O.c {cls:=.type "tuple",data:=.seq (vs++ws)} rfl
    refine⟨.tup (l++l'),Y,Z,_,S1,dc S.fresh,?_,q⟩;show Exists _;exact cJ _ _ (vs++ws) 0 rfl (bT _ _ _) rfl ⟨rfl,rfl⟩ rfl (by rw[qm];exact(kL L1 L2).mono (dc S.fresh))
theorem vz(O:B.Ok G)(D:LS Z d l)(D':LS Z d' l')(hl:l.length+l'.length<=1000000)(q:Q (.lst (l++l')) Y Z):O2 G B E (Is G.prog G.w) (fK .Add) d d' Y Z Q:=by intro V s a b S ia ib;refine bl (D.openX S ia) fun t vs n z9 h1 L1=>?_;subst z9;refine bl (D'.openX S ib) fun u ws n' z10 h2 L2=>?_;subst z10;refine P.add_list h1 h2 ?_ (by rw[<-aF,<-aF,bb L1,bb L2];exact ae hl (by decide));have S1:=S.alloc O.c {cls:=.type "list",data:=.seq (vs++ws)} rfl;refine⟨.lst (l++l'),Y,Z,_,S1,dc S.fresh,?_,q⟩;show Exists _;exact cJ _ _ (vs++ws) 0 rfl (bT _ _ _) rfl ⟨rfl,rfl⟩ rfl (by rw[qm];exact(kL L1 L2).mono (dc S.fresh))
mutual
noncomputable def pd:DV->Option fz|.raw .none=>ac .none|.raw (.bool b)=>ac (.bool b)|.int i=>ac (.int i)|.str x=>ac (.str x)|.tup l=>(Bt l).map .tuple|.lst l=>(Bt l).map .list|_=>aq
noncomputable def Bt:List DV->Option (List fz)|[]=>ac []|d::r=>(pd d).bind fun x=>(Bt r).map (x::·)
end
theorem xV{x:fz}{C:Prop}(h:aq=ac x):C:=by injection h
mutual
theorem lZ {h:jl} (k:Kp V h.get?):∀d x v,pd d=ac x->Is prog w V d v->∃as,qM h v x as
 |.raw u,x,v,e,i=>by
  refine aZ (aT.mp i) fun z1 zz=>?_;subst z1;cases v<;>first|exact xV e|(injection e with e;subst e)
  .exact⟨_,.none⟩
  .exact⟨_,.bool _⟩
 |.int j,x,v,e,i=>by refine aY (bA.mp i) fun t z2=>?_;subst z2;(injection e with e;subst e);exact⟨_,.int _ _⟩
 |.str j,x,v,e,i=>by refine aY (ir.mp i) fun t z3=>?_;subst z3;(injection e with e;subst e);exact⟨_,.str _ _⟩
 |.tup l,x,v,e,i=>by refine ar (aD.mp e) fun xs hx z4=>?_;subst z4;refine bE i ?_;clear i;intro a o vs n z5 h1 h2 h3 h4 h5;subst z5;refine aY (iE k l xs _ hx h5) fun as ha=>?_;exact⟨_,.tuple (k _ _ h1) h2 h4 ha⟩
 |.lst l,x,v,e,i=>by refine ar (aD.mp e) fun xs hx z6=>?_;subst z6;refine bE i ?_;clear i;intro a o vs n z7 h1 h2 h3 h4 h5;subst z7;refine aY (iE k l xs _ hx h5) fun as ha=>?_;exact⟨_,.list (k _ _ h1) h2 h4 ha⟩
 |.byt _,_,_,e,_=>xV e|.sdic _,_,_,e,_=>xV e|.idic _,_,_,e,_=>xV e|.inst _ _,_,_,e,_=>xV e|.any,_,_,e,_=>xV e
theorem iE {h:jl} (k:Kp V h.get?):∀l xs vs,Bt l=ac xs->Mine.gP prog w V l vs->∃as,CT h vs xs as
 |[],xs,vs,e,i=>by obtain rfl:=be.mp i;(injection e with e;subst e);exact⟨_,.nil⟩
 |d::r,xs,vs,e,i=>by refine aM (aG.mp i) fun v rs z8 i1 i2=>?_;subst z8;refine ar (cC.mp e) ?_;clear e;intro x hx e;refine ar (aD.mp e) fun ys hy z9=>?_;subst z9;refine aY (lZ k d x v hx i1) fun as ha=>?_;refine aY (iE k r ys rs hy i2) fun bs hb=>?_;exact⟨_,.cons ha hb⟩
end
def PD(Z:Mu)(d:DV)(x:fz):Prop:=pd d=ac x\/∃l xs,LS Z d l/\Bt l=ac xs/\x=.list xs
theorem PD.reads{x:fz}(h:PD Z d x)(S:b9 (cx G B) V Y Z s)(i:Is G.prog G.w V d v):∃as,qM s.heap v x as:=by
 rcases h with h|⟨l,xs,L,hx,rfl⟩;.exact lZ S.vh d x v h i
 .refine bE (L.open S i) fun a o vs n z10 ho hc hn hd hl=>?_
  subst z10;refine aY (iE S.vh l xs _ hx hl) fun as ha=>?_;exact⟨_,.list ho hc hd ha⟩
theorem Bx.Ok.line(O:B.Ok G):B.A.units+100<K6:=by have:=O.room.2;show B.A.units+100<9900;exact om3 this
theorem Bz{x y:fz}(O:B.Ok G)(P:PD Z d x)(P':PD Z d' y)(hx:a6 x=ai)(hy:a6 y=ai)(q:Q (.bool (a8 x y)) Y Z):O2 G B E (Is G.prog G.w) (bi .Eq) d d' Y Z Q:=by intro V s a b S ia ib;refine aY (P.reads S ia) fun as ra=>?_;refine aY (P'.reads S ib) fun bs rb=>?_;exact SeqAt.compareEq_shaped ra rb hx hy (by have:=O.line;exact om4 this) ⟨_,Y,Z,V,S,.refl _,aT.mpr ⟨rfl,rfl⟩,q⟩
theorem Bw{x y:fz}(O:B.Ok G)(P:PD Z d x)(P':PD Z d' y)(hx:a6 x=ai)(hy:a6 y=ai)(q:Q (.bool (!a8 x y)) Y Z):O2 G B E (Is G.prog G.w) (bi .NotEq) d d' Y Z Q:=by intro V s a b S ia ib;refine aY (P.reads S ia) fun as ra=>?_;refine aY (P'.reads S ib) fun bs rb=>?_;exact SeqAt.compareNe_shaped ra rb hx hy (by have:=O.line;exact om4 this) ⟨_,Y,Z,V,S,.refl _,aT.mpr ⟨rfl,rfl⟩,q⟩
theorem IZ{K:Type}[DecidableEq K][DK K]{l:List (K×DV)}{k:K}(D:DS Z d l)(q:Q (.bool (!(ku l k).isSome)) Y Z):O2 G B E (Is G.prog G.w) (bi .NotIn) (DK.key k) d Y Z Q:=by intro V s kv v S ik iv;refine bU (D.open S iv) fun a o kvs z11 ho lo hd hk=>?_;subst z11;have hD:s.heap.DictOf (DK.knd G.prog G.w (K:=K)) a kvs:=bc.mpr (bq o ho hd);exact wpAny_notIn_of (DK.is ik) lo hD.mapOf ⟨_,Y,Z,V,S.sat_toks _,.refl _,aT.mpr ⟨rfl,rfl⟩,hk.isSome▸q⟩
theorem tn:∀{xs:List fz}{as:List aW},CT h vs xs as->vs.length=xs.length/\∀y∈vs,∃x as,x∈xs/\qM h y x as:=by
 induction vs with
 |nil=>intro xs as r;cases r;exact⟨rfl,fun zz h=>nomatch h⟩
 |cons v vs ih=>
  intro xs as r;cases r with|cons a b=>
  refine⟨congrArg (· + 1) (ih b).1,fun y hy=>?_⟩;rcases ao.mp hy with rfl|hy;.exact jP _ _ (.head _) a
  .exact cY ((ih b).2 y hy) fun x as hx r=>(jP x as (.tail _ hx) r)
theorem yB(key:∀y d as,qM h y d as->d.canLay0=ai->e y=f d):∀{xs:List fz}{as:List aW},CT h vs xs as->(∀y∈xs,a6 y=ai)->vs.map e=xs.map f:=by
 induction vs with
 |nil=>intro xs as r _;cases r;rfl
 |cons v vs ih=>intro xs as r hs;cases r with|cons a b=>rw[au,au,key _ _ _ a (nI (hs _ (.head _))),ih b fun y hy=>hs y (.tail _ hy)]
theorem Ed{l:List α}{m:List β}(h:l.map e=m.map f):l.any e=m.any f:=by have:=congrArg (fun l=>l.any id) h;rw[fm,fm] at this;exact this
theorem vS{x:fz}(r:qM h v x as)(hx:a6 x=ai){A:fR}(hu:A.units+100<K6)(hs:s.heap=h):∃e,∀{vs:List aE}{xs:List fz}{bs:List aW},CT h vs xs bs->(∀y∈xs,a6 y=ai)->(∀y∈vs,nJ A.in1 s y v (e y))/\vs.any e=xs.any fun y=>a8 y x:=by
 classical
 refine⟨fun y=>decide (∃d as,qM h y d as/\d.canLay0=ai/\a8 d x=ai),fun {vs xs bs} ra hsx=>?_⟩;have key:∀y d as,qM h y d as->d.canLay0=ai->decide (∃d as,qM h y d as/\d.canLay0=ai/\a8 d x=ai)=a8 d x:=fun y d as rd hd=>by cases q:a8 d x with|true=>exact decide_eq_true (bO d as rd hd q)|false=>refine decide_eq_false ?_;rintro ⟨d',as',rd',hd',q'⟩;rw[yK d d' y as as' hd rd rd'] at q;rw[q] at q';injection q'
 constructor
 .intro y hy
  refine cY ((tn ra).2 y hy) fun d as hd rd=>?_;show nJ A.in1 s y v (decide (∃d as,qM h y d as/\d.canLay0=ai/\a8 d x=ai));rw[key y d as rd (nI (hsx d hd))];subst hs;exact keq_at rd r (hsx d hd) hx (by show A.units+1+64<K6;exact om5 hu)
 .exact Ed (yB key ra hsx)
theorem Gx{x:fz}(O:B.Ok G)(P:pd d=ac x)(hl:Bt l=ac xs)(hx:a6 x=ai)(hxs:∀y∈xs,a6 y=ai)(q:Q (.bool (xs.any fun y=>a8 y x)) Y Z):O2 G B E (Is G.prog G.w) (bi .In) d (.tup l) Y Z Q:=by intro V s a b S ia ib;refine aY (lZ S.vh d x a P ia) fun as ra=>?_;refine eD (ko S ib) fun t vs n z12 zz ht hL=>?_;subst z12;refine aY (iE S.vh l xs _ hl hL) fun bs rb=>?_;refine aY (vS ra hx (A:=B.A) O.line rfl) fun e he=>?_;refine aZ (he rb hxs) fun h1 h2=>?_;refine SeqAt.in_tupleAt (items:=vs) e (dK _ ht rfl n rfl) (fun y hy=>h1 y (by simpa using hy)) ⟨_,Y,Z,V,S,.refl _,aT.mpr ⟨rfl,rfl⟩,?_⟩;rw[<-jG,h2];exact q
theorem Gy{x:fz}(O:B.Ok G)(P:pd d=ac x)(L:LS Z d' l)(hl:Bt l=ac xs)(hx:a6 x=ai)(hxs:∀y∈xs,a6 y=ai)(q:Q (.bool (xs.any fun y=>a8 y x)) Y Z):O2 G B E (Is G.prog G.w) (bi .In) d d' Y Z Q:=by intro V s a b S ia ib;refine aY (lZ S.vh d x a P ia) fun as ra=>?_;refine bl (L.openX S ib) fun t vs n z13 ht hL=>?_;subst z13;refine aY (iE S.vh l xs _ hl hL) fun bs rb=>?_;refine aY (vS ra hx (A:=B.A) O.line rfl) fun e he=>?_;refine aZ (he rb hxs) fun h1 h2=>?_;refine SeqAt.in_listAt (items:=vs) e (dK _ ht rfl n rfl) (fun y hy=>h1 y (by simpa using hy)) ⟨_,Y,Z,V,S,.refl _,aT.mpr ⟨rfl,rfl⟩,?_⟩;rw[<-jG,h2];exact q
theorem zv{x:fz}(O:B.Ok G)(P:pd d=ac x)(L:LS Z d' l)(hl:Bt l=ac xs)(hx:a6 x=ai)(hxs:∀y∈xs,a6 y=ai)(q:Q (.bool (!xs.any fun y=>a8 y x)) Y Z):O2 G B E (Is G.prog G.w) (bi .NotIn) d d' Y Z Q:=by intro V s a b S ia ib;refine aY (lZ S.vh d x a P ia) fun as ra=>?_;refine bl (L.openX S ib) fun t vs n z14 ht hL=>?_;subst z14;refine aY (iE S.vh l xs _ hl hL) fun bs rb=>?_;refine aY (vS ra hx (A:=B.A) O.line rfl) fun e he=>?_;refine aZ (he rb hxs) fun h1 h2=>?_;refine SeqAt.notIn_listAt (items:=vs) e (dK _ ht rfl n rfl) (fun y hy=>h1 y (by simpa using hy)) ⟨_,Y,Z,V,S,.refl _,aT.mpr ⟨rfl,rfl⟩,?_⟩;rw[<-jG,h2];exact q
def NsO(m:aV->Option aE)(o:uD):Prop:=∃es ep,o.data=.dict es ep/\StrKeys es/\∀name,nsFind es name=m name
def Cv(o:uD):Prop:=∃m,NsO m o
theorem vC{h:jl}:h.Ns a m↔∃o,h.get? a=ac o/\NsO m o:=⟨fun z2=>fx z2 fun o es ep ho r=>⟨o,ho,es,ep,r⟩,fun z1=>M0 z1 fun o ho es ep r=>(o6 o es ep ho r)⟩
noncomputable def UP(B:Bx)(env:Ou)(C:aW)(V:Vw)(Z:Mu)(s:ay):Bx:={B with env:=env,L:=C,V0:=V,m0:=Z.map (·.1),s0:=s}
structure m8 (B:Bx) (scope:Ro) (cl:List (aV×aW)):Prop where
 clos:Op scope B.env=pure cl
 cell:∀x∈scope.names,x.2≠.cell
 fn:scope.kind=.function
 names:∀x∈scope.names,x.2=.local->scope.names.lookup x.1=ac .local
theorem Jv(O:B.Ok G)(F:scope.kind=.function){Zo:Mu}(S:b9 (cx G B) V Y (Zo++Z) s):(UP B (gH scope cl C B.env) C V Z s).Ok G:=by refine⟨O.g,⟨F,rfl,O.c.glo,O.c.bui⟩,O.room,O.calm,?_⟩;refine ar (S.stk O) fun l hl h=>?_;refine bq l hl (fun env he=>?_);refine gB (h env he) fun a f o b c d e e'=>?_;refine⟨a,f,b,.inr ⟨c,fun z=>d ?_,o,e,e'⟩⟩;rw[aA];exact aK _ z
theorem b9.into(S:b9 (cx G B) V Y ((C,.pr Cv)::(Zo++Z)) s)(hk:scope.names.lookup x=ac .local):b9 (cx G (UP B (gH scope cl C B.env) C V Z s)) V [(x,.any)] Z s:=by
 have dj:=av.mp S.dj;have dj2:=av.mp (au▸dj.2);have D:=S.drop.dropAll;refine wu (S.mu (C,.pr Cv) (.head _)) fun o ho m hm=>?_;refine⟨(bq m (vC.mpr (bq o ho hm)) (fun p hp=>?_)),by simp,D.mu,?_,D.vh,S.vm _ (.head _),D.vm,fun zz h=>.inl h,.refl _,D.b0.trans D.v0,fun zz hp=>.inl (ax hp),fun zz o zz zz e=>(bq o e (.refl o)),aI _,D.hk,.refl s⟩
 .rw[ap] at hp
  subst hp;exact⟨lookup_relabel_local hk,fun h=>absurd rfl h⟩
 .refine av.mpr ⟨fun q=>dj2.1 ?_,(av.mp D.dj).2⟩
  rw[aA];exact aK _ q
theorem b9.outof{Zo Z':Mu}(O:B.Ok G)(S:b9 (cx G B) V Y ((C,mo)::(Zo++Z)) s)(S':b9 (cx G (UP B env C V Z s)) V' Y' Z' s'):b9 (cx G B) V' Y ((C,.pr Cv)::(Zo++Z')) s':=by
 have dj:=av.mp S.dj;have dj2:=av.mp (au▸dj.2);have stk:=S.stk O;have dd:=dj2.2;rw[aA,bC] at dd;have mem:∀{p},p∈Zo->p∈(C,mo)::(Zo++Z):=fun h=>.tail _ (bF _ h);have nC:∀p∈Zo,p.1≠C:=fun p hp q=>dj2.1 (by rw[aA];have:=ax (f:=fun x:aW×MO=>x.1) hp;rw[q] at this;exact bF _ this);have nm:∀p∈Zo,p.1∉Z.map (·.1):=fun p hp q=>dd.2.2 _ (ax hp) _ q rfl;have lt:∀p∈(C,mo)::(Zo++Z),p.1<s.heap.objs.size:=fun p hp=>S.muLt hp;have vnone:∀b,b<s.heap.objs.size->V b=aq->V' b=aq:=fun b hb hv=>by
  cases q:V' b with|none=>rfl|some x=>
   rcases S'.fr b (by rw[q];simp) with z|z;.exact absurd hv z
   .exact absurd hb (bu.mpr z)
 have same:∀p∈Zo,s'.heap.get? p.1=s.heap.get? p.1:=fun p hp=>by refine aY ((S.mu p (mem hp)).at) fun o ho=>?_;refine ar (S'.pr p.1 o (nm p hp) (nC p hp) ho) fun o' ho' nr=>?_;rw[nr.1 fun z=>(stk.fro z).2.1 (ax (mem hp))] at ho';exact ho'.trans ho.symm
 have mf':∀p∈Z',p.1∈Z.map (·.1)\/s.heap.objs.size<=p.1:=S'.mf;have ne':∀p∈Z',∀b,b<s.heap.objs.size->b∉Z.map (·.1)->p.1≠b:=fun p hp b hb hn q=>by
  rcases mf' p hp with z|z;.exact hn (q▸z)
  .exact absurd hb (bu.mpr (q▸z))
 refine ar S.m ?_;(try clear m);intro m z3 he;refine fx z3 ?_;clear z3;intro oL es ep hL r;have hL:s.heap.get? B.L=ac oL:=hL;have LC:B.L≠C:=fun q=>dj.1 (q▸.head _);have Lm:B.L∉Z.map (·.1):=fun q=>dj.1 (.tail _ (by rw[aA];exact aK _ q));refine ar (S'.pr B.L oL Lm LC hL) fun oL' hL' nrL=>?_;have r':=r;rw[<-nrL.data] at r';refine ar S'.m fun mC hnC zz=>?_;refine ar (vC.mp hnC) fun oC hoC hNs=>?_;refine⟨(bq m (o6 oL' es ep hL' r') (b9.envMono S'.v0 he)),S.nd,fun p hp=>?_,?_,S'.vh,vnone _ (aR hL) S.vL,fun p hp=>?_,fun a ha=>?_,S.v0.trans S'.v0,S.b0,fun p hp=>?_,fun a o n l e=>?_,ae S.sz S'.sz,S'.hk,S.rest.trans S'.rest⟩
 .rcases ao.mp hp with rfl|hp
  .exact⟨oC,hoC,mC,hNs⟩
  .rcases aJ.mp hp with h|h
   .exact(S.mu p (mem h)).mono S'.v0 (same p h)
   .exact S'.mu p h
 .have djs:=av.mp S'.dj
  refine av.mpr ⟨fun q=>?_,av.mpr ⟨fun q=>?_,?_⟩⟩
  .rcases ao.mp q with q|q
   .exact LC q
   .rw[aA] at q
    rcases aJ.mp q with q|q;.exact dj.1 (.tail _ (by rw[aA];exact bF _ q))
    .refine ar (az.mp q) fun p hp e=>?_
     exact ne' p hp _ (aR hL) Lm e
  .rw[aA] at q
   rcases aJ.mp q with q|q;.exact dj2.1 (by rw[aA];exact bF _ q)
   .exact djs.1 q
  .rw[aA,bC]
   refine jT dd.1 djs.2 (fun a ha b hb e=>?_);refine ar (az.mp ha) fun p hp e1=>?_;refine ar (az.mp hb) fun q hq e2=>?_;exact ne' q hq p.1 (lt p (mem hp)) (nm p hp) (e2.trans (e.symm.trans e1.symm))
 .rcases ao.mp hp with rfl|hp
  .exact S'.vL
  .rcases aJ.mp hp with h|h
   .exact vnone _ (lt p (mem h)) (S.vm p (mem h))
   .exact S'.vm p h
 .rcases S'.fr a ha with z|z
  .exact S.fr a z
  .exact .inr (ae S.sz z)
 .rcases ao.mp hp with rfl|hp
  .exact S.mf (C,mo) (.head _)
  .rcases aJ.mp hp with h|h
   .exact S.mf p (mem h)
   .rcases mf' p h with z|z
    .refine ar (az.mp z) fun q hq e=>?_
     exact e▸S.mf q (.tail _ (aK _ hq))
    .exact .inr (ae S.sz z)
 .refine ar (S.pr a o n l e) fun o' e' nr=>?_
  have aC:a≠C:=fun q=>by
   subst q;rcases S.mf _ (.head _) with z|z;.exact n z
   .exact absurd (aR e) (bu.mpr z)
  have am:a∉Z.map (·.1):=fun q=>by
   refine ar (az.mp q) fun y hy e''=>?_;subst e'';rcases S.mf y (.tail _ (aK _ hy)) with z|z;.exact n z
   .exact absurd (aR e) (bu.mpr z)
  refine ar (S'.pr a o' am aC e') fun o'' e'' nr'=>?_;exact bq o'' e'' (nr.trans nr')
noncomputable def ph(ifs:List bZ)(env:Ou):HN Bool:=forIn ifs ai fun c r=>if r=ai then do let ok <-isTrue c env (a9 c env);pure (Ew ok) else pure (Ew r)
theorem F6{Q:Bool->aP->Mu->Prop}(q:Q ai Y Z):EB G B E (ph [] B.env) Y Z Q:=fun V s S=>by unfold ph;rw[NC];exact aH ⟨ai,Y,Z,V,S,.refl _,rfl,q⟩
theorem F5{Q:Bool->aP->Mu->Prop}(h:EB G B E (isTrue t B.env (a9 t B.env)) Y Z Q):EB G B E (ph [t] B.env) Y Z Q:=fun V s S=>by unfold ph;rw[List.forIn_cons];refine ah ?_;rw[if_pos rfl];refine ah (WP.use h S (fun b s_1 b' Y1 Z1 V_1 S_1 k_1 e q=>aH ?_));subst e;dsimp only;rw[NC];exact aH ⟨b',Y1,Z1,V_1,S_1,k_1,rfl,q⟩
def HH(G:G0)(B:Bx)(ifs:List bZ)(elt:bZ)(x:aV)(d:DV)(Z:Mu)(out:List DV)(I:List DV->Mu->Prop):Prop:=EB G B (fun zz zz=>False) (ph ifs B.env) [(x,d)] Z fun b Y' Z3=>if b=ai then EV G B (fun zz zz=>False) (a9 elt B.env) Y' Z3 (fun y zz Z4=>I (out++[y]) Z4) else I out Z3
theorem uo{o m:List α}:Xa (o++c::d::m) (c::((d::o)++m)):=gS.trans (gS.cons _)
theorem Hu{N:ay->Prop}(O:B.Ok G)(F:m8 B scope cl)(hx:scope.names.lookup x=ac .local)(S:b9 (cx G B) V Y ((C,.pr Cv)::(((D,.lst out)::own)++Z)) s)(iu:Is G.prog G.w V d u)(ho:out.length<=1000000)(tr:HH G (UP B (gH scope cl C B.env) C V Z s) ifs elt x d Z out J)(hN:∀V' out' Z' s',out'.length<=out.length+1->b9 (cx G B) V' Y ((C,.pr Cv)::(((D,.lst out')::own)++Z')) s'->Kp V V'->J out' Z'->N s'):bd (bf G.prog G.w) B.A (assign (.Name x px) (gH scope cl C B.env) u) (fun zz s_2=>bd (bf G.prog G.w) B.A (ph ifs (gH scope cl C B.env)) (fun ok s_3=>if ok=ai then bd (bf G.prog G.w) B.A (a9 elt (gH scope cl C B.env)) (fun y s_4=>bd (bf G.prog G.w) B.A (call (.builtin "list.append") [.ref D,y]) (fun zz s_5=>N s_5) E4 s_4) E3 s_3 else N s_3) E2 s_2) E_1 s:=by have Oc:(UP B (gH scope cl C B.env) C V Z s).Ok G:=Jv O F.fn (Zo:=(C,.pr Cv)::((D,.lst out)::own)) S;refine aQ (AA (E:=fun zz zz=>False) (Q:=fun Y' Z'=>Y'=[(x,d)]/\Z'=Z) Oc .head ⟨rfl,rfl⟩ V s u (S.into hx) iu) (fun zz s_4 z5=>iK z5 fun zz Y4 Z4 V4 S_4 k_4 zz z6=>aZ z6 fun e1 e2=>?_) fun zz zz x=>x.elim;subst e1 e2;refine aQ (tr V4 s_4 S_4) (fun b s_5 z7=>iK z7 fun b' Y5 Z5 V5 S_5 k_5 eb hq=>?_) fun zz zz x=>x.elim;subst eb;cases b' with|false=>exact hN _ _ _ _ (cD _) (b9.outof (Zo:=(D,.lst out)::own) O S S_5) (k_4.trans k_5) hq|true=>refine aQ (hq V5 s_5 S_5) (fun y s6 z8=>iK z8 fun dy Y6 Z6 V6 S_6 k_6 iy hq'=>?_) fun zz zz x=>x.elim;refine aQ (tJ (B:=B) (E:=fun zz zz=>False) (Y:=Y) (Q:=fun zz Y' Z'=>Y'=Y/\Z'=(C,.pr Cv)::(D,.lst (out++[dy]))::(own++Z6)) (fF.tail fF.head) ho ⟨rfl,rfl⟩ V6 s6 [.ref D,y] (b9.outof (Zo:=(D,.lst out)::own) O S S_6) (aG.mpr (bO _ _ rfl (aT.mpr ⟨rfl,rfl⟩) (aG.mpr (bO _ _ rfl iy (be.mpr rfl)))))) (fun zz s7 z9=>iK z9 fun zz Y7 Z7 V7 S_7 k7 zz z10=>aZ z10 fun e1 e2=>?_) fun zz zz x=>x.elim;subst e1 e2;exact hN _ _ _ _ (bv aS) S_7 (k_4.trans (k_5.trans (k_6.trans k7))) hq'
def VR(G:G0)(B:Bx)(V:Vw)(Y:aP)(own:Nat->Mu)(C D:aW)(N:Nat)(I:Nat->List DV->Mu->Prop)(n:Nat)(s:ay):Prop:=∃i out Z2 V',i<=N/\n=N-i/\out.length<=i/\b9 (cx G B) V' Y (own i++(C,.pr Cv)::(D,.lst out)::Z2) s/\Kp V V'/\I i out Z2
theorem Hv{elt iter:bZ}{px:xH}{ifs:List bZ}{pos:xH}{I:Nat->List DV->Mu->Prop}{T:yL->ay->Prop}(O:B.Ok G)(F:m8 B scope cl)(hx:scope.names.lookup x=ac .local)(K:Nt G B V_0 own it ds)(hds:ds.length<=1000000)(S:b9 (cx G B) V Y (own 0++(C,.pr Cv)::(D,.lst [])::Z) s)(k0:Kp V_0 V)(hI:I 0 [] Z)(hstep:∀i d,ds[i]?=ac d->∀out Z2,I i out Z2->∀Bc,Bc.Ok G->Bc.env=gH scope cl Bc.L B.env->Bc.k=B.k->Bc.hd=B.hd->Bc.m0=Z2.map (·.1)->HH G Bc ifs elt x d Z2 out (I (i+1)))(hT:∀s' V' out Z2,b9 (cx G B) V' Y ((C,.pr Cv)::(D,.lst out)::Z2) s'->Kp V V'->I ds.length out Z2->T (.ok .next) s'):fJ (bf G.prog G.w) B.A (.compLoop (.ListComp elt [⟨.Name x px,iter,ifs,0⟩] scope pos) 0 it (.ref D) (gH scope cl C B.env)) T s:=by
 refine codeAny_compLoop_tests (VR G B V Y own C D ds.length I) (fun n s' z=>bE z fun i out Z2 V' hi hn hout S' k' hI=>?_) ds.length (cJ 0 [] Z V (a7 _) rfl (aI _) S (.refl _) hI);cases hd:ds[i]? with
 |none=>have e:i=ds.length:=w4 hi (gX.mp hd);exact K.last (k0.trans k') (e▸S') fun s_3 V_3 S_3 k_3=>hT s_3 V_3 out Z2 S_3 (k'.trans k_3) (e▸hI)
 |some d'=>have hlt:i<ds.length:=(cq.mp hd).1;exact K.next hd (k0.trans k') S' fun u s_3 V_3 S_3 k_3 iu=>Hu O F hx (S_3.perm uo) iu (ae hout (ae (b8 hlt) hds)) (hstep i d' hd out Z2 hI _ (Jv O F.fn (Zo:=(C,.pr Cv)::((D,.lst out)::own (i+1))) (S_3.perm uo)) rfl rfl rfl rfl) fun V' out' Z' s' hl S_4 k_4 h=>⟨ds.length-(i+1),hn▸XX hlt,i+1,out',Z',V',hlt,rfl,ae hl (b6 hout),S_4.perm uo.symm,k'.trans (k_3.trans k_4),h⟩
theorem yz{I:Nat->List DV->Mu->Prop}{RR:aE->aW->yL->ay->Prop}(O:B.Ok G)(F:m8 B scope cl)(hx:scope.names.lookup x=ac .local)(K:Nt G B V_0 own it ds)(hds:ds.length<=1000000)(S:b9 (cx G B) V Y (own 0++Z) s)(k0:Kp V_0 V)(hI:I 0 [] Z)(hstep:∀i d,ds[i]?=ac d->∀out Z2,I i out Z2->∀Bc,Bc.Ok G->Bc.env=gH scope cl Bc.L B.env->Bc.k=B.k->Bc.hd=B.hd->Bc.m0=Z2.map (·.1)->HH G Bc ifs elt x d Z2 out (I (i+1)))(hRR:∀D C s' V' out Z2,B.s0.heap.objs.size<=D->b9 (cx G B) V' Y ((C,.pr Cv)::(D,.lst out)::Z2) s'->Kp V V'->I ds.length out Z2->RR (.ref D) C (.ok .next) s'):bd (bf G.prog G.w) B.A (H0 []) (fun acc s_3=>bd (bf G.prog G.w) B.A (newFunctionEnv scope B.env.globals cl [] B.env.qual aq .none (ac B.env)) (fun cenv s_4=>fJ (bf G.prog G.w) B.A (.compStart (.ListComp elt [⟨.Name x px,iter,ifs,0⟩] scope pos) 0 it acc {cenv with scope:=relabel scope B.env}) (RR acc cenv.locals) s_4) E s_3) E s:=by refine dm (KZ F.cell (by intro y hy;simp at hy) (fun h₁ hns1 hsb1=>?_) F.fn);have S1:=S.allocMu O.c {cls:=.type "list",dict:=aq,data:=.seq ([]:List aE).toArray} (.lst []) rfl (c7 _ (#[]) 0 (aN _ rfl) rfl ⟨rfl,rfl⟩ rfl (be.mpr rfl));have S2:=S1.allocMu O.c {cls:=.type "dict",data:=.dict #[]} (.pr fun zz=>True) rfl (bq _ (aN _ rfl) trivial);refine ar (vC.mp hns1) fun oC hoC hNs=>?_;have S3:=S2.turn (t:=s.toks+([]:List (aV×aE)).length) (Z1:=[]) (mo':=.pr Cv) hsb1 ⟨oC,hoC,_,hNs⟩;dsimp only at S3;generalize hD:s.heap.objs.size=D at S3;generalize hC:(s.heap.push {cls:=.type "list",dict:=aq,data:=.seq ([]:List aE).toArray}).objs.size=C at S3;have S4:b9 (cx G B) V Y (own 0++(C,.pr Cv)::(D,.lst [])::Z) {s with heap:=h₁,toks:=s.toks+([]:List (aV×aE)).length}:=S3.perm uo.symm;have loop:=Hv (elt:=elt) (iter:=iter) (px:=px) (ifs:=ifs) (pos:=pos) (T:=RR (.ref D) C) O F hx K hds S4 k0 hI hstep fun s' V' out Z2 S' k' h=>hRR D C s' V' out Z2 (hD▸S.sz) S' k' h;subst hD hC;exact codeAny_compStart_list loop (K.self k0 S4 loop)
def CA(G:G0)(B:Bx)(E:aE->ay->Prop)(ifs:List bZ)(elt:bZ)(x:aV)(scope:Ro)(cl:List (aV×aW))(Q:DV->aP->Mu->Prop):DV->aP->Mu->Prop:=fun d Y1 Z1=>∃ds Z',qK G B E d ds Y1 Z1 Z'/\ds.length<=1000000/\∃I:Nat->List DV->Mu->Prop,I 0 [] Z'/\
 (∀i d,ds[i]?=ac d->∀out Z2,I i out Z2->∀Bc,Bc.Ok G->Bc.env=gH scope cl Bc.L B.env->Bc.k=B.k->Bc.hd=B.hd->Bc.m0=Z2.map (·.1)->HH G Bc ifs elt x d Z2 out (I (i+1)))/\
 (∀out Z2,I ds.length out Z2->Q (.lst out) Y1 Z2)
theorem qE(hD:B.s0.heap.objs.size<=D)(S:b9 (cx G B) V Y ((D,.lst out)::Z) s):∃V',b9 (cx G B) V' Y Z s/\Kp V V'/\Is G.prog G.w V' (.lst out) (.ref D):=by have hm:=S.mu (D,.lst out) (.head _);refine aY hm.at fun o ho=>?_;have kf:Kp V (fS V D o):=dc (S.vm (D,.lst out) (.head _));exact cB _ (S.freeze (Z1:=[]) hD ho) kf (sI rfl hm ho kf (bT _ _ _))
theorem B9(O:B.Ok G)(F:m8 B scope cl)(hx:scope.names.lookup x=ac .local)(h:EV G B E (a9 iter B.env) Y Z (CA G B E ifs elt x scope cl Q))(hs:∀x,jV iter B.env x=pure x):EV G B E (a9 (.ListComp elt [⟨.Name x px,iter,ifs,0⟩] scope pos) B.env) Y Z Q:=by intro V s S;rw[eval_ListComp];refine FH (use:=aq) rfl hs F.clos F.fn F.names (WP.use h S (fun xv s_1 d Y1 Z1 V_1 S_1 k_1 i_1 z12=>qG z12 fun ds Z' hit hds I hI hstep hend=>?_));refine hit V_1 s_1 xv _ S_1 i_1 fun it own s_2 V_2 S_2 k_2 K=>?_;refine yz (RR:=fun acc C=>compPost (bf G.prog G.w) B.A E aq _ acc C) O F hx K hds S_2 (.refl _) hI hstep fun D C s' V' out Z2 hD S' k' hI'=>?_;refine wu (S'.mu (C,.pr Cv) (.head _)) fun oC hoC m hm=>?_;refine bq m (vC.mpr (bq oC hoC hm)) (fun h' hs'=>?_);refine bp (qE hD (S'.gone (t:=s'.toks) hs'.extBut (bv hs'.1.symm))) fun V_3 S_3 k_3 i_3=>?_;exact⟨.lst out,Y1,Z2,V_3,S_3,k_1.trans (k_2.trans (k'.trans k_3)),i_3,hend out Z2 hI'⟩
theorem wi{Q:Fl->aP->Mu->Prop}(O:B.Ok G)(F:m8 B scope cl)(hx:scope.names.lookup x=ac .local)(hsw:gO (.ListComp elt [⟨.Name x px,iter,ifs,0⟩] scope pos) (ac (.Name y py)) spos.line B.env=pure ai)(h:EV G B E (a9 iter B.env) Y Z (CA G B E ifs elt x scope cl (No y (Q .next))))(hs:∀x,jV iter B.env x=pure x):EX G B E (fc (.Assign [.Name y py] (.ListComp elt [⟨.Name x px,iter,ifs,0⟩] scope pos) spos) B.env) Y Z Q:=by intro V s S;rw[exec_Assign_Name_used _ _ _ _ hsw];refine ah (cG (ah ?_));show bd _ B.A (do let _ <-comprehension (.ListComp elt [⟨.Name x px,iter,ifs,0⟩] scope pos) scope B.env _ (H0 []) ak (a9 iter B.env) (ac (assign (.Name y py) B.env))) _ _ s;refine ah (aQ (FH (use:=ac (assign (.Name y py) B.env)) (Q:=fun zz s'=>qP G B (wL G.prog G.w) V Q .next s') rfl hs F.clos F.fn F.names (WP.use h S (fun xv s_1 d Y1 Z1 V_1 S_1 k_1 i_1 z14=>qG z14 fun ds Z' hit hds I hI hstep hend=>?_))) (fun zz s' hq=>aH (aH hq)) fun zz zz e=>e);refine hit V_1 s_1 xv _ S_1 i_1 fun it own s_2 V_2 S_2 k_2 K=>?_;refine yz (RR:=fun acc C=>compPost (bf G.prog G.w) B.A E (ac (assign (.Name y py) B.env)) _ acc C) O F hx K hds S_2 (.refl _) hI hstep fun D C s' V' out Z2 hD S' k' hI'=>?_;refine bp (qE hD S'.swap) fun V_3 S_3 k_3 i_3=>?_;refine ar (hend out Z2 hI') fun Y'' hp q=>?_;show bd _ _ (assign (.Name y py) B.env (.ref D)) _ _ _;refine aQ (AA (Q:=fun Y4 Z4=>Y4=Y''/\Z4=(C,.pr Cv)::Z2) O hp ⟨rfl,rfl⟩ V_3 s' (.ref D) S_3 i_3) (fun zz s_4 z15=>iK z15 fun zz Y4 Z4 V4 S_4 k_4 zz z16=>aZ z16 fun e1 e2=>?_) fun zz zz x=>x;subst e1 e2;refine wu (S_4.mu (C,.pr Cv) (.head _)) fun oC hoC m hm=>?_;refine bq m (vC.mpr (bq oC hoC hm)) (fun h' hs'=>?_);exact⟨.next,Y4,Z2,V4,S_4.gone (t:=s_4.toks) hs'.extBut (bv hs'.1.symm),k_1.trans (k_2.trans (k'.trans (k_3.trans k_4))),rfl,q⟩
noncomputable def ju(names:List (aV×NameKind))(L:aW)(Yc:List DV):Mu:=((cQ (L+1) names []).zip Yc).map fun q=>(q.1.2,MO.cell q.2)
theorem ni:∀{l:List α}{m:List β},((l.zip m).map (·.1)).Sublist l
 |[],_=>by simp
 |a::l,[]=>by simp
 |a::l,b::m=>by rw[HO,au];exact ni.cons_cons _
theorem Kn(hk:kf x=ac .local):∀{bs:List (aV×aE)}{m:aV->Option aE},(bs.map (·.1)).Nodup->(x,v)∈bs->bindL kf bs m x=ac v:=by
 have keep:∀{bs:List (aV×aE)}{m:aV->Option aE},x∉bs.map (·.1)->bindL kf bs m x=m x:=by
  intro bs;induction bs with
  |nil=>intro m _;rfl
  |cons p r ih=>intro m h;obtain⟨n,u⟩:=p;unfold bindL;rw[ih fun z=>h (.tail _ z)];have hn:x≠n:=fun q=>h (q▸.head _);split<;>simp[hn]
 intro bs;induction bs with
 |nil=>intro m _ h;cases h
 |cons p r ih=>
  intro m nd h;obtain⟨n,u⟩:=p;rw[au,av] at nd;unfold bindL;rcases ao.mp h with e|h
  ·(injection e with q3 q4;subst q3;subst q4)
   rw[keep nd.1,if_pos hk];simp
  .exact ih nd.2 h
theorem Ko(hk:kf x≠ac .local):∀{bs:List (aV×aE)}{m:aV->Option aE},(bs.map (·.1)).Nodup->(x,v)∈bs->bindC kf bs m x=ac v:=by
 have keep:∀{bs:List (aV×aE)}{m:aV->Option aE},x∉bs.map (·.1)->bindC kf bs m x=m x:=by
  intro bs;induction bs with
  |nil=>intro m _;rfl
  |cons p r ih=>intro m h;obtain⟨n,u⟩:=p;unfold bindC;rw[ih fun z=>h (.tail _ z)];have hn:x≠n:=fun q=>h (q▸.head _);split<;>simp[hn]
 intro bs;induction bs with
 |nil=>intro m _ h;cases h
 |cons p r ih=>
  intro m nd h;obtain⟨n,u⟩:=p;rw[au,av] at nd;unfold bindC;rcases ao.mp h with e|h
  ·(injection e with q1 q2;subst q1;subst q2)
   rw[keep nd.1,if_neg hk];simp
  .exact ih nd.2 h
theorem xR{ps:List aV}(hY:∀p∈Y0,fd.scope.names.lookup p.1=ac .local/\(p.2≠.any->p∈ps.zip ds))(hc:∀n,∀p∈pW (cQ n fd.scope.names []) Yc,fd.scope.names.lookup p.1.1=ac .cell/\(cQ n fd.scope.names []).lookup p.1.1=ac p.1.2/\(p.2≠.any->(p.1.1,p.2)∈ps.zip ds))(nd:(Y0.map (·.1)).Nodup)(nz:((ps.zip vs).map (·.1)).Nodup)(inz:∀p∈ps.zip ds,∃v,(p.1,v)∈ps.zip vs/\Is G.prog G.w V p.2 v)(P:Eh G V Z0 s)(hh:CL A V)(x:InCallC s (fe fd s.heap.objs.size f).locals (bindL (fe fd s.heap.objs.size f).kindOf (ps.zip vs) fun _=>aq) (fe fd s.heap.objs.size f).cells (bindC (fe fd s.heap.objs.size f).kindOf (ps.zip vs) fun _=>aq) {s with heap:=h₁,toks:=tk}):b9 (cx G (sB A (fe fd s.heap.objs.size f) V Z0 s k hd)) V Y0 (ju fd.scope.names s.heap.objs.size Yc++Z0) {s with heap:=h₁,toks:=tk}:=by
 have hk_1:=x.toInCall.keep;have hns:h₁.Ns s.heap.objs.size _:=x.toInCall.ns;have nV:∀a,s.heap.objs.size<=a->V a=aq:=fun a ha=>P.nV ha;have zw:∀p∈ju fd.scope.names s.heap.objs.size Yc,∃q∈pW (cQ (s.heap.objs.size+1) fd.scope.names []) Yc,p=(q.1.2,MO.cell q.2):=fun p hp=>by refine ar (az.mp hp) fun q hq e=>?_;exact bq q hq e.symm
 have above:∀p∈ju fd.scope.names s.heap.objs.size Yc,s.heap.objs.size<p.1:=fun p hp=>by refine ar (zw p hp) fun q hq z2=>?_;subst z2;exact x.above q.1.1 q.1.2 (ge hq).1
 have cks:(ju fd.scope.names s.heap.objs.size Yc).map (·.1)=((cQ (s.heap.objs.size+1) fd.scope.names []).zip Yc).map (·.1.2):=by unfold ju;rw[bS];rfl
 have cnd:((ju fd.scope.names s.heap.objs.size Yc).map (·.1)).Nodup:=by
  rw[cks];have h1:((cQ (s.heap.objs.size+1) fd.scope.names []).map (·.2)).Nodup:=by unfold rU;rw[td];exact x.apart
  refine h1.sublist ?_;rw[show((cQ (s.heap.objs.size+1) fd.scope.names []).zip Yc).map (·.1.2)=(((cQ (s.heap.objs.size+1) fd.scope.names []).zip Yc).map (·.1)).map (·.2) from by rw[bS];rfl];refine Wp _ ?_;exact ni
 have mlt:∀p∈Z0,p.1<s.heap.objs.size:=fun p hp=>let ⟨_,e⟩:=(P.mu p hp).at;aR e;refine⟨(bq _ hns (fun p hp=>⟨(hY p hp).1,fun hn=>?_⟩)),nd,fun p hp=>?_,?_,fun a o e=>hk_1 _ _ (P.vh _ _ e),nV _ (aI _),fun p hp=>?_,fun a ha=>.inl ha,.refl _,P.b0,fun p hp=>?_,fun a o zz zz e=>(bq o (hk_1 _ _ e) (.refl o)),b8 hns.lt,hh,.refl s⟩
 .refine ar (inz p ((hY p hp).2 hn)) fun v hv iv=>?_
  exact bq v (Kn (hY p hp).1 nz hv) iv
 .rcases aJ.mp hp with hp|hp
  .refine ar (zw p hp) fun q hq z3=>?_
   subst z3;refine jM (hc _ q hq) fun c1 c2 c3=>?_;refine ar (x.cell q.1.1 q.1.2 c2) fun oc hoc hdc=>?_;refine bO oc _ hoc hdc (fun hn=>?_);refine ar (inz _ (c3 hn)) fun v hv iv=>?_;refine bq v (Ko ?_ nz hv) iv;intro z;have c1':(fe fd s.heap.objs.size f).kindOf q.1.1=ac .cell:=c1;rw[c1'] at z;cases z
  .refine aY ((P.mu p hp).at) fun o ho=>?_
   exact(P.mu p hp).mono (.refl _) ((hk_1 _ _ ho).trans ho.symm)
 .rw[aA]
  refine av.mpr ⟨fun q=>?_,?_⟩
  .rcases aJ.mp q with q|q
   .refine ar (az.mp q) fun p hp e=>?_
    exact absurd e (gU (above p hp))
   .refine ar (az.mp q) fun p hp e=>?_
    exact absurd e (bP (mlt p hp))
  .rw[bC]
   refine jT cnd P.nd (fun a ha b hb e=>?_);refine ar (az.mp ha) fun p hp e1=>?_;refine ar (az.mp hb) fun q hq e2=>?_;exact absurd (e1.trans (e.trans e2.symm)) (gU (gV (mlt q hq) (above p hp)))
 .rcases aJ.mp hp with hp|hp
  .exact nV _ (b8 (above p hp))
  .exact P.vm p hp
 .rcases aJ.mp hp with hp|hp
  .exact .inr (b8 (above p hp))
  .exact .inl (ax hp)
theorem Fe{E:fR->Vw->ay->aE->ay->Prop}{EE:Bx->aE->ay->Prop}(g:G.Ok)(ho:G.K.lookup f=ac o)(hdata:o.data=.func fd)(hb:fd.body=.stmts body)(hco:fd.scope.isCoroutine=ak)(hgen:fd.scope.isGenerator=ak)(hk:fd.scope.kind=.function)(hclo:fd.closure=[])(hgl:fd.globals=ce)(hbu:fd.builtins=d9)(hcd:nW G.K fd.code fd.qualname=ai){ps:List aV}(hlen:ds.length=ps.length)(hbi:∀vs,vs.length=ps.length->i8 fd ⟨vs,[]⟩=pure (ps.zip vs))(ndp:ps.Nodup)(hkind:∀n,∀x∈ps,fd.scope.names.lookup x=ac .local\/(fd.scope.names.lookup x=ac .cell/\((cQ n fd.scope.names []).lookup x).isSome=ai))(hY:∀p∈Y0,fd.scope.names.lookup p.1=ac .local/\(p.2≠.any->p∈ps.zip ds))(hc:∀n,∀p∈pW (cQ n fd.scope.names []) Yc,fd.scope.names.lookup p.1.1=ac .cell/\(cQ n fd.scope.names []).lookup p.1.1=ac p.1.2/\(p.2≠.any->(p.1.1,p.2)∈ps.zip ds))(nd:(Y0.map (·.1)).Nodup)(hE:∀A V s B,B=⟨A.deeper (fe fd s.heap.objs.size f),fe fd s.heap.objs.size f,s.heap.objs.size,V,Z0.map (·.1),s,k,hd⟩->B.Ok G->m7 A (Z0.map (·.1)) V s->∀e s',EE B e s'->bd (bf G.prog G.w) B.A (leaving B.env e) (fun zz s''=>E A V s e s'') (fun e' s''=>E A V s e' s'') s')(H:∀B,B.Ok G->B.env.frame=ac B.L->(∃l,B.A.frames=ac (B.env::l))->B.k=k->B.hd=hd->B.env=fe fd B.L f->B.m0=Z0.map (·.1)->EX G B (EE B) (eG body B.env) Y0 (ju fd.scope.names B.L Yc++Z0) (km Z0 R)):gj G hd (k+1) (.ref f) ds Z0 R E:=by
 intro A V s vs rm hcalm hh hstk P hi;have kb:∀b o,G.hb.get? b=ac o->s.heap.get? b=ac o:=fun b o e=>P.vh _ _ (P.b0 _ _ e);have hvl:vs.length=ps.length:=(bb hi).trans hlen;have nz:((ps.zip vs).map (·.1)).Nodup:=by rw[show(ps.zip vs).map (·.1)=ps from jQ (bv hvl.symm)];exact ndp
 have inz:∀p∈ps.zip ds,∃v,(p.1,v)∈ps.zip vs/\Is G.prog G.w V p.2 v:=rk hi;refine Oo rm.depth ((g.kin.keeps kb) _ _ ho) hdata (g.lim.keeps kb) (CQ (g.kin.keeps kb) hcd) hb (hbi vs hvl) hclo (fun x hx=>hkind _ _ (ge hx).1) (fun s_1 x=>?_) hco hgen hk;refine g7 x.toInCall.same fun h₁ tk z1=>?_;subst z1;have OB:(sB A (fe fd s.heap.objs.size f) V Z0 s k hd).Ok G:=q7 g ⟨hk,rfl,hgl,hbu⟩ rfl rm hcalm hstk;refine aQ (H _ OB rfl (ar hstk fun l hl _=>⟨l,e9 hl⟩) rfl rfl rfl rfl V _ (xR hY hc nd nz inz P hh x)) (fun fl s' z16=>iK z16 fun a Y' Z' V' S' k' i' z17=>eh (N2 hstk rfl S' i' z17) fun d Zr V'' v T hR hv h=>?_) fun e s'' x=>hE A V s _ rfl OB hstk e s'' x;rcases h with rfl|⟨rfl,rfl⟩<;>exact i5 d Zr V'' T hv hR
theorem QN(g:G.Ok)(ho:G.K.lookup f=ac o)(hdata:o.data=.func fd)(hb:fd.body=.stmts body)(hco:fd.scope.isCoroutine=ak)(hgen:fd.scope.isGenerator=ak)(hk:fd.scope.kind=.function)(hclo:fd.closure=[])(hgl:fd.globals=ce)(hbu:fd.builtins=d9)(hcd:nW G.K fd.code fd.qualname=ai){ps:List aV}(hlen:ds.length=ps.length)(hbi:∀vs,vs.length=ps.length->i8 fd ⟨vs,[]⟩=pure (ps.zip vs))(ndp:ps.Nodup)(hkind:∀n,∀x∈ps,fd.scope.names.lookup x=ac .local\/(fd.scope.names.lookup x=ac .cell/\((cQ n fd.scope.names []).lookup x).isSome=ai))(hY:∀p∈Y0,fd.scope.names.lookup p.1=ac .local/\(p.2≠.any->p∈ps.zip ds))(hc:∀n,∀p∈pW (cQ n fd.scope.names []) Yc,fd.scope.names.lookup p.1.1=ac .cell/\(cQ n fd.scope.names []).lookup p.1.1=ac p.1.2/\(p.2≠.any->(p.1.1,p.2)∈ps.zip ds))(nd:(Y0.map (·.1)).Nodup)(H:∀B,B.Ok G->B.k=k->B.hd=hd->B.env=fe fd B.L f->B.m0=Z0.map (·.1)->EX G B (fun zz zz=>False) (eG body B.env) Y0 (ju fd.scope.names B.L Yc++Z0) (km Z0 R)):gj G hd (k+1) (.ref f) ds Z0 R (fun zz zz zz zz zz=>False):=Fe (EE:=fun zz zz zz=>False) g ho hdata hb hco hgen hk hclo hgl hbu hcd hlen hbi ndp hkind hY hc nd (fun zz zz zz zz zz zz zz zz zz h=>h.elim) fun B O zz zz=>H B O
theorem MY(g:G.Ok)(ho:G.K.lookup f=ac o)(hdata:o.data=.func fd)(hb:fd.body=.stmts body)(hco:fd.scope.isCoroutine=ak)(hgen:fd.scope.isGenerator=ak)(hk:fd.scope.kind=.function)(hclo:fd.closure=[])(hgl:fd.globals=ce)(hbu:fd.builtins=d9)(hcd:nW G.K fd.code fd.qualname=ai){ps:List aV}(hlen:ds.length=ps.length)(hbi:∀vs,vs.length=ps.length->i8 fd ⟨vs,[]⟩=pure (ps.zip vs))(ndp:ps.Nodup)(hkind:∀n,∀x∈ps,fd.scope.names.lookup x=ac .local\/(fd.scope.names.lookup x=ac .cell/\((cQ n fd.scope.names []).lookup x).isSome=ai))(hY:∀p∈Y0,fd.scope.names.lookup p.1=ac .local/\(p.2≠.any->p∈ps.zip ds))(hc:∀n,∀p∈pW (cQ n fd.scope.names []) Yc,fd.scope.names.lookup p.1.1=ac .cell/\(cQ n fd.scope.names []).lookup p.1.1=ac p.1.2/\(p.2≠.any->(p.1.1,p.2)∈ps.zip ds))(nd:(Y0.map (·.1)).Nodup)(H:∀B,B.Ok G->qg B->B.k=k->B.hd=ak->B.env=fe fd B.L f->B.m0=Z0.map (·.1)->EX G B (fun e s'=>¬ok/\EF G B Z0 e s') (eG body B.env) Y0 (ju fd.scope.names B.L Yc++Z0) (km Z0 fun d Z'=>ok/\R d Z')):jg G (k+1) (.ref f) ds Z0 R ok:=
 Fe (EE:=fun B e s'=>¬ok/\EF G B Z0 e s') g ho hdata hb hco hgen hk hclo hgl hbu hcd hlen hbi ndp hkind hY hc nd
  (fun A V s B hB O hst e s' h=>aQ (vF (E':=fun zz zz=>False) hB rfl O hst h.2) (fun zz zz x=>⟨h.1,x⟩) fun zz zz x=>x.elim)
  fun B O h1 h2=>H B O ⟨h1,h2⟩
structure dg (env:Ou) (x:aV) (c:aW):Prop where
 kind:env.kindOf x=ac .cell
 at_:env.cells.lookup x=ac c
theorem Ao(O:B.Ok G)(h:dg B.env x c)(hm:(c,MO.cell d)∈Z)(hn:d≠.any)(hd:(x==("__debug__" : aV))=ak)(q:Q d Y Z):EV G B E (a9 (.Name x pos) B.env) Y Z Q:=by intro V s S;refine aM (S.mu _ hm) fun o xv ho hdt hv=>?_;refine ar (hv hn) fun v z1 iv=>?_;subst z1;exact Oe (wpAny_loadName_cell O.c.fn h.kind h.at_ (bq o ho hdt) ⟨d,Y,Z,V,S,.refl _,iv,q⟩) hd
theorem oQ{c:aW}{Q:Fl->aP->Mu->Prop}(O:B.Ok G)(h:EV G B E (a9 e B.env) Y Z fun d Y1 Z1=>∃d0 Z',dg B.env x c/\fF c (.cell d0) (.cell d) Z1 Z'/\Q .next Y1 Z')(hs:gO e (ac (.Name x xp)) pos.line B.env=pure ak):EX G B E (fc (.Assign [.Name x xp] e pos) B.env) Y Z Q:=by intro V s S;refine Rg (WP.use h S (fun v s_1 d Y1 Z1 V_1 S_1 k_1 i_1 z3=>aM z3 fun d0 Z' hc R q=>?_)) hs;refine aM (S_1.mu _ R.mem) fun o xv ho hdt hv=>?_;refine(KU O.c.fn hc.kind hc.at_ (bq o ho hdt) fun h' hc hs=>?_);refine ar hc ?_;clear hc;intro o' ho' hd';exact⟨.next,Y1,Z',V_1,S_1.repl (t:=s_1.toks) R hs (bO o' _ ho' hd' (fun zz=>(bq v rfl i_1))),k_1,rfl,q⟩
def VJ(P J:aP->Mu->Prop)(Q:Fl->aP->Mu->Prop):Fl->aP->Mu->Prop:=fun fl Y Z=>match fl with|.next=>P Y Z|.cont=>P Y Z|.brk=>J Y Z|.ret d=>Q (.ret d) Y Z
def WhI(G:G0)(B:Bx)(V:Vw)(I:Nat->aP->Mu->Prop)(n:Nat)(s:ay):Prop:=∃Y2 Z2 V',b9 (cx G B) V' Y2 Z2 s/\Kp V V'/\I n Y2 Z2
abbrev Zq(G:G0)(B:Bx)(E':aE->ay->Prop)(test:bZ)(body:List jW)(I:Nat->aP->Mu->Prop)(J:aP->Mu->Prop)(Q:Fl->aP->Mu->Prop):Prop:=∀n Y2 Z2,I n Y2 Z2->EB G B (fun zz zz=>False) (isTrue test B.env (a9 test B.env)) Y2 Z2 fun c Y3 Z3=>rR c (EX G B E' (eG body B.env) Y3 Z3 (VJ (fun Y Z=>∃m,m<n/\I m Y Z) J Q)) (J Y3 Z3)
theorem uG{Q:Fl->aP->Mu->Prop}(h0:I n Y Z)(S:b9 (cx G B) V Y Z s)(hstep:Zq G B E' test body I J Q)(hend:∀Y2 Z2,J Y2 Z2->Q .next Y2 Z2)(hx:∀e s_5,E' e s_5->wZ (bf G.prog G.w) B.A B.env (fun e s'=>T (.error e) s') e s_5)(hq:∀f fl Y4 Z4 V5 s_5,b9 (cx G B) V5 Y4 Z4 s_5->Kp V V5->wL G.prog G.w V5 fl f->Q fl Y4 Z4->T (.ok f) s_5):fJ (bf G.prog G.w) B.A (.whileLoop test body [] B.env) T s:=by
 refine codeAny_whileLoop (WhI G B V I) (fun n s' z=>bl z fun Y2 Z2 V' S' k' hI=>aQ (hstep n Y2 Z2 hI V' s' S') (fun c s_1 z=>iK z fun c' Y3 Z3 V_1 S_1 k_1 e h=>?_) fun _ _ x=>x.elim) n (i5 Y Z V S (.refl _) h0);subst e;cases c' with|false=>exact ja (hq .next .next _ _ _ _ S_1 (k'.trans k_1) rfl (hend _ _ (h.2 rfl)))|true=>
  refine aQ (h.1 rfl V_1 s_1 S_1) (fun f s_5 z3=>iK z3 fun fl Y4 Z4 V5 S_5 k_5 hf q=>?_) hx;have kk:=k'.trans (k_1.trans k_5);cases fl with
  |next=>obtain rfl:f=.next:=hf;exact ar q fun m hm hI=>⟨m,hm,Y4,Z4,V5,S_5,kk,hI⟩
  |cont=>obtain rfl:f=.cont:=hf;exact ar q fun m hm hI=>⟨m,hm,Y4,Z4,V5,S_5,kk,hI⟩
  |brk=>obtain rfl:f=.brk:=hf;exact hq .next .next _ _ _ _ S_5 kk rfl (hend _ _ q)
  |ret d=>refine ar hf fun v z4 hv=>?_;subst z4;exact hq (.ret v) (.ret d) _ _ _ _ S_5 kk (bq v rfl hv) q
theorem Hf{Q:Fl->aP->Mu->Prop}(O:B.Ok G)(I J n)(h0:I n Y Z)(hstep:Zq G B (fun zz zz=>False) test body I J Q)(hend:∀Y2 Z2,J Y2 Z2->Q .next Y2 Z2):EX G B E (fc (.While test body [] pos) B.env) Y Z Q:=fun V s S=>wpAny_While (uG h0 S hstep hend (fun _ _ x=>x.elim) fun f fl Y4 Z4 V5 s_5 S_5 k hf hq=>⟨fl,Y4,Z4,V5,S_5,k,hf,hq⟩)
theorem DQ{ok:Prop}{Z0:Mu}{Q:Fl->aP->Mu->Prop}(O:B.Ok G)(W:qg B)(I J n)(h0:I n Y Z)(hstep:Zq G B (fun e s'=>¬ok/\XF G B.A B.V0 Z0 B.s0 B.L .none e s') test body I J Q)(hend:∀Y2 Z2,J Y2 Z2->Q .next Y2 Z2):EX G B (fun e s'=>¬ok/\EF G B Z0 e s') (fc (.While test body [] pos) B.env) Y Z Q:=fun V s S=>wpAny_While (uG h0 S hstep hend (fun e s_5 x=>aY W.fr fun l hl=>Nb hl W.frame O.nf x.2 fun s'' y=>⟨x.1,.held y⟩) fun f fl Y4 Z4 V5 s_5 S_5 k hf hq=>⟨fl,Y4,Z4,V5,S_5,k,hf,hq⟩)
theorem WP.freeze1{Q:β->aP->Mu->Prop}{x:aV}(R:N8 a mo Z Z')(e:Rx mo=ac d)(hx:CK Y x (.ptr a))(P:pK Y x d Y')(n)(hn:B.m0=(Z'.map (·.1)).drop n)(h:WP G B E rel t Y' Z' Q):WP G B E rel t Y Z Q:=by
 intro V s S;refine cY R.split fun m1 m2 z3 z4=>?_;subst z3;subst z4;have hm:=S.mu (a,mo) (aK _ (.head _));refine aY hm.at fun o ho=>?_;have nx:a∉B.m0:=fun q=>by
  rw[hn] at q;have q:=Et q;have:=(av.mp S.dj).2;rw[aA,au,bC,av] at this;rw[aA] at q;rcases aJ.mp q with q|q;.exact this.2.2 _ q _ (.head _) rfl
  .exact this.2.1.1 q
 have S1:=S.freeze (S.big nx) ho;have kf:Kp V (fS V a o):=dc (S.vm (a,mo) (aK _ (.head _)));have S2:b9 (cx G B) (fS V a o) Y' (m1++m2) s:=by
  refine ar S1.m ?_;(try clear m);intro m hns he;refine⟨(bq m hns (fun p hp=>?_)),P.keys▸S1.nd,S1.mu,S1.dj,S1.vh,S1.vL,S1.vm,S1.fr,S1.v0,S1.b0,S1.mf,S1.pr,S1.sz,S1.hk,S1.rest⟩;rcases P.mem S.nd p hp with rfl|⟨h,_⟩
  .have:=he _ hx.mem
   refine⟨this.1,fun zz=>?_⟩;refine ar (this.2 (by intro q;injection q)) fun v hv iv=>?_;refine aZ (aT.mp iv) fun z5 zz=>?_;subst z5;exact bq _ hv (sI e hm ho kf (bT _ _ _))
  .exact he p h
 exact aQ (h _ _ S2) (fun zz zz=>qP.up kf) fun zz zz x=>x
theorem Nl{a b c:DV}{Q:aP->Mu->Prop}(O:B.Ok G)(hn:B.hd=ak)(h1:pK Y x a Y1)(h2:pK Y1 y b Y2)(h3:pK Y2 z c Y3)(q:Q Y3 Z):AS G B E (.Tuple [.Name x px,.Name y py,.Name z pz] k pos) (.tup [a,b,c]) Y Z Q:=by
 intro V s v S hi;refine d5 hi ?_;clear hi;intro t o vs n z1 y26;refine oS y26 ?_;clear y26;intro ho hc zz hd u1 y27;refine mq y27 ?_;clear y27;intro zz hv iu1 u2 r y28;refine sT y28 ?_;clear y28;intro z2 iu2 u3 r3 z3 iu3 z4;subst z1;subst z2;subst z3;subst z4;have hT:s.heap.IsTuple t vs:=(dK o (S.vh _ _ ho) hc n hd)
 have hsz:vs.size=3:=by rw[<-aF,hv];rfl
 rw[yJ];refine ah (cG ?_);show bd _ _ (unpack (.ref t) [(ak,assign (.Name x px) B.env),(ak,assign (.Name y py) B.env),(ak,assign (.Name z pz) B.env)]) _ _ _;unfold unpack;show bd _ _ (holding _ (rY (.ref t) 3 aq) >>= _) _ _ _;rw[<-hsz];refine ah (bG (b5 (fY (O.calm hn) hT fun h' hx hz=>?_)));rw[hv];have S1:b9 (cx G B) V Y Z {s with heap:=h'}:=(S.grow0 hx hz)
 refine ah (bG (ah (cG (c8 (gK O S1 iu1 h1 fun s2 S2=>?_)))));refine ah (bG (ah (cG (c8 (gK O S2 iu2 h2 fun s3 S3=>?_)))));refine ah (bG (ah (cG (c8 (gK O S3 iu3 h3 fun s4 S4=>?_)))));exact aH ⟨(),Y3,Z,V,S4,.refl _,trivial,q⟩
theorem wh{Q:Fl->aP->Mu->Prop}(h:EV G B E (a9 e B.env) Y Z fun d Y' Z'=>AS G B E (.Tuple [.Name x px,.Name y py,.Name z pz] k tp) d Y' Z' (Q .next))(h1:nS [.Tuple [.Name x px,.Name y py,.Name z pz] k tp] e pos.line B.env=pure ak)(h2:nT [.Tuple [.Name x px,.Name y py,.Name z pz] k tp] e B.env=pure aq):EX G B E (fc (.Assign [.Tuple [.Name x px,.Name y py,.Name z pz] k tp] e pos) B.env) Y Z Q:=by intro V s S;refine Assign_Tuple (WP.use h S (fun v s_1 d Y1 Z1 V_1 S_1 k_1 i_1 hA=>?_)) h1 h2;exact aQ (hA V_1 s_1 v S_1 i_1) (fun zz s_2 z6=>iK z6 fun zz Y2 Z2 V_2 S_2 k_2 zz q=>⟨.next,Y2,Z2,V_2,S_2,k_1.trans k_2,rfl,q⟩) fun zz zz x=>x
def IQ(G:G0)(ds:List DV)(V:Vw)(o:uD):Prop:=∃l,o.cls=.type "list_reverseiterator"/\o.data=.fields #[.ref l,fb ((ds.length:Int)-1)]/\Is G.prog G.w V (.lst ds) (.ref l)
theorem su(ds):∀V V' o,Kp V V'->IQ G ds V o->IQ G ds V' o:=fun V V' o k z7=>bp z7 fun l a b c=>(cB l a b (c.mono k))
theorem xB(O:B.Ok G)(q:∀a,Q (.ptr a) Y ((a,.prV (IQ G ds) (su ds))::Z)):cI G B E (.type "reversed") [.lst ds] Y Z Q:=by
 intro V s vs S hi;refine aM (aG.mp hi) ?_;clear hi;intro v1 r1 z8 i1 hi;subst z8;obtain rfl:=be.mp hi;have i1':=i1;refine bl (LS.openX (.inl rfl) S i1) fun a vs n z9 ho hL=>?_;subst z9;refine call_reversed_list (items:=vs) (dK _ ho rfl n rfl) ?_;have hsz:vs.size=ds.length:=by rw[<-aF,bb hL]
 have S1:=S.allocMu O.c (revObj a ((vs.size:Int)-1)) (.prV (IQ G ds) (su ds)) rfl ⟨_,aN _ rfl,a,rfl,by rw[hsz];rfl,i1'⟩;exact⟨_,Y,_,V,S1,.refl _,aT.mpr ⟨rfl,rfl⟩,q _⟩
theorem Jj(O:B.Ok G)(hn:B.hd=ak):qK G B E (.ptr a) ds.reverse Y ((a,.prV (IQ G ds) (su ds))::Z) Z:=by
 intro V s v P S hi q;refine aZ (aT.mp hi) fun z10 zz=>?_;subst z10;refine wt (S.mu _ (.head _)) fun o ho l hc hd il=>?_;have il':=il;refine bE il' ?_;clear il';intro l' ol vs n e h1 h2 h3 h4 h5;(injection e with e;subst e);have hlen:vs.size=ds.length:=by rw[<-aF,bb h5]
 have L:∀{V':Vw}{s':ay},Kp V V'->Kp V' s'.heap.get?->s'.heap.IsList l vs:=fun k k'=>(dK ol (k' _ _ (k _ _ h1)) h2 n h4)
 refine KW (cB o ho hc hd) ?_;let own:Nat->Mu:=fun i=>[(a,.pr fun o=>o.cls=.type "list_reverseiterator"/\o.data=.fields #[.ref l,fb ((ds.length:Int)-1-(i:Nat))])]
 have S2:b9 (cx G B) V Y (own 0++Z) s:=S.turn (t:=s.toks) (Z1:=[]) (mo':=.pr fun o=>o.cls=.type "list_reverseiterator"/\o.data=.fields #[.ref l,fb ((ds.length:Int)-1-((0:Nat):Int))]) (.refl _ _) (cB o ho hc (by rw[hd];simp));refine q _ own _ V S2 (.refl _) ⟨?_,?_,fun k S' q'=>by refine bp (S'.mu _ (.head _)) fun oi ho hc hdt=>?_;exact KW (cB oi ho hc hdt) q'⟩
 .intro i d hd V' Y' Z' s' P E' k S' q'
  have hi:i<ds.length:=by have:=(cq.mp hd).1;rwa[eC] at this
  rw[List.getElem?_reverse hi] at hd;refine ar (ln h5 hd) fun u hu iu=>?_;refine bp (S'.mu _ (.head _)) fun oi ho hc hdt=>?_;have e:((ds.length:Int)-1-(i:Nat))=((ds.length-1-i:Nat):Int):=by exact YO hi
  have hdt':oi.data=.fields #[.ref l,fb ((ds.length-1-i:Nat):Int)]:=by rw[<-e];exact hdt
  refine wpAny_pyNext_rev_item (cB oi ho hc hdt') (L k S'.vh) (by simpa using hu) fun h' hi' hs'=>q' u _ V' (S'.turn0 (mo':=.pr fun o=>o.cls=.type "list_reverseiterator"/\o.data=.fields #[.ref l,fb ((ds.length:Int)-1-((i+1:Nat):Int))]) hs' ?_) (.refl _) (iu.mono k);refine bp hi' ?_;clear hi';intro o' a1 a2 a3;exact cB o' a1 a2 (by rw[a3,show((ds.length-1-i:Nat):Int)-1=(ds.length:Int)-1-((i+1:Nat):Int) from by exact YN hi])
 .intro V' Y' Z' s' P E' k S' q'
  refine bp (S'.mu _ (.head _)) fun oi ho hc hdt=>?_;have hdt':oi.data=.fields #[.ref l,fb (-1)]:=by rw[hdt,eC,show(ds.length:Int)-1-(ds.length:Nat)=-1 from by exact YM]
  exact b5 (wpAny_pyNext_rev_end (O.calm hn) (cB oi ho hc hdt') fun h' hx' hz=>q' _ V' (S'.gone hx' hz) (.refl _))
theorem GB(O:B.Ok G)(L:LS Z d l)(q:Q (.bool l.isEmpty) Y Z):O2 G B E (Is G.prog G.w) (bi .Eq) d (.lst []) Y Z Q:=by
 intro V s a b S ia ib;refine bl (L.openX S ia) fun t vs n z14 ht hL=>?_;subst z14;refine bl (LS.openX (.inl rfl) S ib) fun u ws m z15 hu hM=>?_;subst z15;have e1:vs.size=l.length:=by rw[<-aF,bb hL]
 have e2:ws.size=0:=by rw[<-aF,bb hM];rfl
 cases l with|nil=>refine SeqAt.eq_listAt (items:=vs) (items2:=ws) (e:=fun zz=>ai) (dK _ ht rfl n rfl) (dK _ hu rfl m rfl) (e1.trans e2.symm) (by have:=O.line;exact BB this) (fun j h1=>absurd h1 (by rw[e1];exact iL _)) ?_;exact⟨.bool ai,Y,Z,V,S,.refl _,aT.mpr ⟨by rw[e1];rfl,rfl⟩,q⟩|cons x r=>refine SeqAt.eq_list_lengthsAt (items:=vs) (items2:=ws) (dK _ ht rfl n rfl) (dK _ hu rfl m rfl) (by rw[e1,e2];simp) (by have:=O.line;exact BB this) ?_;exact⟨.bool ak,Y,Z,V,S,.refl _,aT.mpr ⟨rfl,rfl⟩,q⟩
theorem jt{K:Type}[DecidableEq K][DK K](O:B.Ok G)(q:Q (DK.dv ([]:List (K×DV))) Y Z):EV G B E (a9 (.Dict [] [] pos) B.env) Y Z Q:=by intro V s S;refine RD ?_;have hD:(s.heap.push {cls:=.type "dict",data:=.dict #[]}).DictOf (DK.knd G.prog G.w (K:=K)) s.heap.objs.size []:=jk s.heap;refine ar (bc.mp hD) fun o' ho' hd'=>?_;have S1:=S.alloc O.c {cls:=.type "dict",data:=.dict #[]} rfl;have e:(s.heap.push {cls:=.type "dict",data:=.dict #[]}).get? s.heap.objs.size=ac {cls:=.type "dict",data:=.dict #[]}:=aN _ rfl;rw[e] at ho';(injection ho' with ho';subst ho');exact⟨_,Y,Z,_,S1,dc S.fresh,DK.shut (bT _ _ _) (yb O S) hd' .nil,q⟩
theorem zx(O:B.Ok G)(q:Q (.bool l.isEmpty) Y Z):O2 G B E (Is G.prog G.w) (bi .Eq) (.tup l) (.tup []) Y Z Q:=by
 intro V s a b S ia ib;refine eD (ko S ia) fun t vs n z1 zz ht hL=>?_;subst z1;refine eD (ko S ib) fun u ws m z2 zz hu hM=>?_;subst z2;have e1:vs.size=l.length:=by rw[<-aF,bb hL]
 have e2:ws.size=0:=by rw[<-aF,bb hM];rfl
 refine SeqAt.eq_tupleAt (items:=vs) (items2:=ws) (e:=fun zz=>ai) (dK _ ht rfl n rfl) (dK _ hu rfl m rfl) (by have:=O.line;exact BB this) (fun j h1 h2=>absurd h2 (by rw[e2];exact iL _)) ?_;refine⟨.bool l.isEmpty,Y,Z,V,S,.refl _,aT.mpr ⟨?_,rfl⟩,q⟩;rw[e1,e2];cases l<;>simp
theorem lf{K:Type}[DecidableEq K][DK K]{l:List (K×DV)}(O:B.Ok G)(D:DS Z d l)(S:b9 (cx G B) V Y Z s)(i:Is G.prog G.w V d v):∃a kvs,v=.ref a/\(a==fQ)=ak/\s.heap.DictOf (DK.knd G.prog G.w (K:=K)) a kvs/\kvs.length=l.length:=by refine bU (D.open S i) fun a o kvs z3 ho lo hd hk=>?_;subst z3;exact dw a kvs rfl lo (bc.mpr (bq o ho hd)) hk.length
theorem By{K:Type}[DecidableEq K][DK K]{l:List (K×DV)}(O:B.Ok G)(D:DS Z d l)(q:Q (.bool (!l.isEmpty)) Y Z):O2 G B E (Is G.prog G.w) (bi .NotEq) d (DK.dv ([]:List (K×DV))) Y Z Q:=by
 intro V s a b S ia ib;refine bB (lf O D S ia) fun a ka z4 la ha ea=>?_;subst z4;refine bB (lf (l:=([]:List (K×DV))) O (.inl rfl) S ib) fun b kb z5 lb hb eb=>?_;subst z5;refine keq_ne (r:=ai) la lb ha hb (by have:=O.line;exact BB this) (fun h=>?_) ⟨_,Y,Z,V,S,.refl _,aT.mpr ⟨rfl,rfl⟩,?_⟩
 .rw[eb] at h
  obtain rfl:=fO.mp h;exact .nil
 .have e:(!(ka.length==kb.length&&ai))=!l.isEmpty:=by rw[ea,eb];cases l<;>simp
  rw[e];exact q
theorem BA{K:Type}[DecidableEq K][DK K]{l:List (K×DV)}(O:B.Ok G)(D:DS Z d l)(q:Q (.bool l.isEmpty) Y Z):O2 G B E (Is G.prog G.w) (bi .Eq) d (DK.dv ([]:List (K×DV))) Y Z Q:=by
 intro V s a b S ia ib;refine bB (lf O D S ia) fun a ka z6 la ha ea=>?_;subst z6;refine bB (lf (l:=([]:List (K×DV))) O (.inl rfl) S ib) fun b kb z7 lb hb eb=>?_;subst z7;refine keq_eq (r:=ai) la lb ha hb (by have:=O.line;exact BB this) (fun h=>?_) ⟨_,Y,Z,V,S,.refl _,aT.mpr ⟨rfl,rfl⟩,?_⟩
 .rw[eb] at h
  obtain rfl:=fO.mp h;exact .nil
 .have e:(ka.length==kb.length&&ai)=l.isEmpty:=by rw[ea,eb];cases l<;>simp
  rw[e];exact q
theorem Gl{K:Type}[DecidableEq K]{l:List (K×DV)}{k:K}(h:ku l k=aq):xj l k=l:=by unfold ku at h;unfold xj;rw[AQ,kX] at h;rw[List.filter_eq_self];intro a ha;have:=h a ha;simpa using this
theorem fF.same(R:fF a mo mo Z Z'):Z'=Z:=by induction R with|head=>rfl|tail _ ih=>rw[ih]
theorem D9{K:Type}[DecidableEq K][DK K]{l:List (K×DV)}{k:K}{dflt:DV}(R:fF a (DK.mo l) (DK.mo (xj l k)) Z Z')(hl:l.length<=1000000)(q:Q ((ku l k).getD dflt) Y Z'):cI G B E (.builtin "dict.pop") ([.ptr a]++[DK.key k,dflt]) Y Z Q:=by
 intro V s vs S hi;refine aM (aG.mp hi) ?_;clear hi;intro v zz z8 iv hi;subst z8;refine aM (aG.mp hi) ?_;clear hi;intro kv zz z9 ik hi;subst z9;refine aM (aG.mp hi) ?_;clear hi;intro dv zz z10 idf hi;subst z10;obtain rfl:=be.mp hi;refine aZ (aT.mp iv) fun z11 zz=>?_;subst z11;refine bB (DK.moOpen (S.mu _ R.mem)) fun o kvs ho lo hd hk=>?_;have hD:s.heap.DictOf (DK.knd G.prog G.w (K:=K)) a kvs:=bc.mpr (bq o ho hd);cases h:ku l k with
 |some d=>refine ar (hk.some h) fun u hu iu=>?_;rw[h] at q;refine qj nK hD.typeIs mJ (xG _ _ _) (K3 _ a (DK.is ik) [dv] (.inr ⟨_,rfl⟩) (DK.part ik)) (dw kvs u hD (by rw[hk.length];exact ae hl (by decide)) hu (fun h' hD' hs=>?_));refine ar (bc.mp hD') fun o' ho' hd'=>?_;exact⟨d,Y,Z',V,S.repl R hs (DK.moShut ho' lo hd' hk.rem),.refl _,iu,q⟩
 |none=>
  rw[h] at q;obtain rfl:Z'=Z:=by rw[Gl h] at R;exact R.same
  exact qj nK hD.typeIs mJ (xG _ _ _) (meets_dict_pop_default _ a (DK.is ik) lo (DK.part ik) dv) (cB kvs hD (hk.none h) ⟨dflt,Y,_,V,S.sat_toks _,.refl _,idf,q⟩)
theorem G5{x:fz}(r:qM h v x as)(hx:a6 x=ai){A:fR}(hu:A.units+100<K6)(hs:s.heap=h):∃e,∀{vs:List aE}{xs:List fz}{bs:List aW},CT h vs xs bs->(∀y∈xs,a6 y=ai)->(∀y∈vs,nJ A.in1 s y v (e y))/\vs.map e=xs.map fun y=>a8 y x:=by
 classical
 refine⟨fun y=>decide (∃d as,qM h y d as/\d.canLay0=ai/\a8 d x=ai),fun {vs xs bs} ra hsx=>?_⟩;have key:∀y d as,qM h y d as->d.canLay0=ai->decide (∃d as,qM h y d as/\d.canLay0=ai/\a8 d x=ai)=a8 d x:=fun y d as rd hd=>by cases q:a8 d x with|true=>exact decide_eq_true (bO d as rd hd q)|false=>refine decide_eq_false ?_;rintro ⟨d',as',rd',hd',q'⟩;rw[yK d d' y as as' hd rd rd'] at q;rw[q] at q';injection q'
 constructor
 .intro y hy
  refine cY ((tn ra).2 y hy) fun d as hd rd=>?_;show nJ A.in1 s y v (decide (∃d as,qM h y d as/\d.canLay0=ai/\a8 d x=ai));rw[key y d as rd (nI (hsx d hd))];subst hs;exact keq_at rd r (hsx d hd) hx (by show A.units+1+64<K6;exact om5 hu)
 .exact yB key ra hsx
theorem D7{x:fz}{j:Nat}(O:B.Ok G)(L:LS Z d l)(P:pd d'=ac x)(hl:Bt l=ac xs)(hx:a6 x=ai)(hxs:∀y∈xs,a6 y=ai)(hj:j<1000000)(hit:(xs.map fun y=>a8 y x)[j]?=ac ai)(hno:∀m,m<j->(xs.map fun y=>a8 y x)[m]?=ac ak)(q:Q (.int j) Y Z):cI G B E (.builtin "list.index") ([d]++[d']) Y Z Q:=by
 intro V s vs S hi;refine aM (aG.mp hi) ?_;clear hi;intro v1 zz z12 i1 hi;subst z12;refine aM (aG.mp hi) ?_;clear hi;intro v2 zz z13 i2 hi;subst z13;obtain rfl:=be.mp hi;refine aY (lZ S.vh d' x v2 P i2) fun as ra=>?_;refine bl (L.openX S i1) fun t vs n z14 ht hL=>?_;subst z14;refine aY (iE S.vh l xs _ hl hL) fun bs rb=>?_;refine aY (G5 ra hx (A:=B.A) O.line rfl) fun e he=>?_;refine aZ (he rb hxs) fun h1 h2=>?_;rw[<-h2] at hit hno;have at_:∀{m:Nat}{b:Bool},(vs.toList.map e)[m]?=ac b->∃h,e vs[m]=b:=fun {m b} h=>by rw[bj] at h;refine ar (aD.mp h) fun y hy e'=>?_;rw[di] at hy;obtain⟨hm,hy⟩:=kS.mp hy;exact⟨hm,by rw[hy];exact e'⟩
 obtain⟨hj',hit'⟩:=at_ hit;refine qk PySem.F.slot_list_index (bq _ ht rfl) PySem.F.entry_list_index (PySem.F.args_list_index_2 _ _) (SeqAt.list_indexAt t vs n aq #[] v2 e j hj' (YL hj) hit' (fun m hm hmj=>(at_ (hno m hmj)).2)) ⟨ht,fun y hy=>h1 y (by simpa using hy),_,Y,Z,V,S.sat_toks _,.refl _,bA.mpr ⟨_,rfl⟩,q⟩
theorem MD{P:Prop}{sub:List aE}{newId:String}{Y':aP}{Z':Mu}{Q:Fl->aP->Mu->Prop}(O:B.Ok G)(W:qg B)(F:Ek G 59 nm q N bs bm sub k0 k1 k2 k3 k5 newId)(hg:bY G x (.ptr 59))(hx:B.env.kindOf x=ac .globalImplicit)(hdbg:(x==("__debug__" : aV))=ak)(h:∀B_1,B_1.Ok G->B_1.env=B.env->B_1.k=B.k->B_1.hd=B.hd->B_1.m0=Z.map (·.1)->EX G B_1 (fun e s'=>P/\CE G B_1 Y' Z' e s') (eG body B_1.env) Y Z Q)(hc:P->∀B',B'.Ok G->B'.env=B.env->B'.k=B.k->B'.hd=ai->B'.m0=Z'.map (·.1)->EX G B' (fun zz zz=>False) (eG (b_0::suite) B'.env) Y' Z' Q):EX G B E (fc (.Try body [.ExceptHandler (ac (.Name x xp)) aq (b_0::suite) hp] [] [] pos) B.env) Y Z Q:=by
 by_cases hP:P;.exact JF O W F hg hx hdbg (fun B_1 a b c d e=>(h B_1 a b c d e).exc fun zz zz x=>x.2) (hc hP)
 intro V s S;have O_1:(CI B V Z s).Ok G:=O.re S;refine RC (aQ (h (CI B V Z s) O_1 rfl rfl rfl rfl V s S.rebase) (fun f s_1 z1=>iK z1 fun fl Y1 Z1 V_1 S_1 k_1 hf hq=>?_) fun e s_1 hce=>absurd hce.1 hP);have S_1:=S.unbase S_1;cases fl with
 |next=>obtain rfl:f=.next:=hf;exact ja ⟨.next,Y1,Z1,V_1,S_1,k_1,rfl,hq⟩
 |cont=>obtain rfl:f=.cont:=hf;exact⟨.cont,Y1,Z1,V_1,S_1,k_1,rfl,hq⟩
 |brk=>obtain rfl:f=.brk:=hf;exact⟨.brk,Y1,Z1,V_1,S_1,k_1,rfl,hq⟩
 |ret d=>refine ar hf ?_;clear hf;intro v z2 hv;subst z2;exact⟨.ret d,Y1,Z1,V_1,S_1,k_1,(bq v rfl hv),hq⟩
theorem zI:Of (.type "list") (aa "keys")=pure aq:=by rw[VY,KG];kernel_rfl
theorem vG{Q:Option aE->ay->Prop}(hx:s.heap.get? a=ac {cls:=.type "list",dict:=aq,data:=.seq xs k,slots:=#[]})(hA:A.handled=aq)(h:∀h' tk e,Heap.NewExcOf s.heap h' e "AttributeError"->Q aq {s with heap:=h',toks:=tk}):bd (bf prog w) A (w0 (.ref a) (aa "keys")) Q E s:=by
 obtain⟨hp,g,d,tk,os⟩:=s;have hT:∀tk',(⟨hp,g,d,tk',os⟩:ay).TypeIs (.ref a) "list":=fun zz=>(bq _ hx rfl)
 have f1:=sub_AttributeError;have f3:=ji.lookup;have f4:=ji.bind (.ref a);have f5:=am_list_getattr_none;unfold w0 getAttrBy? RI;repeat(any_goals (first|assumption|exact hT _|((with_reducible show bd _ _ (call (Value.builtin "list.__getattribute__") _ _) _ _ _);refine qk ji (hT _) am_entry_list_getattribute (PySem.F.args_list_getattribute_2 _ _) (meets_getattribute_miss_list a xs k #[] (aa "keys") _ zI (by decide +kernel)) (jT hx hA (fun h' tk' e hx'=>?_)))|wp_step))
 refine g7 hx'.there fun t' u' he=>?_;show bd _ _ (On _ _ _ _ _ _ _) _ _ _;unfold On;repeat(any_goals (first|assumption|wp_step))
 exact h _ _ _ hx'.of
theorem ly:W5 table "dict.update.loop" = ac gT.«dict.update.loop»:=RK (by kernel_rfl)
theorem gi:plainId "dict.update.loop" = ai:=by decide +kernel
theorem uk{x:DV}(O:B.Ok G)(hn:B.hd=ak)(q:Q (.sdic [(k,x)]) Y Z):cI G B E (.type "dict") [.lst [.tup [.str k,x]]] Y Z Q:=by
 intro V s vs S hi;refine aM (aG.mp hi) ?_;clear hi;intro v1 r1 z1 i1 hi;subst z1;obtain rfl:=be.mp hi;refine bl (LS.openX (.inl rfl) S i1) fun l ls n z2 hl hL=>?_;subst z2;have hA:=O.calm hn;refine callType_codes (Q₁:=fun obj s_1=>obj=.ref s.heap.objs.size/\s_1={s with heap:=s.heap.push {cls:=.type "dict",data:=.dict #[]}}) PySem.F.kt_called_dict (PySem.F.kt_typeCall_dict_1 _) PySem.F.entry_dict_init (kt_code_dict_new _ ⟨rfl,rfl⟩) ?_;rintro obj s_1 ⟨rfl,rfl⟩;have hnew:(s.heap.push {cls:=.type "dict",data:=.dict #[]}).DictOf (DK.knd G.prog G.w (K:=aV)) s.heap.objs.size []:=jk s.heap;refine ar (bc.mp hnew) fun o0 ho0 hd0=>?_;have S1:b9 (cx G B) V Y ((s.heap.objs.size,.sdic [])::Z) {s with heap:=s.heap.push {cls:=.type "dict",data:=.dict #[]}}:=S.allocMu O.c _ _ rfl (DK.moShut (K:=aV) (l:=[]) ho0 (yb O S) hd0 .nil);refine jT hnew.typeIs (PySem.F.args_dict_init_2 _ _) ?_;unfold gT.«dict.__init__»;refine ah ?_;unfold Wt;refine ah (wpAny_notOrdered_dict hnew.typeIs ?_);show bd _ _ (pure (s.heap.objs.size,[cs l])) _ _ _;refine aH ?_;show bd _ _ (tT "dict.__init__" s.heap.objs.size (.ref l) [] .none) _ _ _;unfold tT;have hl1:(s.heap.push {cls:=.type "dict",data:=.dict #[]}).get? l=ac {cls:=.type "list",dict:=aq,data:=.seq ls n,slots:=#[]}:=aX _ hl;refine ah (wX (T:="list") (bq _ hl1 rfl) ?_);rw[if_pos (by decide)];refine ah (b5 (vG hl1 hA fun h' tk e X hz=>?_));rw[if_pos (show(aq:Option aE).isNone=ai from rfl)];refine ah (qi ?_);have S2:=S1.grow0 (t:=tk) (fun b o zz e'=>X.keeps b o e') hz;have hl2:=X.keeps _ _ hl1;refine ah (wY (items:=ls) (dK _ hl2 rfl n rfl) ?_);have S3:=S2.allocMu O.c {cls:=.type "list_iterator",data:=.fields #[.ref l,.int 0 0]} (.pr fun o=>o.cls=.type "list_iterator"/\o.data=.fields #[.ref l,.int 0 0]) rfl (cB _ (aN _ rfl) rfl rfl);have hl3:(h'.push {cls:=.type "list_iterator",data:=.fields #[.ref l,.int 0 0]}).get? l=ac {cls:=.type "list",dict:=aq,data:=.seq ls n,slots:=#[]}:=aX _ hl2;refine aH ⟨nU gi _,jb ly ?_⟩;rw[jS gi _];refine aM (aG.mp hL) fun u rs e1 iu hr=>?_;obtain rfl:=be.mp hr;refine eD (ko S3 iu) fun ta us m z3 zz hta hU=>?_;subst z3;refine aM (aG.mp hU) ?_;clear hU;intro kv r1 e2 ik hU;refine aM (aG.mp hU) ?_;clear hU;intro xv r2 z4 ix hU;subst z4;obtain rfl:=be.mp hU;unfold gT.«dict.update.loop»;refine ah (HW (i:=0) (l:=l) (items:=ls) (cB _ (aN _ rfl) rfl rfl) (dK _ hl3 rfl n rfl) (x:=.ref ta) (by rw[<-di,e1];rfl) fun h4 hi4 hs4=>?_);have S4:=S3.turn0 (t:=tk) (mo':=.pr fun o=>o.cls=.type "list_iterator"/\o.data=.fields #[.ref l,.int (0+1:Nat) 0]) hs4 hi4;have nlI:l≠h'.objs.size:=bP (aR hl2);have ntI:ta≠h'.objs.size:=fun q=>by subst q;rw[aN _ rfl] at hta;exact absurd (congrArg (fun o:Option uD=>o.map (·.cls)) hta) (by simp)
 have hl4:=(hs4.2 l nlI).trans hl3;have hta4:=(hs4.2 ta ntI).trans hta;refine ah (bG (ah (wpAny_tryCatch ?_)));unfold Wu;refine ah (wX (T:="tuple") (bq _ hta4 rfl) ?_);rw[if_pos (by decide)];refine ah (WS hta4 rfl ?_);refine aH ?_;rw[show((ac us).getD #[]).toList=[kv,xv] from e2];refine bB (DK.moOpen (K:=aV) (l:=[]) (S4.mu (s.heap.objs.size,.sdic []) (.tail _ (.head _)))) fun o4 kvs4 ho4 lo4 hd4 hk4=>?_;have hD4:h4.DictOf (DK.knd G.prog G.w (K:=aV)) s.heap.objs.size _:=bc.mpr (bq o4 ho4 hd4);have e0:=hk4.length;refine bG (wpAny_dictSet_pairs (DK.is (K:=aV) ik) hD4 (fun h5 hD5 hs5=>?_) (hsz:=by rw[e0];exact a7 _));refine ar (bc.mp hD5) fun o5 ho5 hd5=>?_;have S5:=b9.turn (t:=tk+1) (mo':=.sdic [(k,x)]) (Z1:=[_]) S4 hs5 (DK.moShut (K:=aV) (l:=[(k,x)]) ho5 lo4 hd5 (hk4.put ix));have nD:l≠s.heap.objs.size:=bP (aR hl);have hl5:=(hs5.2 l nD).trans hl4;refine bp (S5.mu _ (.head _)) fun oi hoi hci hdi=>?_;refine aH ⟨nU gi _,jb ly ?_⟩;rw[jS gi _];unfold gT.«dict.update.loop»;refine ah (b5 (wpAny_pyNext_list_end (A:=B.A.in1.in1) (i:=1) (l:=l) (items:=ls) hA (cB oi hoi hci hdi) (dK _ hl5 rfl n rfl) (by rw[<-di,e1];rfl) fun h6 hx6 hz6=>?_));have S6:=S5.gone (t:=tk+1) hx6 hz6;refine aY ((S6.mu _ (.head _)).at) fun oD hoD=>?_;have S7:=S6.freeze (Z1:=[]) S.sz hoD;refine ah (aH (aH ⟨rfl,_,Y,Z,_,S7,dc (S6.vm _ (.head _)),?_,q⟩));exact sI (mo:=.sdic [(k,x)]) rfl (S6.mu _ (.head _)) hoD (dc (S6.vm _ (.head _))) (bT _ _ _)
theorem pw{i j:Int}(h0:j≠0)(hj:j.natAbs<1073741824)(q:Q (.int (i.fdiv j)) Y Z):O2 G B E (Is G.prog G.w) (fK .FloorDiv) (.int i) (.int j) Y Z Q:=by intro V s a b S ia ib;refine aY (bA.mp ia) fun t z2=>?_;subst z2;refine aY (bA.mp ib) fun u z1=>?_;subst z1;exact floordiv_int h0 ⟨_,Y,Z,V,S.sat_toks _,.refl _,bA.mpr ⟨_,rfl⟩,q⟩ (.inl (PyProof.noPylong_small hj))
theorem lc{i j:Int}(h0:j≠0)(q:Q (.int (i.fmod j)) Y Z):O2 G B E (Is G.prog G.w) (fK .Mod) (.int i) (.int j) Y Z Q:=by intro V s a b S ia ib;refine aY (bA.mp ia) fun t z4=>?_;subst z4;refine aY (bA.mp ib) fun u z3=>?_;subst z3;exact mod_int' h0 ⟨_,Y,Z,V,S.sat_toks _,.refl _,bA.mpr ⟨_,rfl⟩,q⟩
theorem jJ{i j:Int}(h:i.natAbs<2 ^ 60):Xb i j:=by
 refine IntMulOk.of_left ?_;unfold Xe;split;.exact YK
 .rename_i h0
  have h1:i≠0:=by simpa using h0
  have:=(Nat.log2_lt (YJ h1:i.natAbs≠0)).mpr h;exact I3 this rfl
theorem sy{i j:Int}(h:Xb i j)(q:Q (.int (i*j)) Y Z):O2 G B E (Is G.prog G.w) (fK .Mult) (.int i) (.int j) Y Z Q:=by intro V s a b S ia ib;refine aY (bA.mp ia) fun t z6=>?_;subst z6;refine aY (bA.mp ib) fun u z5=>?_;subst z5;exact mul_int ⟨_,Y,Z,V,S.sat_toks _,.refl _,bA.mpr ⟨_,rfl⟩,q⟩ h
theorem Pg{i j:Int}(hn:0<=j)(hn2:j<=1000000)(ha:i.natAbs<2 ^ 64)(q:Q (.int (i ^ j.toNat)) Y Z):O2 G B E (Is G.prog G.w) (fK .Pow) (.int i) (.int j) Y Z Q:=by intro V s a b S ia ib;refine aY (bA.mp ia) fun t z8=>?_;subst z8;refine aY (bA.mp ib) fun u z7=>?_;subst z7;exact pow_int_small hn hn2 ha ⟨_,Y,Z,V,S.sat_toks _,.refl _,bA.mpr ⟨_,rfl⟩,q⟩
theorem Kl{i:Int}(q:Q (.int (if i<0 then -i else i)) Y Z):cI G B E (.builtin "abs") [.int i] Y Z Q:=by intro V s vs S hi;refine aM (aG.mp hi) ?_;clear hi;intro v1 r1 z9 i1 hi;subst z9;obtain rfl:=be.mp hi;refine aY (bA.mp i1) fun t z10=>?_;subst z10;exact call_abs_int fun u tk=>⟨_,Y,Z,V,S.sat_toks _,.refl _,bA.mpr ⟨_,rfl⟩,q⟩
theorem Kk{i:Int}(q:Q (.int i) Y Z):cI G B E (.type "int") [.int i] Y Z Q:=by intro V s vs S hi;refine aM (aG.mp hi) ?_;clear hi;intro v1 r1 z11 i1 hi;subst z11;obtain rfl:=be.mp hi;refine aY (bA.mp i1) fun t z12=>?_;subst z12;exact call_int_int ⟨_,Y,Z,V,S,.refl _,bA.mpr ⟨_,rfl⟩,q⟩
theorem oX(L:LS Z d l)(hl:l.length<=1000000)(q:Q (.int l.length) Y Z):cI G B E (.builtin "len") [d] Y Z Q:=by
 intro V s vs S hi;refine aM (aG.mp hi) ?_;clear hi;intro v1 r1 z13 i1 hi;subst z13;obtain rfl:=be.mp hi;refine bl (L.openX S i1) fun t xs n z14 ht hL=>?_;subst z14;have e:xs.size=l.length:=by rw[<-aF,bb hL]
 refine call_len_list (items:=xs) (dK _ ht rfl n rfl) (by rw[e];exact T3 hl) ?_;rw[e];exact⟨_,Y,Z,V,S.sat_toks _,.refl _,bA.mpr ⟨_,rfl⟩,q⟩
def sk(lo hi:Option Int)(o:uD):Prop:=o.cls=.type "slice"/\∃vl vu,o.data=.fields #[vl,vu,.none]/\IsPart vl lo/\IsPart vu hi
theorem tH(O:B.Ok G)(h:EV G B E (a9 u B.env) Y Z fun d Y1 Z1=>∃i,d=.int i/\∀a,Q (.ptr a) Y1 ((a,.pr (sk aq (ac i)))::Z1)):EV G B E (a9 (.Slice aq (ac u) aq pos) B.env) Y Z Q:=by intro V s S;refine wpAny_Slice (tO (tN (WP.use h S (fun v s_1 d Y1 Z1 V_1 S_1 k_1 i_1 z16=>ar z16 fun i e q=>?_))));subst e;refine aY (bA.mp i_1) fun t z17=>?_;subst z17;exact tO ⟨_,Y1,_,V_1,S_1.allocMu O.c _ (.pr (sk aq (ac i))) rfl ⟨_,aN _ rfl,rfl,_,_,rfl,.none,.int i t⟩,k_1,aT.mpr ⟨rfl,rfl⟩,q _⟩
theorem B8(O:B.Ok G)(h:EV G B E (a9 l B.env) Y Z fun d Y1 Z1=>∃i,d=.int i/\EV G B E (a9 u B.env) Y1 Z1 fun d Y2 Z2=>∃j,d=.int j/\∀a,Q (.ptr a) Y2 ((a,.pr (sk (ac i) (ac j)))::Z2)):EV G B E (a9 (.Slice (ac l) (ac u) aq pos) B.env) Y Z Q:=by intro V s S;refine wpAny_Slice (tN (WP.use h S (fun v s_1 d Y1 Z1 V_1 S_1 k_1 i_1 z21=>ar z21 fun i e h₁=>tN (WP.use h₁ S_1 (fun v s_2 d Y2 Z2 V_2 S_2 k_2 i_2 z19=>ar z19 fun j e_2 q=>?_)))));subst e e_2;refine aY (bA.mp i_1) fun t z22=>?_;subst z22;refine aY (bA.mp i_2) fun t' z23=>?_;subst z23;exact tO ⟨_,Y2,_,V_2,S_2.allocMu O.c _ (.pr (sk (ac i) (ac j))) rfl ⟨_,aN _ rfl,rfl,_,_,rfl,.int i t,.int j t'⟩,k_1.trans k_2,aT.mpr ⟨rfl,rfl⟩,q _⟩
noncomputable def Bs(l:List DV)(lo hi:Option Int):List DV:=(uC (fH lo hi aq l.length).1 (fH lo hi aq l.length).2.1 (fH lo hi aq l.length).2.2).filterMap (l[·]?)
theorem Jn(h:Mine.gP G.prog G.w V l vs):∀js:List Nat,Mine.gP G.prog G.w V (js.filterMap (l[·]?)) (js.filterMap (vs[·]?)):=by
 intro p0_;induction p0_ with|nil=>exact be.mpr rfl|cons j js ih=>
  have ih:=ih;cases hn:l[j]? with
  |some n=>refine ar (ln h hn) fun v hv iv=>?_;simp only[fM,hn,hv];exact aG.mpr (bO _ _ rfl iv ih)
  |none=>
   have hv:vs[j]?=aq:=by rw[gX] at hn ⊢;rw[bb h];exact hn
   simp only[fM,hn,hv];exact ih
theorem qo{lo hi:Option Int}(O:B.Ok G)(D:LS Z d l)(hl:l.length<=1000000)(q:Q (.lst (Bs l lo hi)) Y Z)(hs:∀o i,∃ops,rZ slice ak o i=HZ ops (H7 o i)):O2 G B E (Is G.prog G.w) (i7 value slice) d (.ptr a) Y ((a,.pr (sk lo hi))::Z) Q:=by
 intro V s va vb S ia ib;refine aZ (aT.mp ib) fun z24 zz=>?_;subst z24;refine bl (D.openX S.drop ia) fun t xs n z25 ht hL=>?_;subst z25;refine DU (S.mu (a,.pr (sk lo hi)) (.head _)) fun o ho hc vl vu hd pl pu=>?_;have hLi:s.heap.IsList t xs:=(dK _ ht rfl n rfl)
 have e:xs.size=l.length:=by rw[<-aF,bb hL]
 refine WT hLi.typeIs Ri.lookup (wpAny_getItem_list_slice hLi (cB o ho hc hd) pl pu .none (by simp) ?_ (by rw[e];exact ae hl (by decide))) (hs _ _).choose_spec;have S1:=S.drop.alloc O.c {cls:=.type "list",data:=.seq (HK xs lo hi aq)} rfl;refine⟨_,Y,Z,_,S1,dc S.drop.fresh,?_,q⟩;show Exists _;refine cJ _ _ (HK xs lo hi aq) 0 rfl (bT _ _ _) rfl ⟨rfl,rfl⟩ rfl ?_;have e2:(HK xs lo hi aq).toList=(uC (fH lo hi aq l.length).1 (fH lo hi aq l.length).2.1 (fH lo hi aq l.length).2.2).filterMap (xs.toList[·]?):=by unfold HK;rw[e];simp
 rw[e2];exact Jn (hL.mono (dc S.drop.fresh)) _
theorem Gs(O:B.Ok G)(L:LS Z d l)(q:Q (.bool (!l.isEmpty)) Y Z):O2 G B E (Is G.prog G.w) (bi .NotEq) d (.lst []) Y Z Q:=by
 intro V s a b S ia ib;refine bl (L.openX S ia) fun t vs n z1 ht hL=>?_;subst z1;refine bl (LS.openX (.inl rfl) S ib) fun u ws m z2 hu hM=>?_;subst z2;have e1:vs.size=l.length:=by rw[<-aF,bb hL]
 have e2:ws.size=0:=by rw[<-aF,bb hM];rfl
 cases l with|nil=>refine Wb (items:=vs) (items2:=ws) (e:=fun zz=>ai) (dK _ ht rfl n rfl) (dK _ hu rfl m rfl) (e1.trans e2.symm) (by have:=O.line;exact BB this) (fun j h1=>absurd h1 (by rw[e1];exact iL _)) _ _ _ _ ?_;exact⟨.bool ak,Y,Z,V,S,.refl _,aT.mpr ⟨by rw[e1];rfl,rfl⟩,q⟩|cons x r=>refine Wa (items:=vs) (items2:=ws) (dK _ ht rfl n rfl) (dK _ hu rfl m rfl) (by rw[e1,e2];simp) (by have:=O.line;exact BB this) _ _ _ _ ?_;exact⟨.bool ai,Y,Z,V,S,.refl _,aT.mpr ⟨rfl,rfl⟩,q⟩
def N7(x y:aV)(Q:Fl->aP->Mu->Prop):DV->aP->Mu->Prop:=fun d Y' Z'=>∃a b Y1 Y2,d=.tup [a,b]/\pK Y' y b Y1/\pK Y1 x a Y2/\Q .next Y2 Z'
theorem ED{Q:Fl->aP->Mu->Prop}{a b:DV}(h1:pK Y y b Y1)(h2:pK Y1 x a Y2)(q:Q .next Y2 Z):N7 x y Q (.tup [a,b]) Y Z:=(fG a b Y1 Y2 rfl h1 h2 q)
theorem hG{Q:Fl->aP->Mu->Prop}(O:B.Ok G)(hn:B.hd=ak)(h:EV G B E (a9 e B.env) Y Z (N7 x y Q))(h1:nS [.Tuple [.Name x px,.Name y py] k tp] e pos.line B.env=pure ak)(h2:nT [.Tuple [.Name x px,.Name y py] k tp] e B.env=pure (ac [x,y])):EX G B E (fc (.Assign [.Tuple [.Name x px,.Name y py] k tp] e pos) B.env) Y Z Q:=by
 intro V s S;refine Ll (WP.use h S (fun v s_1 d Y1 Z1 V_1 S_1 k_1 i_1 z4=>eh z4 fun a b Y2 Y3 ed p1 p2 q=>?_)) h1 h2;subst ed;refine d5 i_1 ?_;clear i_1;intro t o vs n z5 y1;refine oS y1 ?_;clear y1;intro ho hc zz hd u1 y2;refine mq y2 ?_;clear y2;intro zz hv iu1 u2 r y3;refine jM y3 ?_;clear y3;intro z6 iu2 z7;subst z5;subst z6;subst z7;have hT:s_1.heap.IsTuple t vs:=(dK o (S_1.vh _ _ ho) hc n hd)
 have hsz:vs.size=2:=by rw[<-aF,hv];rfl
 show bd _ _ (rY (.ref t) 2 aq) _ _ _;rw[<-hsz];refine b5 (fY (O.calm hn) hT fun h' hx hz=>?_);rw[hv];have S2:b9 (cx G B) V_1 Y1 Z1 {s_1 with heap:=h'}:=S_1.grow0 hx hz;refine ah (bG (c8 (gK O S2 iu2 p1 fun s3 S3=>?_)));refine ah (bG (c8 (gK O S3 iu1 p2 fun s4 S4=>?_)));exact aH ⟨.next,Y3,Z1,V_1,S4,k_1,rfl,q⟩
def N6(x y z:aV)(Q:Fl->aP->Mu->Prop):DV->aP->Mu->Prop:=fun d Y' Z'=>∃a b c Y1 Y2 Y3,d=.tup [a,b,c]/\pK Y' z c Y1/\pK Y1 y b Y2/\pK Y2 x a Y3/\Q .next Y3 Z'
theorem Ta{Q:Fl->aP->Mu->Prop}{a b c:DV}(h1:pK Y z c Y1)(h2:pK Y1 y b Y2)(h3:pK Y2 x a Y3)(q:Q .next Y3 Z):N6 x y z Q (.tup [a,b,c]) Y Z:=⟨a,b,c,Y1,Y2,Y3,rfl,h1,h2,h3,q⟩
theorem uf{Q:Fl->aP->Mu->Prop}(O:B.Ok G)(hn:B.hd=ak)(h:EV G B E (a9 e B.env) Y Z (N6 x y z Q))(h1:nS [.Tuple [.Name x px,.Name y py,.Name z pz] k tp] e pos.line B.env=pure ak)(h2:nT [.Tuple [.Name x px,.Name y py,.Name z pz] k tp] e B.env=pure (ac [x,y,z])):EX G B E (fc (.Assign [.Tuple [.Name x px,.Name y py,.Name z pz] k tp] e pos) B.env) Y Z Q:=by
 intro V s S;refine Ll (WP.use h S (fun v s_1 d Y1 Z1 V_1 S_1 k_1 i_1 z9=>eu z9 fun a b c Y2 Y3 y4=>J2 y4 fun Y4 ed p1 p2 p3 q=>?_)) h1 h2;subst ed;refine d5 i_1 ?_;clear i_1;intro t o vs n z10 y5;refine oS y5 ?_;clear y5;intro ho hc zz hd u1 y6;refine mq y6 ?_;clear y6;intro zz hv iu1 u2 r y7;refine sT y7 ?_;clear y7;intro z11 iu2 u3 r3 z12 iu3 z13;subst z10;subst z11;subst z12;subst z13;have hT:s_1.heap.IsTuple t vs:=(dK o (S_1.vh _ _ ho) hc n hd)
 have hsz:vs.size=3:=by rw[<-aF,hv];rfl
 show bd _ _ (rY (.ref t) 3 aq) _ _ _;rw[<-hsz];refine b5 (fY (O.calm hn) hT fun h' hx hz=>?_);rw[hv];have S2:b9 (cx G B) V_1 Y1 Z1 {s_1 with heap:=h'}:=S_1.grow0 hx hz;refine ah (bG (c8 (gK O S2 iu3 p1 fun s3 S3=>?_)));refine ah (bG (c8 (gK O S3 iu2 p2 fun s4 S4=>?_)));refine ah (bG (c8 (gK O S4 iu1 p3 fun s5 S5=>?_)));exact aH ⟨.next,Y4,Z1,V_1,S5,k_1,rfl,q⟩
theorem Cq(R:fF a (.lst l) (.lst (l++l')) Z Z')(D:LS Z d l')(hl:l.length+l'.length<=1000000)(q:Q .none Y Z'):cI G B E (.builtin "list.extend") ([.ptr a]++[d]) Y Z Q:=by
 intro V s vs S hi;refine aM (aG.mp hi) ?_;clear hi;intro v1 r1 z14 i1 hi;subst z14;refine aM (aG.mp hi) ?_;clear hi;intro v2 r2 z15 i2 hi;subst z15;obtain rfl:=be.mp hi;refine bl (LS.openX (.inr (bq _ rfl R.mem)) S i1) fun a vs n z16 ho hL=>?_;subst z16;refine aZ (aT.mp i1) fun e zz=>?_;(injection e with e;subst e);refine bl (D.openX S i2) fun b ws m z17 hb hM=>?_;subst z17;have e1:vs.size=l.length:=by rw[<-aF,bb hL]
 have e2:ws.size=l'.length:=by rw[<-aF,bb hM]
 have hsz:vs.size+ws.size<=fZ:=by rw[e1,e2];exact ae hl (by decide)
 refine aY (w3 (o:={cls:=.type "list",dict:=aq,data:=.seq vs n,slots:=#[]}) rfl (fun xs=>xs++ws)) fun n' hd'=>?_;refine qk PySem.F.slot_list_extend (bq _ ho rfl) PySem.F.entry_list_extend (PySem.F.args_list_extend_2 _ _) (AutoSeq1.list_extend_list_list_0 a vs n b ws m (extend_door hsz) (ae (cg _ _) hsz) (mA hsz)) ⟨ho,hb,.none,Y,Z',V,S.repl (t:=s.toks) R (cW ..) ?_,.refl _,aT.mpr ⟨rfl,rfl⟩,q⟩;refine c7 _ (vs++ws) n' (cp _ ho (r8 hd')) (yP ..) ⟨rfl,rfl⟩ hd' ?_;rw[qm];exact kL hL hM
structure Oa (G:G0) (V':Vw) (s s':ay) (new:Mu):Prop where
 mu:∀p∈new,jv G.prog G.w V' s'.heap.get? p.1 p.2
 vm:∀p∈new,V' p.1=aq
 big:∀p∈new,s.heap.objs.size<=p.1
 nd:(new.map (·.1)).Nodup
def qf(G:G0)(hd:Bool)(k:Nat)(f:aE)(ds:List DV)(Z:Mu)(R:DV->Mu->Mu->Prop):Prop:=∀A V s vs,qJ A k->(hd=ak->A.handled=aq)->CL A V->m7 A (Z.map (·.1)) V s->Eh G V Z s->gP G.prog G.w V ds vs->fJ (bf G.prog G.w) A (.call f ⟨vs,[]⟩) (o8 (fun r s'=>∃d new Z' V',AG G A V Z s V' Z' s'/\Oa G V' s s' new/\Is G.prog G.w V' d r/\R d new Z') (fun zz zz=>False)) s
theorem b9.addMu{new:Mu}{s_0:ay}(S:b9 (cx G B) V Y Z s)(hm:∀p∈new,jv G.prog G.w V s.heap.get? p.1 p.2)(hv:∀p∈new,V p.1=aq)(hb:∀p∈new,s_0.heap.objs.size<=p.1)(nd:(new.map (·.1)).Nodup)(h0:B.s0.heap.objs.size<=s_0.heap.objs.size)(hL:B.L<s_0.heap.objs.size)(hZ:∀p∈Z,p.1<s_0.heap.objs.size):b9 (cx G B) V Y (new++Z) s:=by
 refine⟨S.m,S.nd,fun p hp=>?_,?_,S.vh,S.vL,fun p hp=>?_,S.fr,S.v0,S.b0,fun p hp=>?_,S.pr,S.sz,S.hk,S.rest⟩
 .rcases aJ.mp hp with h|h
  .exact hm p h
  .exact S.mu p h
 .have d:=av.mp S.dj
  rw[aA];refine av.mpr ⟨fun q=>?_,bC.mpr (jT nd d.2 (fun a ha b hb' e=>?_))⟩
  .rcases aJ.mp q with q|q
   .refine ar (az.mp q) fun p hp e=>?_
    have:=hb p hp;rw[e] at this;exact absurd hL (bu.mpr this)
   .exact d.1 q
  .refine ar (az.mp ha) fun p hp z1=>?_
   subst z1;refine ar (az.mp hb') fun p' hp' z2=>?_;subst z2;exact mK _ (du (hZ p' hp') (e▸hb p hp))
 .rcases aJ.mp hp with h|h
  .exact hv p h
  .exact S.vm p h
 .rcases aJ.mp hp with h|h
  .exact .inr (ae h0 (hb p h))
  .exact S.mf p h
theorem D5{R:DV->Mu->Mu->Prop}(O:B.Ok G)(H:qf G hd k f ds Zc R)(hh:hd=ai\/B.hd=ak)(P:i4 Z Zc re)(hk:k<=B.k)(q:∀d new Zc',R d new Zc'->Q d Y (new++re Zc')):cI G B E f ds Y Z Q:=by intro V s vs S hi;refine kA (dR (H B.A V s vs (O.room.le hk) (fun e=>hh.elim (fun z=>by rw[z] at e;injection e) O.calm) S.hk ((S.stk O).less fun a z=>P.sublist.subset z) (S.pre P) hi) (o8.mono (fun r s' z3=>eh z3 fun d new Z' V' T N i h=>?_) fun zz zz x=>x.elim));have S1:=S.post O P T;refine⟨d,Y,new++re Z',V',S1.addMu N.mu N.vm N.big N.nd S.sz S.frLt (fun p hp=>?_),T.v0,i,q d new Z' h⟩;have:p.1∈Z.map (·.1):=P.keys T.as▸ax hp;refine ar (az.mp this) fun q' hq e=>?_;exact e▸S.muLt hq
def Rb(Z0:Mu)(R:DV->Mu->Mu->Prop):Fl->aP->Mu->Prop:=fun fl Y' Z'=>∃new loc Zr d,Z'.Perm (new++(loc++Zr))/\Zr.map (·.1)=Z0.map (·.1)/\R d new Zr/\(fl=.ret d\/(fl=.next/\d=.none))
theorem J0{Y0:aP}{R:DV->Mu->Mu->Prop}(g:G.Ok)(ho:G.K.lookup f=ac o)(hdata:o.data=.func fd)(hb:fd.body=.stmts body)(hco:fd.scope.isCoroutine=ak)(hgen:fd.scope.isGenerator=ak)(hk:fd.scope.kind=.function)(hcell:∀x∈fd.scope.names,x.2≠.cell)(hgl:fd.globals=ce)(hbu:fd.builtins=d9)(hcd:nW G.K fd.code fd.qualname=ai)(bind:∀V s vs,Kp G.hb.get? V->Kp V s.heap.get?->gP G.prog G.w V ds vs->∃binds,xa s fd ⟨vs,[]⟩ binds/\(∀x∈binds,fd.scope.names.lookup x.1=ac .local)/\∀p∈Y0,fd.scope.names.lookup p.1=ac .local/\(p.2≠.any->∃v,binds.reverse.lookup p.1=ac v/\Is G.prog G.w V p.2 v)){ns:List aV}(hns:Y0.map (·.1)=ns)(nd:ns.Nodup)(H:∀B,B.Ok G->B.k=k->B.hd=hd->B.env=nN fd B.L f->B.m0=Z0.map (·.1)->EX G B (fun zz zz=>False) (eG body B.env) Y0 Z0 (Rb Z0 R)):qf G hd (k+1) (.ref f) ds Z0 R:=by
 intro A V s vs rm hcalm hh hstk P hi;have kb:∀b o,G.hb.get? b=ac o->s.heap.get? b=ac o:=fun b o e=>P.vh _ _ (P.b0 _ _ e);refine bp (bind V s vs P.b0 P.vh hi) fun binds hbind hloc hY=>?_;refine RL (binds:=binds) rm.depth ((g.kin.keeps kb) _ _ ho) hdata (g.lim.keeps kb) (CQ (g.kin.keeps kb) hcd) hb hbind hcell hloc (fun h₁ hns' hk_1=>?_) hco hgen hk;have OB:(sB A (nN fd s.heap.objs.size f) V Z0 s k hd).Ok G:=q7 g ⟨hk,rfl,hgl,hbu⟩ rfl rm hcalm hstk;refine aQ (H _ OB rfl rfl rfl rfl V _ (sm P hh (bq _ hns' (fun p hp=>hY p hp)) (hns▸nd) hk_1)) (fun fl s' z4=>iK z4 fun a Y' Z' V' S' k' i' z5=>eh z5 fun new loc Zr d e has hR hfl=>?_) fun e s'' x=>x.elim;have S':=S'.perm e;have T:AG G A V Z0 s V' Zr s':=pq (loc:=new++loc) hstk rfl (gu ..▸S') has;have N:Oa G V' s s' new:=by have dj:=(av.mp S'.dj).2;rw[aA,bC] at dj;refine⟨fun p hp=>S'.mu p (bF _ hp),fun p hp=>S'.vm p (bF _ hp),fun p hp=>(S'.mf p (bF _ hp)).resolve_left fun z=>?_,dj.1⟩;have z:p.1∈Zr.map (·.1):=has▸z;exact dj.2.2 _ (ax hp) _ (by rw[aA];exact aK _ z) rfl
 rcases hfl with rfl|⟨rfl,rfl⟩
 .refine ar i' fun v z6 hv=>?_
  subst z6;exact fG d new Zr V' T N hv hR
 .obtain rfl:fl=.next:=i'
  exact fG .none new Zr V' T N (aT.mpr ⟨rfl,rfl⟩) hR
theorem C8{R:DV->Mu->Mu->Prop}(g:G.Ok)(F:o3 G C fI)(H:∀x dx,qf G hd k (.ref fI) (.ptr x::ds) ((x,.obj (cn C dx))::(dx,.flds [])::Zc) (fun d new Z'=>∃l Zr,d=.none/\Z'=(x,.obj (cn C dx))::(dx,.flds l)::Zr/\R (.inst C l) new Zr)):qf G hd (k+1) (.ref C) ds Zc R:=by
 intro A V s vs rm hcalm hh hstk P hi;have kb:∀b o,G.hb.get? b=ac o->s.heap.get? b=ac o:=fun b o e=>P.vh _ _ (P.b0 _ _ e);have X:G.K.In s.heap:=g.kin.keeps kb;have P':=Br (C:=C) P;have hst':=A5 (C:=C) (A':=A.under (.builtin "type.__call__" ⟨.ref C::vs,[]⟩)) rfl hstk;have fin:=fun l Zr V' s'=>xT (A:=A) (A':=A.under (.builtin "type.__call__" ⟨.ref C::vs,[]⟩)) (C:=C) (l:=l) (Zr:=Zr) (V':=V') (s':=s') rfl P;have hsz:=sC s C;rcases s with⟨h,gs,dr,tk,os⟩
 refine make_core (makes_of X F.makes) (jU X F.init) (fun self=>bind_fn X self F.fn) (.inl rfl) ?_;refine dR (H (h.objs.size+1) h.objs.size (A.under (.builtin "type.__call__" ⟨.ref C::vs,[]⟩)) V _ (.ref (h.objs.size+1)::vs) rm.made hcalm hh hst' P' (aG.mpr (bO _ _ rfl (aT.mpr ⟨rfl,rfl⟩) hi))) fun r s' hr=>?_;rcases r with e|(v|_|_|_)<;>first|exact hr.elim|skip
 refine d5 hr fun d new Z' V' T y17=>sT y17 fun N i l Zr z7 z8 hR=>?_;subst z7;subst z8;refine aZ (aT.mp i) fun z9 zz=>?_;subst z9;have N0:∀p∈new,h.objs.size+2<=p.1:=fun p hp=>by have:=N.big p hp;rw[hsz] at this;exact this
 exact⟨rfl,jE (fin l Zr V' s' T) fun V'' T2 i2 k h2=>(fG (.inst C l) new Zr V'' T2 ⟨fun p hp=>(N.mu p hp).mono k rfl,fun p hp=>(h2 _ (N0 p hp)).trans (N.vm p hp),fun p hp=>mB (mB (N0 p hp)),N.nd⟩ i2 hR)⟩
section
variable {K : Type} [DecidableEq K] {knd : KeyKind prog w K}
theorem DX{Q:Option aE->ay->Prop}(hH:CL A V)(kV:Kp V s.heap.get?)(hV:V it=aq)(hit:s.heap.IsKeyIter it d i kvs.length ep)(hm:s.heap.DictAt knd d kvs ep)(hx:kvs[i]?=aq)(hQ:∀h',lR it s.heap h'->Q aq {s with heap:=h'}):bd (bf prog w) A (CP (.ref it)) Q E s:=by
 refine bp (id hit) fun o ho hc hd=>?_;refine wo (id hm) fun od es hod hcd hdd hk hp hn=>?_;unfold CP;refine ah (FI (HJ (name:=aa "__next__") hit.typeIs ql (kz ql hit.typeIs PySem.F.entry_dict_keyiterator_next ?_ (PySem.F.args_dict_keyiterator_next_1 _))));refine ah (aH ?_);refine ah ?_;refine ah ?_;first|refine ah (AK hit.typeIs (aH ?_))|refine ah (FF hit.typeIs (aH ?_))
 refine ah (wpAny_fieldsOf ho hd ?_);rw[if_neg (show ¬KQ "dict_keyiterator" = ai by decide)];show bd _ _ (if(cs d==dn)=ai then _ else _) _ _ s;rw[if_neg (show ¬((cs d==dn)=ai) from HS)];refine ah (aH ?_);refine ah (wpAny_dictEntries hod hdd ?_);have hsz:es.size=kvs.length:=by rw[<-hp.length];simp
 rw[if_neg (by rw[hsz];simp)];refine ah (aH ?_);refine ah (wpAny_dictEpoch hod hdd ?_);rw[if_neg (by simp)];refine aH ?_;have hge:es.size<=i:=by rw[hsz];simpa using hx
 dsimp only;rw[if_neg (show ¬((i:Int)<0) from by exact YF),mD,i9 hge];refine ah ?_;first|refine ah (AK hit.typeIs (aH ?_))|refine ah (FF hit.typeIs (aH ?_))
 show bd _ _ (K1 (.ref it) 0 .none >>= _) _ _ s;refine ah (CM ho hd (by simp) ?_);show bd _ _ (WX (.type "StopIteration") [] >>= _) _ _ _;refine ah ?_;simp only[WX,WW];refine ah (dm ?_ (by size_fits));refine ah (m:=r6 _ _) (hO (a:=dn) (by first|rfl|(simp only[r6];rfl)) ?_);refine dm ?_ (by size_fits);have kk:∀f o1 o2,lR it s.heap (((s.heap.update it f).push o1).push o2):=fun f o1 o2=>(((cW ..).extBut.push _).push _)
 have sz:∀f o1,((s.heap.update it f).push o1).objs.size=s.heap.objs.size+1:=fun f o1=>by simp[bV,uE]
 refine vk (V:=V) hH (fun b x e=>kk _ _ _ b x (fun q=>by subst q;rw[hV] at e;injection e) (kV _ _ e)) (aN _ rfl) rfl (by rw[HT];show 2<6+_;exact Tw) ?_ fun h' o' ho' hc' hs=>?_
 .rw[sz]
  cases q:V (s.heap.objs.size+1) with|none=>rfl|some x=>exact absurd (aR (kV _ _ q)) (bu.mpr (cD _))
 .refine ah (Rz (T:="StopIteration") (b:=ai) (bq _ ho' (by rw[hc'])) W0 ?_)
  refine aH (hQ _ fun b x n e=>(hs.2 b (fun q=>?_)).trans (kk _ _ _ b x n e));rw[sz] at q;exact absurd (q▸aR e) (bu.mpr (cD _))
def KT(A:fR)(e:aW)(h:jl):Prop:=A.handled=aq\/(A.handled=ac (.ref e)/\∃o vs,h.get? e=ac o/\o.data=.fields vs/\vs[2]?=ac .none)
theorem KT.keep(x:KT A e h)(k:∀o,h.get? e=ac o->h'.get? e=ac o):KT A e h':=x.imp id fun z1=>J5 z1 fun a o vs b c d=>⟨a,o,vs,k _ b,c,d⟩
theorem KT.hok(x:KT A e h):∃V,CL A V/\Kp V h.get?/\∀b,b≠e->V b=aq:=by
 rcases x with x|⟨a,o,vs,b,c,d⟩;.exact cB (fun zz=>aq) (.inl x) (fun zz zz h=>nomatch h) (fun zz zz=>rfl)
 .refine cB (fun b=>if b=e then ac o else aq) (.inr (eB e o vs a (if_pos rfl) c d)) (fun y z h=>?_) (fun b hb=>if_neg hb)
  by_cases q:y=e;.subst q;dsimp only at h;rw[if_pos rfl] at h;(injection h with h;subst h);exact b
  .dsimp only at h;rw[if_neg q] at h;injection h
theorem Qw(x:CL A V)(k:Kp V h.get?)(hd:d<h.objs.size):∃e,e<h.objs.size/\KT A e h:=by
 rcases x with x|⟨e,o,vs,a,b,c,d⟩;.exact bq d hd (.inl x)
 .exact bq e (aR (k _ _ b)) (.inr ⟨a,o,vs,k _ _ b,c,d⟩)
theorem Oy(I d e)(hne:d≠I)(hIe:I≠e)(kvs ep):Walks prog w A I [I,d,e] [I] kvs.length (fun i v=>∃k x,kvs[i]?=ac (k,x)/\knd.is k v=ai) (fun i h=>(h.IsKeyIter I d i kvs.length ep/\h.DictAt knd d kvs ep)/\KT A e h) where
 sub:=fun b hb=>by simp at hb;simp[hb]
 frame:=fun zz zz zz st hk=>⟨⟨st.1.1.at fun o e'=>hk I (by simp) o e',st.1.2.at' fun o e'=>hk d (by simp) o e'⟩,st.2.keep fun o e'=>hk e (by simp) o e'⟩
 item:=fun i s Q E hi st hQ=>by
  obtain⟨⟨k,x⟩,hx⟩:∃p,kvs[i]?=ac p:=⟨kvs[i],by simp[hi]⟩
  refine HX st.1.1 st.1.2 hx fun key h' hkey hit' hs'=>?_;exact hQ key h' s.toks (jP k x hx hkey) ⟨⟨hit',st.1.2.extBut hs'.extBut hne⟩,st.2.keep fun o e'=>(hs'.2 e (o9 hIe)).trans e'⟩ fun b o hb e=>hs'.extBut b o (fun h=>hb (by simp[h])) e
 done:=fun s Q E st hQ=>by refine bp st.2.hok fun V hH kV hV=>?_;exact DX hH kV (hV _ hIe) st.1.1 st.1.2 (by simp) fun h' he'=>hQ h' s.toks fun b o hb e=>he' b o (fun h=>hb (by simp[h])) e
 self:=fun zz zz zz zz st hQ=>KY st.1.1 hQ
theorem oW{V:Vw}{R:List aE->ay->Prop}(lo:(d==fQ)=ak)(hm:s.heap.DictAt knd d kvs ep)(hH:CL A V)(kV:Kp V s.heap.get?)(hn:kvs.length<=fZ)(h:∀h'(tk:Nat)acc,(∀b o,s.heap.get? b=ac o->h'.get? b=ac o)->Rr (fun i v=>∃k x,kvs[i]?=ac (k,x)/\knd.is k v=ai) acc kvs.length->R acc.toList {s with heap:=h',toks:=tk}):bd (bf prog w) A (collect (.ref d)) R E s:=by
 have hlt:d<s.heap.objs.size:=hm.lt_size;refine ar (Qw hH kV hlt) fun e he1 hHA=>?_;unfold collect;refine ah (CN (jb entry_proto_collect' ?_));rw[jS PySem.F.plain_proto_collect _];show bd _ A.in1 (H0 [] >>= fun l=>again (.builtin "list.__iadd__" ⟨[l,.ref d],[]⟩)) _ _ s;refine ah (dm ?_);refine aH ⟨nU xF _,jb entry_list_iadd' ?_⟩;rw[jS xF _];have hS1:(s.heap.push {cls:=.type "list",data:=.seq ([]:List aE).toArray}).get? s.heap.objs.size=ac {cls:=.type "list",data:=.seq #[]}:=aN _ rfl;show bd _ A.in1 (jz (.ref s.heap.objs.size) (.ref d) (.ref s.heap.objs.size)) _ _ _;generalize hs1:s.heap.push {cls:=.type "list",data:=.seq ([]:List aE).toArray}=h1 at hS1 ⊢;have k1:∀b o,s.heap.get? b=ac o->h1.get? b=ac o:=fun b o e=>hs1▸aX _ e;have sz1:h1.objs.size=s.heap.objs.size+1:=by rw[<-hs1,bV]
 have hm1:h1.DictAt knd d kvs ep:=hm.at' fun o e=>k1 _ _ e;have nSd:s.heap.objs.size≠d:=gU hlt;have nSe:s.heap.objs.size≠e:=gU he1;have nSI:s.heap.objs.size≠h1.objs.size:=by rw[sz1];exact bP (c9 _)
 have hSf:s.heap.objs.size∉[h1.objs.size,d,e]:=by simp only[ao,cf,or_false,not_or];exact jT nSI nSd nSe
 have W:=Oy (prog:=prog) (w:=w) (A:=A.in1) (knd:=knd) h1.objs.size d e (by rw[sz1];exact bP (gG hlt)) (by rw[sz1];exact gU (gG he1)) kvs ep;have main:bd (bf prog w) A.in1 (jz (.ref s.heap.objs.size) (.ref d) (.ref s.heap.objs.size)) (fun fin s'=>match fin with|.done f=>(fun(q:yL) s'=>∃(h':jl) (tk:Nat) (acc':Array aE) (c':Nat),q=.ok (.ret (.ref s.heap.objs.size))/\s'={s with heap:=h',toks:=tk}/\(∀b o,s.heap.get? b=ac o->h'.get? b=ac o)/\h'.get? s.heap.objs.size=ac {cls:=.type "list",dict:=aq,data:=.seq acc' c',slots:=#[]}/\Rr (fun i v=>∃k x,kvs[i]?=ac (k,x)/\knd.is k v=ai) acc' kvs.length) (.ok f) s'|.again c'=>c'.quiet=ai/\fJ (bf prog w) A c' (fun q s'=>∃(h':jl) (tk:Nat) (acc':Array aE) (c':Nat),q=.ok (.ret (.ref s.heap.objs.size))/\s'={s with heap:=h',toks:=tk}/\(∀b o,s.heap.get? b=ac o->h'.get? b=ac o)/\h'.get? s.heap.objs.size=ac {cls:=.type "list",dict:=aq,data:=.seq acc' c',slots:=#[]}/\Rr (fun i v=>∃k x,kvs[i]?=ac (k,x)/\knd.is k v=ai) acc' kvs.length) s') (fun e' s'=>False) {s with heap:=h1}:=by
  unfold jz;refine ah (wX (T:="dict") hm1.dictOf.typeIs ?_);have e1:tj (.ref s.heap.objs.size) (.ref d)=ak:=by simp[tj,nSd]
  simp only[e1,show(cV "dict" == cV "list")=ak from by decide,show(cV "dict" == cV "tuple")=ak from by decide,qR,rW,if_false];refine ah (Rf lo hm1 ?_);have st0:((h1.push {cls:=.type "dict_keyiterator",data:=.fields #[.ref d,.int 0 0,.int kvs.length 0,.int ep 0]}).IsKeyIter h1.objs.size d 0 kvs.length ep/\(h1.push {cls:=.type "dict_keyiterator",data:=.fields #[.ref d,.int 0 0,.int kvs.length 0,.int ep 0]}).DictAt knd d kvs ep)/\KT A.in1 e (h1.push {cls:=.type "dict_keyiterator",data:=.fields #[.ref d,.int 0 0,.int kvs.length 0,.int ep 0]}):=⟨⟨(cB _ (aN _ rfl) rfl rfl),hm1.push _⟩,KT.keep (A:=A.in1) hHA fun o x=>aX _ (k1 _ _ x)⟩
  generalize hI:({cls:=.type "dict_keyiterator",data:=.fields #[.ref d,.int 0 0,.int kvs.length 0,.int ep 0]}:uD)=oI at st0 ⊢;have key:∀h(c₁ tk:Nat),((h.IsKeyIter h1.objs.size d 0 kvs.length ep/\h.DictAt knd d kvs ep)/\KT A.in1 e h)->(∀b o,s.heap.get? b=ac o->h.get? b=ac o)->h.get? s.heap.objs.size=ac {cls:=.type "list",data:=.seq #[] c₁}->fJ (bf prog w) A (.builtin "list.extend.loop" ⟨[.ref s.heap.objs.size,.ref h1.objs.size,.ref s.heap.objs.size],[]⟩) (fun q s'=>∃(h':jl) (tk:Nat) (acc':Array aE) (c':Nat),q=.ok (.ret (.ref s.heap.objs.size))/\s'={s with heap:=h',toks:=tk}/\(∀b o,s.heap.get? b=ac o->h'.get? b=ac o)/\h'.get? s.heap.objs.size=ac {cls:=.type "list",dict:=aq,data:=.seq acc' c',slots:=#[]}/\Rr (fun i v=>∃k x,kvs[i]?=ac (k,x)/\knd.is k v=ai) acc' kvs.length) {s with heap:=h,toks:=tk}:=by
   intro h c₁ tk hst hk hS1;refine codeAny_extend_loopS W.toS hn s.heap.objs.size hSf (.ref s.heap.objs.size) kvs.length 0 _ #[] c₁ rfl (a7 _) hst hS1 (ItemsOf.nil _) fun s' acc' c' hm' hS' hacc=>?_;rw[NB hm'];refine jw s'.heap s'.toks acc' c' rfl rfl (fun b o e'=>hm'.heap b o (fun hmem=>?_) (hk b o e')) hS' hacc;have lt:=aR e';rcases ao.mp hmem with q|hmem;.exact absurd lt (by rw[q];exact mK _)
   .rw[ap.mp hmem,sz1] at lt
    exact absurd lt (bu.mpr (cD _))
  have hS_2:=aX oI hS1;have k2:∀b o,s.heap.get? b=ac o->(h1.push oI).get? b=ac o:=fun b o e'=>aX _ (k1 _ _ e');refine ah (bG (kdl_hint_dict st0.1.2.dictOf.typeIs ?_));refine wpAny_ite_split (fun zz=>?_) (fun zz=>aH ⟨nU wN _,key _ _ _ st0 k2 hS_2⟩);refine ah (qi ?_);refine ah ?_;show bd _ _ (RE s.heap.objs.size (·.push .none) >>= fun zz=>RE s.heap.objs.size (·.pop)) _ _ _;refine ah (AW hS_2 rfl ?_);have hS3:=cp (yO (·.push dn)) hS_2 rfl;refine AW (hz:=by seq_fits) hS3 rfl ?_;have hS4:=cp (yO (·.pop)) hS3 rfl;have oth:∀b o,b≠s.heap.objs.size->(h1.push oI).get? b=ac o->(((h1.push oI).update s.heap.objs.size (yO (·.push dn))).update s.heap.objs.size (yO (·.pop))).get? b=ac o:=fun b o nb e'=>(jd _ _ (o9 nb)).trans ((jd _ _ (o9 nb)).trans e');refine aH ⟨nU wN _,key _ _ _ ?_ (fun b o e'=>oth b o (bP (aR e')) (k2 b o e')) hS4⟩;exact W.frame 0 _ _ st0 fun b hb o e'=>oth b o (fun q=>hSf (q▸hb)) e'
 refine aQ main (fun fin s' x=>?_) fun e s' x=>x.elim;cases fin with
 |done f=>refine iG x ?_;clear x;intro h' tk acc' c' e' z2 hk hS' hacc;subst z2;(injection e' with e';subst e');show bd _ A (load s.heap.objs.size >>= _) _ _ _;refine ah (Od hS' ?_);exact aH (h h' tk acc' hk hacc)
 |again c₁=>refine⟨x.1,dR x.2 fun q s_2 y=>?_⟩;refine iG y ?_;clear y;intro h' tk acc' c' z3 z4 hk hS' hacc;subst z3;subst z4;show bd _ A (load s.heap.objs.size >>= _) _ _ _;refine ah (Od hS' ?_);exact aH (h h' tk acc' hk hacc)
end
noncomputable def k8(l:List Int):List Int:=l.mergeSort fun a b=>decide (a<=b)
theorem im(l):(k8 l).Perm l:=FQ _ _
theorem Db(l):(k8 l).Pairwise (·<=·):=by have:=AZ (le:=fun a b:Int=>decide (a<=b)) (fun a b c h1 h2=>by simp at *;exact ba h1 h2) (fun a b=>by simp;exact Tv) l;exact this.imp fun h=>by simpa using h
theorem u5(h:l'.Perm l)(p:l'.Pairwise (·<=·)):l'=k8 l:=(h.trans (im l).symm).eq_of_pairwise (fun a b zz zz h1 h2=>Int.le_antisymm h1 h2) p (Db l)
noncomputable def xq(a b:aV):Bool:=!Z8 b.cps.toList a.cps.toList
theorem mT(a b):xq a b=ai↔a.cps.toList<=b.cps.toList:=by unfold xq;rw[ltCps_eq];simp
theorem BK{a b:aV}(h1:xq a b=ai)(h2:xq b a=ai):a=b:=by have:=List.le_antisymm ((mT a b).mp h1) ((mT b a).mp h2);cases a;cases b;simpa using this
theorem sG{a b c:aV}(h1:xq a b=ai)(h2:xq b c=ai):xq a c=ai:=(mT a c).mpr (List.le_trans ((mT a b).mp h1) ((mT b c).mp h2))
theorem yg(a b):(xq a b||xq b a)=ai:=by rw[iJ,mT,mT];exact List.le_total _ _
noncomputable def nu(l:List aV):List aV:=l.mergeSort xq
theorem qs(l):(nu l).Perm l:=FQ _ _
theorem u0(l):(nu l).Pairwise (fun a b=>xq a b=ai):=AZ (le:=xq) (fun a b c h1 h2=>sG h1 h2) yg l
theorem Bn:∀l(p:aV),risingS p l=ai->(p::l).Pairwise (fun a b=>xq a b=ai):=by
 intro p0_;induction p0_ with
 |nil=>intro p zz;simp
 |cons x r ih=>
  intro p h;unfold risingS at h;rw[aO] at h;have ih:=ih x h.2;refine iM.mpr ⟨fun y hy=>?_,ih⟩;rcases ao.mp hy with rfl|hy;.exact h.1
  .exact sG h.1 ((iM.mp ih).1 y hy)
theorem Da(h:l'.Perm l)(p:sortedS l'=ai):l'=nu l:=by
 have p':l'.Pairwise (fun a b=>xq a b=ai):=by cases l' with|nil=>exact .nil|cons x r=>exact Bn r x p
 exact(h.trans (qs l).symm).eq_of_pairwise (fun a b zz zz h1 h2=>BK h1 h2) p' (u0 l)
theorem vR{prog:gR}{w:f6}:∀{kvs:List (Int×aE)}{vs:List aE},vs.length=kvs.length->(∀(j:Nat)v,vs[j]?=ac v->∃k x,kvs[j]?=ac (k,x)/\(H5 prog w).is k v=ai)->IntsAre vs (kvs.map (·.1))
 |[],[],_,_=>.nil|[],_::_,h,_=>by simp at h
 |_::_,[],h,_=>by simp at h
 |(k,x)::r,v::vs,h,hv=>by refine cY (hv 0 v rfl) fun k' x' e hk=>?_;(injection e with e;injection e with q3 q4;subst q3;subst q4);refine aY (HM hk) fun t z1=>?_;subst z1;exact .cons k t (vR (by simpa using h) fun j u hu=>hv (j+1) u hu)
theorem uQ{prog:gR}{w:f6}:∀{kvs:List (aV×aE)}{vs:List aE},vs.length=kvs.length->(∀(j:Nat)v,vs[j]?=ac v->∃k x,kvs[j]?=ac (k,x)/\(strKind prog w).is k v=ai)->StrsAre vs (kvs.map (·.1))
 |[],[],_,_=>.nil|[],_::_,h,_=>by simp at h
 |_::_,[],h,_=>by simp at h
 |(k,x)::r,v::vs,h,hv=>by refine cY (hv 0 v rfl) fun k' x' e hk=>?_;(injection e with e;injection e with q1 q2;subst q1;subst q2);refine aY (kn hk) fun t z2=>?_;subst z2;exact .cons k t (uQ (by simpa using h) fun j u hu=>hv (j+1) u hu)
theorem Jo(h:IntsAre vs ns):Mine.gP G.prog G.w V (ns.map DV.int) vs:=by induction h with|nil=>exact be.mpr rfl|cons n t _ ih=>exact aG.mpr (bO _ _ rfl (bA.mpr ⟨t,rfl⟩) ih)
theorem Jm(h:StrsAre vs ns):Mine.gP G.prog G.w V (ns.map DV.str) vs:=by induction h with|nil=>exact be.mpr rfl|cons n t _ ih=>exact aG.mpr (bO _ _ rfl (ir.mpr ⟨t,rfl⟩) ih)
theorem uZ{h':jl}{tk:Nat}{vs:List aE}(O:B.Ok G)(S:b9 (cx G B) V Y Z s)(hk:∀b o,s.heap.get? b=ac o->h'.get? b=ac o)(hsz:s.heap.objs.size<=h'.objs.size)(hz:s.heap.objs.size<=(uB (h'.push (yF "list" vs.toArray 0)) h'.objs.size vs out).objs.size)(hL:∀V,Mine.gP G.prog G.w V l out.toList)(q:Q (.lst l) Y Z):qP G B (Is G.prog G.w) V Q (.ref h'.objs.size) {s with heap:=uB (h'.push (yF "list" vs.toArray 0)) h'.objs.size vs out,toks:=tk}:=by
 refine aY (sortedHeap_at (h:=h'.push (yF "list" vs.toArray 0)) (a:=h'.objs.size) (vs:=vs) (n:=0) (out:=out) (aN _ rfl)) fun e he=>?_;have kk:∀b o,s.heap.get? b=ac o->(uB (h'.push (yF "list" vs.toArray 0)) h'.objs.size vs out).get? b=ac o:=fun b o x=>by have lt:=aR (hk b o x);rw[sortedHeap_old (bP lt) (by rw[bV];exact gG lt)];exact aX _ (hk b o x)
 have S1:=S.grow0 (t:=tk) (fun b o zz x=>kk b o x) hz;have vn:V h'.objs.size=aq:=by cases c:V h'.objs.size with|none=>rfl|some o=>exact absurd (aR (S.vh _ _ c)) (bu.mpr hsz)
 have S2:=S1.addMu (new:=[(h'.objs.size,.lst l)]) (s_0:=s) (fun p hp=>by cases ap.mp hp;exact(c7 _ out e he rfl ⟨rfl,rfl⟩ rfl (hL V))) (fun p hp=>by cases ap.mp hp;exact vn) (fun p hp=>by cases ap.mp hp;exact hsz) (by simp) S.sz S.frLt (fun p hp=>S.muLt hp);refine bp (qE (ae S.sz hsz) S2) fun V' S3 k3 i3=>?_;exact⟨_,Y,Z,V',S3,k3,i3,q⟩
theorem uj(O:B.Ok G)(D:DS Z d l)(hl:l.length<64)(q:Q (.lst ((k8 (l.map (·.1))).map DV.int)) Y Z):cI G B E (.builtin "sorted") [d] Y Z Q:=by
 intro V s vs S hi;refine aM (aG.mp hi) ?_;clear hi;intro v1 r1 z3 i1 hi;subst z3;obtain rfl:=be.mp hi;refine bU (D.open S i1) fun a o kvs z4 ho lo hd hk=>?_;subst z4;have hD:s.heap.DictOf (DK.knd G.prog G.w (K:=Int)) a kvs:=bc.mpr (bq o ho hd);refine aY hD.dictAt fun ep hat=>?_;have hkl:=hk.length;have hke:=hk.keys;refine xL kind_sorted plain_sorted entry_sorted (args_sorted1 _) ?_;unfold gT.«sorted»;refine ah (m:=checkCount "sorted" 1 1 _) (aH ?_);refine ah (b5 (oW (V:=V) lo hat S.hk S.vh (by rw[hkl];exact ae (b8 (gV hl (by decide:64<1000000))) (by decide)) fun h' tk acc kp hacc hz=>?_));have hal:acc.toList.length=kvs.length:=by rw[aF];exact hacc.1
 have hI:IntsAre acc.toList (kvs.map (·.1)):=vR (prog:=G.prog) (w:=G.w) hal fun j v e=>hacc.2 j v (by rw[<-di];exact e);have h64:acc.toList.length<64:=by rw[hal,hkl];exact hl
 generalize acc.toList=xs at hI h64 hal ⊢;refine ah (ZT ?_ (by rw[hal,hkl];exact ae (b8 (gV hl (by decide:64<1000000))) (by decide)));have hoL:(h'.push (yF "list" xs.toArray 0)).get? h'.objs.size=ac (yF "list" xs.toArray 0):=aN _ rfl;refine ah (bG (kz WU (bq _ hoL rfl) V8 (list_sort_tree hoL hI h64 fun out ns' a1 a2 a3=>(bq _ rfl ?_)) (W7 _)));refine aH (bq _ rfl ?_);have e:ns'=k8 (l.map (·.1)):=by rw[<-hke];exact u5 a2 a3
 refine uZ (s:=s) (h':=h') (tk:=tk) (vs:=xs) O S kp hz ?_ (fun V=>e▸Jo a1) q;unfold uB;rw[ng,bV,bV,ng,bV];exact ae hz (by show h'.objs.size<=_;exact Tu)
theorem ui(O:B.Ok G)(D:DS Z d l)(hl:l.length<64)(q:Q (.lst ((nu (l.map (·.1))).map DV.str)) Y Z):cI G B E (.builtin "sorted") [d] Y Z Q:=by
 intro V s vs S hi;refine aM (aG.mp hi) ?_;clear hi;intro v1 r1 z5 i1 hi;subst z5;obtain rfl:=be.mp hi;refine bU (D.open S i1) fun a o kvs z6 ho lo hd hk=>?_;subst z6;have hD:s.heap.DictOf (DK.knd G.prog G.w (K:=aV)) a kvs:=bc.mpr (bq o ho hd);refine aY hD.dictAt fun ep hat=>?_;have hkl:=hk.length;have hke:=hk.keys;refine xL kind_sorted plain_sorted entry_sorted (args_sorted1 _) ?_;unfold gT.«sorted»;refine ah (m:=checkCount "sorted" 1 1 _) (aH ?_);refine ah (b5 (oW (V:=V) lo hat S.hk S.vh (by rw[hkl];exact ae (b8 (gV hl (by decide:64<1000000))) (by decide)) fun h' tk acc kp hacc hz=>?_));have hal:acc.toList.length=kvs.length:=by rw[aF];exact hacc.1
 have hI:StrsAre acc.toList (kvs.map (·.1)):=uQ (prog:=G.prog) (w:=G.w) hal fun j v e=>hacc.2 j v (by rw[<-di];exact e);have h64:acc.toList.length<64:=by rw[hal,hkl];exact hl
 generalize acc.toList=xs at hI h64 hal ⊢;refine ah (ZT ?_ (by rw[hal,hkl];exact ae (b8 (gV hl (by decide:64<1000000))) (by decide)));have hoL:(h'.push (yF "list" xs.toArray 0)).get? h'.objs.size=ac (yF "list" xs.toArray 0):=aN _ rfl;refine ah (bG (kz WU (bq _ hoL rfl) V8 (list_sort_treeK strKind_oneLt hoL hI.keysOf (fun v_1 v_2 rest e=>keyKind_strs (by rw[<-e];exact hI)) h64 fun st' a1 a2=>(bq _ rfl ?_)) (W7 _)));refine aH (bq _ rfl ?_);refine bp (sorted_out_str hI a1 a2) fun ss' b1 b2 b3=>?_;have e:ss'=nu (l.map (·.1)):=by rw[<-hke];exact Da b2 b3
 refine uZ (s:=s) (h':=h') (tk:=tk) (vs:=xs) O S kp hz ?_ (fun V=>e▸Jm b1) q;unfold uB;rw[ng,bV,bV,ng,bV];exact ae hz (by show h'.objs.size<=_;exact Tu)
theorem e8{r:Bool}(O:B.Ok G)(hm:(a,MO.sdic l)∈Z)(hs:Rh G.K (.type "dict") c=ac r)(he:(cV "dict" == c)=ai->r=ai)(hc:pV G c)(q:Q (.bool r) Y Z):cI G B E (.builtin "isinstance") [.ptr a,.raw c] Y Z Q:=by
 intro V s vs S hi;refine aM (aG.mp hi) ?_;clear hi;intro v r1 z1 iv hi;subst z1;refine aM (aG.mp hi) ?_;clear hi;intro c' r2 z2 ic hi;subst z2;obtain rfl:=be.mp hi;refine aZ (aT.mp ic) fun z3 zz=>?_;subst z3;refine aZ (aT.mp iv) fun z4 zz=>?_;subst z4;have X:=S.kin O;refine aY ((S.mu _ hm).at) fun o ho=>?_;have kf:Kp V (fS V a o):=dc (S.vm _ hm);have kv:Kp (fS V a o) s.heap.get?:=fun b x e=>by
  by_cases z:b=a;.subst z;rw[bT] at e;(injection e with e;subst e);exact ho
  .rw[dC V o z] at e;exact S.vh _ _ e
 have iv':Is G.prog G.w (fS V a o) (.sdic l) (.ref a):=sI rfl (S.mu _ hm) ho kf (bT _ _ _);have Lt:=NH iv' kv (tv:=.type "dict") rfl;have Lv:lM (bf G.prog G.w) s.heap (Ol (.type "dict")) ai:=.now;refine Fv PySem.F.kind_isinstance PySem.F.plain_isinstance PySem.F.entry_isinstance (PySem.F.args_isinstance_2 _ _) (RH ?_ (by intro e;injection e));refine oJ X Lt (hc.ty _ _ X) (hc.is _ _ X) (looks_subIn X hs) Lv he (fun zz P hP=>Cp X iv' kv rfl (fun C e=>by injection e) hP) fun t=>?_;exact⟨_,Y,Z,V,S.sat_toks t,.refl _,aT.mpr ⟨rfl,rfl⟩,q⟩
noncomputable def A4(l:List Int):Int:=l.foldl (· + ·) 0
theorem Dg(l:List Int):∀n,n<=l.length->WV (fun i=>l.getD i 0) n=A4 (l.take n):=by
 intro p0_;induction p0_ with
 |zero=>intro zz;simp[WV,A4]
 |succ n ih=>
  intro h;have ih:=ih (YE h);show WV _ n+l.getD n 0=_;rw[ih,ci];unfold A4;rw[lQ];have:l[n]?=ac (l.getD n 0):=by rw[kW,cM (YD h)];rfl
  rw[this];rfl
theorem Kh(O:B.Ok G)(hn:B.hd=ak)(L:LS Z d (l.map DV.int))(q:Q (.int (A4 l)) Y Z):cI G B E (.builtin "sum") [d] Y Z Q:=by
 intro V s vs S hi;refine aM (aG.mp hi) ?_;clear hi;intro v1 r1 z5 i1 hi;subst z5;obtain rfl:=be.mp hi;refine bl (L.openX S i1) fun t xs n z6 ht hL=>?_;subst z6;have hlt:=aR ht;have e1:xs.size=l.length:=by rw[<-aF,bb hL,af]
 refine b5 (call_sum_walkAnyS (wY (items:=xs) (dK _ ht rfl n rfl) ?_));have W:=Walks.list (prog:=G.prog) (w:=G.w) (A:=B.A.in1) (O.calm hn) s.heap.objs.size t (bP hlt) xs;refine⟨s.heap.objs.size,_,_,_,xs.size,_,_,fun i=>l.getD i 0,rfl,W.toS,⟨(cB _ (aN _ rfl) rfl rfl),(dK _ (aX _ ht) rfl n rfl)⟩,fun b hb=>?_,fun i v hv=>?_,fun s' t' hm=>?_⟩
 .show b<(s.heap.push _).objs.size
  rw[bV];rcases ao.mp hb with e|hb;.rw[e];exact c9 _
  .rw[ap.mp hb];exact gG hlt
 .have hi':i<l.length:=by rw[<-e1];exact(kS.mp hv).1
  have hd:(l.map DV.int)[i]?=ac (.int (l.getD i 0)):=by rw[bj,kW,cM hi'];rfl
  refine ar (ln hL hd) fun u hu iu=>?_;rw[di,hv] at hu;(injection hu with hu;subst hu);exact bA.mp iu
 .intro hz
  rw[NB hm] at hz ⊢;have e:WV (fun i=>l.getD i 0) xs.size=A4 l:=by rw[e1,Dg l l.length (aI _),bt (aI _)]
  rw[e];exact⟨_,Y,Z,V,S.grow0 (t:=s'.toks) (fun b o nb x=>hm.heap b o (by simpa using nb) (aX _ x)) hz,.refl _,bA.mpr ⟨_,rfl⟩,q⟩
theorem Ea{K:Type}[DecidableEq K][DK K]{l:List (K×DV)}{k:K}(R:fF a (DK.mo l) (DK.mo (xj l k)) Z Z')(hl:l.length<=1000000)(h:ku l k=ac d)(q:Q d Y Z'):cI G B E (.builtin "dict.pop") ([.ptr a]++[DK.key k]) Y Z Q:=by intro V s vs S hi;refine aM (aG.mp hi) ?_;clear hi;intro v zz z1 iv hi;subst z1;refine aM (aG.mp hi) ?_;clear hi;intro kv zz z2 ik hi;subst z2;obtain rfl:=be.mp hi;refine aZ (aT.mp iv) fun z3 zz=>?_;subst z3;refine bB (DK.moOpen (S.mu _ R.mem)) fun o kvs ho lo hd hk=>?_;have hD:s.heap.DictOf (DK.knd G.prog G.w (K:=K)) a kvs:=bc.mpr (bq o ho hd);refine ar (hk.some h) fun u hu iu=>?_;refine qj nK hD.typeIs mJ (PySem.F.args_dict_pop_2 _ _) (K3 _ a (DK.is ik) [] (.inl rfl) (DK.part ik)) (dw kvs u hD (by rw[hk.length];exact ae hl (by decide)) hu (fun h' hD' hs=>?_));refine ar (bc.mp hD') fun o' ho' hd'=>?_;exact⟨d,Y,Z',V,S.repl R hs (DK.moShut ho' lo hd' hk.rem),.refl _,iu,q⟩
theorem sV{R:yL->ay->Prop}{target it body orelse env}(I:Nat->ay->Prop)(turn:∀n s,I n s->bd (bf prog w) A (CP it) (fun r s_1=>match r with|none=>bd (bf prog w) A (eG orelse env) (fun f s_3=>R (.ok f) s_3) (wZ (bf prog w) A env fun e s'=>R (.error e) s') s_1|some v=>bd (bf prog w) A (VZ target it v) (fun zz s1'=>bd (bf prog w) A (assign target env v) (fun zz s_2=>bd (bf prog w) A (eG body env) (fun f s_3=>match f with|.next|.cont=>∃m,m<n/\I m s_3|.brk=>R (.ok .next) s_3|.ret v=>R (.ok (.ret v)) s_3) (wZ (bf prog w) A env fun e s'=>R (.error e) s') s_2) (wZ (bf prog w) A env fun e s'=>R (.error e) s') s1') (wZ (bf prog w) A env fun e s'=>R (.error e) s') s_1) (wZ (bf prog w) A env fun e s'=>R (.error e) s') s)(n)(h:I n s):fJ (bf prog w) A (.forLoop target it body orelse env) R s:=by refine codeAny_loop' rfl I (fun n s hI=>?_) n h;show bd _ _ ((forTurn target it body orelse env).onRaise (fun x=>do RG x env;theTreesLotGoes x)) _ _ s;refine wpAny_noted ?_;simp only[forTurn];refine ah (cG (ah (FG (aQ (turn n s hI) (fun r s_1 h₁=>?_) fun zz zz h'=>cG h'))));cases r with|none=>exact aH (.inr ⟨rfl,codeAny_block h₁⟩)|some v=>refine ah (aQ h₁ (fun zz s1' h_1'=>?_) fun zz zz h'=>h');refine ah (aQ h_1' (fun zz s_2 h_2=>ah (aQ h_2 (fun f s_3 h_3=>?_) fun zz zz h'=>h')) fun zz zz h'=>h');cases f with|next=>exact aH (.inl ⟨rfl,h_3⟩)|cont=>exact aH (.inl ⟨rfl,h_3⟩)|brk=>exact aH h_3|ret v=>exact aH h_3
theorem b9.turn2(S:b9 (cx G B) V Y ((a,m1)::(b,m2)::Z) s)(hk:∀x o,x≠a->x≠b->s.heap.get? x=ac o->h'.get? x=ac o)(hsz:s.heap.objs.size<=h'.objs.size)(h1:jv G.prog G.w V h'.get? a m1')(h2:jv G.prog G.w V h'.get? b m2'):b9 (cx G B) V Y ((a,m1')::(b,m2')::Z) {s with heap:=h',toks:=t}:=by
 have dj:=av.mp S.dj;have d2:=av.mp dj.2;have d3:=av.mp d2.2;have nLa:B.L≠a:=fun e=>dj.1 (e▸.head _);have nLb:B.L≠b:=fun e=>dj.1 (e▸.tail _ (.head _));have na:∀p∈Z,p.1≠a:=fun p hp e=>d2.1 (.tail _ (az.mpr (bq p hp e)));have nb:∀p∈Z,p.1≠b:=fun p hp e=>d3.1 (az.mpr (bq p hp e));have va:V a=aq:=S.vm (a,m1) (.head _);have vb:V b=aq:=S.vm (b,m2) (.tail _ (.head _));have ma:=S.mf (a,m1) (.head _);have mb:=S.mf (b,m2) (.tail _ (.head _));refine ar S.m ?_;(try clear m);intro m z1 he;refine fx z1 ?_;clear z1;intro oL es ep hL r;refine⟨(bq m (o6 oL es ep (hk _ _ nLa nLb hL) r) he),S.nd,fun p hp=>?_,S.dj,fun x o e=>hk x o (fun q=>by subst q;rw[va] at e;injection e) (fun q=>by subst q;rw[vb] at e;injection e) (S.vh _ _ e),S.vL,fun p hp=>?_,S.fr,S.v0,S.b0,fun p hp=>?_,fun x o n l e=>?_,ae S.sz hsz,S.hk,S.rest⟩
 .rcases ao.mp hp with rfl|hp
  .exact h1
  .rcases ao.mp hp with rfl|hp
   .exact h2
   .refine aY ((S.mu p (.tail _ (.tail _ hp))).at) fun o ho=>?_
    exact(S.mu p (.tail _ (.tail _ hp))).mono (.refl _) ((hk _ _ (na p hp) (nb p hp) ho).trans ho.symm)
 .rcases ao.mp hp with rfl|hp
  .exact va
  .rcases ao.mp hp with rfl|hp
   .exact vb
   .exact S.vm p (.tail _ (.tail _ hp))
 .rcases ao.mp hp with rfl|hp
  .exact ma
  .rcases ao.mp hp with rfl|hp
   .exact mb
   .exact S.mf p (.tail _ (.tail _ hp))
 .refine ar (S.pr x o n l e) fun o' e' r=>?_
  have lt:=aR e;refine bq o' (hk x o' (fun q=>?_) (fun q=>?_) e') r
  .subst q
   rcases ma with z|z;.exact n z
   .exact absurd lt (bu.mpr z)
  .subst q
   rcases mb with z|z;.exact n z
   .exact absurd lt (bu.mpr z)
theorem b9.adopt{s_0:ay}{a:aW}(S:b9 (cx G B) V Y Z s)(ha:s_0.heap.objs.size<=a)(ho:s.heap.get? a=ac o)(hv:V a=aq)(h0:B.s0.heap.objs.size<=s_0.heap.objs.size)(hL:B.L<s_0.heap.objs.size)(hZ:∀p∈Z,p.1<s_0.heap.objs.size):b9 (cx G B) (fS V a o) Y Z s:=by have S2:=S.addMu (new:=[(a,.obj o)]) (s_0:=s_0) (fun p hp=>by cases ap.mp hp;exact ho) (fun p hp=>by cases ap.mp hp;exact hv) (fun p hp=>by cases ap.mp hp;exact ha) (by simp) h0 hL hZ;exact S2.freeze (Z1:=[]) (ae h0 ha) ho
def yy(it:aW)(i:Nat)(o:uD):Prop:=∃old,o={cls:=.type "enumerate",dict:=aq,data:=.fields #[.none,.bool ak,.ref it,fb (i:Int),.none,old],slots:=#[]}
def Dt(G:G0)(ds:List DV)(i:Nat)(V:Vw)(o:uD):Prop:=∃l,o.cls=.type "list_iterator"/\o.data=.fields #[.ref l,.int (i:Int) 0]/\Is G.prog G.w V (.lst ds) (.ref l)
theorem me{G:G0}(ds i):∀V V' o,Kp V V'->Dt G ds i V o->Dt G ds i V' o:=fun V V' o k z2=>bp z2 fun l a b c=>(cB l a b (c.mono k))
@[reducible] noncomputable def zu(G:G0)(ds:List DV)(e it:aW)(i:Nat):Mu:=[(e,.pr (yy it i)),(it,.prV (Dt G ds i) (me ds i))]
theorem HD(O:B.Ok G)(q:∀e it,Q (.ptr e) Y (zu G ds e it 0++Z)):cI G B E (.type "enumerate") [.lst ds] Y Z Q:=by
 intro V s vs S hi;refine aM (aG.mp hi) ?_;clear hi;intro v1 r1 z3 i1 hi;subst z3;obtain rfl:=be.mp hi;refine bl (LS.openX (.inl rfl) S i1) fun l xs n z4 hl hL=>?_;subst z4;refine call_enumerate_1 hl fun h' he hit hsz hk=>?_;have S1:=S.grow0 (h':=h') (t:=s.toks) (fun b o zz x=>hk b o x) (by rw[hsz];exact cg _ 2);have vn:∀a,s.heap.objs.size<=a->V a=aq:=fun a ha=>by cases c:V a with|none=>rfl|some o=>exact absurd (aR (S.vh _ _ c)) (bu.mpr ha)
 refine bp hit ?_;clear hit;intro oi hoi hci hdi;refine⟨_,Y,_,V,S1.addMu (new:=zu G ds (s.heap.objs.size+1) s.heap.objs.size 0) (s_0:=s) (fun p hp=>?_) (fun p hp=>?_) (fun p hp=>?_) ?_ S.sz S.frLt (fun p hp=>S.muLt hp),.refl _,aT.mpr ⟨rfl,rfl⟩,q _ _⟩
 .rcases ao.mp hp with rfl|hp
  .exact⟨_,he,_,rfl⟩
  .cases ap.mp hp
   exact⟨oi,hoi,l,hci,hdi,i1⟩
 .rcases ao.mp hp with rfl|hp
  .exact vn _ (cD _)
  .cases ap.mp hp
   exact vn _ (aI _)
 .rcases ao.mp hp with rfl|hp
  .exact cD _
  .cases ap.mp hp
   exact aI _
 .simp
theorem Hc{I:Nat->aP->Mu->Prop}{Q:Fl->aP->Mu->Prop}(O:B.Ok G)(hn:B.hd=ak)(S:b9 (cx G B) V Y (zu G ds e it 0++Z) s)(h0:I 0 Y Z)(hH:∀V_3 Z2 s_3,H (CI B V_3 Z2 s_3))(st:∀i d,ds[i]?=ac d->∀Y2 Z2,I i Y2 Z2->wK G B H (.Tuple [.Name x px,.Name y py] kk tp) body (.tup [.int (i:Int),d]) (I (i+1)) Q Y2 Z2)(hend:∀Y2 Z2,I ds.length Y2 Z2->Q .next Y2 Z2)(hq:∀f fl Y4 Z4 V5 s_5,b9 (cx G B) V5 Y4 Z4 s_5->Kp V V5->wL G.prog G.w V5 fl f->Q fl Y4 Z4->T (.ok f) s_5):fJ (bf G.prog G.w) B.A (.forLoop (.Tuple [.Name x px,.Name y py] kk tp) (.ref e) body [] B.env) T s:=by
 refine sV (VL G B V (zu G ds e it) ds.length I) (fun n s' z=>iG z fun i Y2 Z2 V' hi hnn S' k' hI=>?_) ds.length (jw 0 Y Z V (a7 _) rfl S (.refl _) h0);refine wu (S'.mu (e,.pr (yy it i)) (.head _)) fun oe' hoe' old' z8=>?_;subst z8;refine wt (S'.mu (it,.prV (Dt G ds i) (me ds i)) (.tail _ (.head _))) fun oi hoi l hci hdi hil=>?_;refine bl (LS.openX (Z:=zu G ds e it i++Z2) (.inl rfl) S' hil) fun l xs nl el hl hL=>?_;(injection el with el;subst el);have dj:=av.mp S'.dj;have nei:e≠it:=fun q=>(av.mp dj.2).1 (q▸.head _);have xsz:xs.size=ds.length:=by rw[<-aF,bb hL]
 have vd:∀{b:aW},(b=e\/b=it)->V' b=aq:=fun h=>by
  rcases h with rfl|rfl;.exact S'.vm (_,.pr (yy it i)) (.head _)
  .exact S'.vm (_,.prV (Dt G ds i) (me ds i)) (.tail _ (.head _))
 cases hd:ds[i]? with|none=>have e':i=ds.length:=w4 hi (gX.mp hd);subst e';exact b5 (wpAny_pyNext_enum_end (O.calm hn) hoe' (cB oi hoi hci hdi) (dK _ hl rfl nl rfl) (by rw[i9];rw[xsz];exact aI _) fun h' hx hz=>ja (hq .next .next _ _ _ _ (b9.gone (b9.drop S') (t:=s'.toks) hx hz) k' rfl (hend _ _ hI)))|some d'=>
  have hlt:i<ds.length:=(cq.mp hd).1;refine ar (ln hL hd) fun u hu iu=>?_;refine wpAny_pyNext_enum_item hoe' (cB oi hoi hci hdi) (dK _ hl rfl nl rfl) (x:=u) (by rw[<-di];exact hu) nei fun h' ho hit' hT hsz hk=>?_;have szn:V' s'.heap.objs.size=aq:=S'.fresh;have hlt':∀p∈zu G ds e it i++Z2,p.1<s'.heap.objs.size:=fun p hp=>S'.muLt hp;have hfr:=S'.frLt;have hsz0:=S'.sz;refine bp hit' ?_;clear hit';intro oi' hoi' hci' hdi';have S2:b9 (cx G B) V' Y2 ((e,.obj {cls:=.type "enumerate",dict:=aq,data:=.fields #[fb s'.heap.objs.size,.bool ak,.ref it,fb ((i:Int)+1),.none,u],slots:=#[]})::(it,.prV (Dt G ds (i+1)) (me ds (i+1)))::Z2) {s' with heap:=h',toks:=s'.toks+1}:=b9.turn2 S' (fun x o a b c=>hk x o a b c) (by rw[hsz];exact cD _) ho ⟨oi',hoi',l,hci',hdi',hil⟩;have S3:=S2.adopt (s_0:=s') (a:=s'.heap.objs.size) (aI _) hT szn hsz0 hfr (fun p hp=>by
   rcases ao.mp hp with rfl|hp;.exact hlt' (e,.pr (yy it i)) (.head _)
   .rcases ao.mp hp with rfl|hp
    .exact hlt' (it,.prV (Dt G ds i) (me ds i)) (.tail _ (.head _))
    .exact hlt' p (.tail _ (.tail _ hp)))
  have k3:Kp V' (fS V' s'.heap.objs.size {cls:=.type "tuple",data:=.seq #[.int i s'.toks,u]}):=dc szn;have iT:Is G.prog G.w (fS V' s'.heap.objs.size {cls:=.type "tuple",data:=.seq #[.int i s'.toks,u]}) (.tup [.int (i:Int),d']) (.ref s'.heap.objs.size):=by show Exists _;exact cJ _ _ _ _ rfl (bT _ _ _) rfl ⟨rfl,rfl⟩ rfl (aG.mpr (bO _ _ rfl (bA.mpr ⟨_,rfl⟩) (aG.mpr (bO _ _ rfl (iu.mono k3) (be.mpr rfl)))))
  generalize fS V' s'.heap.objs.size {cls:=.type "tuple",data:=.seq #[.int i s'.toks,u]}=V3 at S3 k3 iT;refine wpAny_letOwnedTupleGo_enum ho fun h2 he2 hs2=>?_;have S4:b9 (cx G B) V3 Y2 (zu G ds e it (i+1)++Z2) {s' with heap:=h2,toks:=s'.toks+1}:=S3.turn0 (t:=s'.toks+1) (mo':=.pr (yy it (i+1))) hs2 ⟨_,he2,_,rfl⟩;exact B4 O S4 iT (hH _ _ _) (st i d' hd Y2 Z2 hI) (fun Y4 Z4 V5 s_5 RA k h=>⟨ds.length-(i+1),hnn▸XX hlt,i+1,Y4,Z4,V5,hlt,rfl,RA,k'.trans (k3.trans k),h⟩) fun f fl Y4 Z4 V5 s_5 UB k hf h=>hq f fl _ _ _ _ UB (k'.trans (k3.trans k)) hf h
theorem MG{Q:Fl->aP->Mu->Prop}(O:B.Ok G)(hn:B.hd=ak)(hH:∀V_3 Z2 s_3,H (CI B V_3 Z2 s_3))
  (h:EV G B E (a9 iter B.env) Y Z fun d Y1 Z1=>∃ds e it Z',d=.ptr e/\Z1=zu G ds e it 0++Z'/\∃I:Nat->aP->Mu->Prop,I 0 Y1 Z'/\
   (∀i d,ds[i]?=ac d->∀Y2 Z2,I i Y2 Z2->wK G B H (.Tuple [.Name x px,.Name y py] kk tp) body (.tup [.int (i:Int),d]) (I (i+1)) Q Y2 Z2)/\
   (∀Y2 Z2,I ds.length Y2 Z2->Q .next Y2 Z2))
  (hset:∀x,jV iter B.env x=pure x):EX G B E (fc (.For (.Tuple [.Name x px,.Name y py] kk tp) iter body [] pos) B.env) Y Z Q:=by
 intro V s S;refine wpAny_For (WP.use h S (fun xv s_1 d Y1 Z1 V_1 S_1 k_1 i_1 z6=>d5 z6 fun ds e it Z' ed y31=>Fi y31 fun em I hI0 hstep hend=>?_)) hset;subst ed em;refine aZ (aT.mp i_1) fun z7 zz=>?_;subst z7;refine wu (S_1.mu (e,.pr (yy it 0)) (.head _)) fun oe hoe old eoe=>?_;subst eoe;exact wpAny_pyIter_enum hoe (Hc O hn S_1 hI0 hH hstep hend fun f fl Y4 Z4 V5 s_5 S_5 k hf hq=>⟨fl,Y4,Z4,V5,S_5,k_1.trans k,hf,hq⟩)
theorem IR(v):∀(n:Nat)acc,(Wn (fun x1 x2:Array aE=>x1++x2) acc (d8 n #[v])).toList=acc.toList++d8 n v:=by
 intro p0_;induction p0_ with
 |zero=>intro acc;simp
 |succ n ih=>intro acc;rw[FP,Ld,ih];simp[FP]
theorem Mj(h:Is G.prog G.w V d v):∀n,Mine.gP G.prog G.w V (d8 n d) (d8 n v):=by intro p0_;induction p0_ with|zero=>exact be.mpr rfl|succ n ih=>exact aG.mpr (bO _ _ rfl h ih)
theorem LR{x:DV}(O:B.Ok G)(hn:n<=1000000)(q:Q (.lst (d8 n x)) Y Z):O2 G B E (Is G.prog G.w) (fK .Mult) (.lst [x]) (.int (n:Int)) Y Z Q:=by
 intro V s a b S ia ib;refine bl (LS.openX (.inl rfl) S ia) fun l vs k z1 hl hL=>?_;subst z1;refine aY (bA.mp ib) fun u z2=>?_;subst z2;refine aM (aG.mp hL) fun v r e iv hr=>?_;obtain rfl:=be.mp hr;have ev:vs=#[v]:=by rw[<-Array.toArray_toList (xs:=vs),e]
 subst ev;have hx0:(0:Int)<=(n:Int):=by exact cb _
 have hx1:(n:Int)<=1000000:=by exact G7 hn rfl
 have hxn:(n:Int).toNat=n:=mD n;generalize(n:Int)=x' at hx0 hx1 hxn ⊢;have c0:¬(!rV x')=ai:=by simp[rV];exact YC hx0 hx1
 have c1:¬(#[v]:Array aE).size*x'.toNat>(2 ^ 63-1) / 8:=by simp;exact E9 hx1 rfl
 have c2:¬ti ((#[v]:Array aE).size*x'.toNat)=ai:=by simp[ti,fZ];exact E9 hx1 rfl
 refine wpAny_binaryOp_repeat_ref (T:="list") (U:="int") (by decide) (bq _ hl rfl) (fun s'=>typeIs_int s' x' u) noFill_list_mul PySem.F.fills_int_mul AN repeat_list PySem.F.slot_int_index.lookup
  (qk AN (typeIs_int s x' u) PySem.F.entry_int_rmul (PySem.F.args_int_rmul_2 _ _) (int___rmul___int_list x' u l #[v] k)
   (o7 hl rfl (bq _ hl rfl) (qk PySem.F.slot_list_mul (bq _ hl rfl) PySem.F.entry_list_mul (PySem.F.args_list_mul_2 _ _)
    (aI' l #[v] k x' u c0 c1 c2)
    ⟨hl,?_⟩)))
 have S1:=S.alloc O.c {cls:=.type "list",data:=.seq (Wn (fun x1 x2:Array aE=>x1++x2) #[] (d8 (if(#[v]:Array aE).isEmpty=ai then 0 else x'.toNat) #[v]))} rfl;refine⟨.lst (d8 n x),Y,Z,_,S1,dc S.fresh,?_,q⟩;show Exists _;refine cJ _ _ _ 0 rfl (bT _ _ _) rfl ⟨rfl,rfl⟩ rfl ?_;rw[IR,show(if(#[v]:Array aE).isEmpty=ai then 0 else x'.toNat)=n from by simp[hxn]];exact Mj (iv.mono (dc S.fresh)) n
theorem E5:∀l:List Int,Bt (l.map DV.int)=ac (l.map iA):=by intro p0_;induction p0_ with|nil=>exact rfl|cons i r ih=>rw[au,Bt,ih];rfl
theorem BS:∀l:List Int,i6 (l.map iA)=ai/\j0 (l.map iA)=0:=by
 intro p0_;induction p0_ with|nil=>exact⟨rfl,rfl⟩|cons i r ih=>
  refine aZ (ih) fun a b=>?_;refine⟨?_,?_⟩;.rw[au,i6,a];rfl
  .rw[au,j0,b];rfl
theorem tB(l:List Int):a6 (.list (l.map iA))=ai:=by unfold a6;rw[wQ,(BS l).1,AP,(BS l).2];rfl
theorem Ca:∀a b:List Int,f7 (a.map iA) (b.map iA)=decide (a=b)|[],[]=>rfl|[],_::_=>rfl|_::_,[]=>rfl|x::a,y::b=>by rw[au,au,f7,Ca a b];by_cases h1:x=y<;>by_cases h2:a=b<;>simp[a8,h1,h2]
theorem vv{a b:List Int}(O:B.Ok G)(D:LS Z d (a.map DV.int))(D':LS Z d' (b.map DV.int))(q:Q (.bool (!decide (a=b))) Y Z):O2 G B E (Is G.prog G.w) (bi .NotEq) d d' Y Z Q:=by refine Bw O (x:=.list (a.map iA)) (y:=.list (b.map iA)) (.inr (bO _ _ D (E5 a) rfl)) (.inr (bO _ _ D' (E5 b) rfl)) (tB a) (tB b) ?_;rw[a8,Ca];exact q
theorem D1{Q:List aE->ay->Prop}(it){T:String}(hT:T = "list"\/T = "tuple")(hsz:items.size<=fZ)(ho:s.heap.get? it=ac o)(hc:o.cls=.type T)(hd:o.data=.seq items n)(hQ:∀h',(∀b o',s.heap.get? b=ac o'->h'.get? b=ac o')->s.heap.objs.size<=h'.objs.size->Q items.toList {s with heap:=h'}):bd (bf prog w) A (collect (.ref it)) Q E s:=b5 (wpAny_collect_seq (hsz:=hsz) it hT ho hc hd fun h' hk hz=>hQ h' hk hz)
theorem yV(l o items n)(hc:o.cls=.type "list")(hd:o.data=.seq items n)(hsz:items.size<=fZ):Meets (gT.«tuple.__new__» ⟨[.type "tuple",.ref l],[]⟩) (fun zz R s=>s.heap.get? l=ac o/\∀h':jl,(∀b o',s.heap.get? b=ac o'->h'.get? b=ac o')->s.heap.objs.size<=h'.objs.size->R (.ok (.ret (.ref h'.objs.size))) {s with heap:=h'.push {cls:=.type "tuple",data:=.seq items}}):=
 .of_wp fun prog w A R s h=>by
  obtain⟨hp,g,d,tk,os⟩:=s;refine aZ h ?_;clear h;intro ht h;have hsub:=sub_tuple_self;have hinit:=init_tuple_lookup;have hmh:=madeHere_tuple;have hT:Shared.TypeIs ⟨hp,g,d,tk,os⟩ (.ref l) "list":=(bq o ht hc)
  wp_walk using AutoSeq1.wpAny_loadPart' ht,wX hT,D1 l (.inl rfl) hsz ht hc hd;intro h' hk hz;show bd _ _ (sb items.toList.toArray >>= fun v=>ret v) _ _ _;unfold sb;refine ah (dm ?_ (by show items.toList.toArray.size<=fZ;simpa using hsz));refine aH (bq _ rfl ?_);have e:items.toList.toArray=items:=by simp
  rw[e];exact h h' hk hz
theorem kP{ds:List DV}(O:B.Ok G)(hl:ds.length<=1000000)(q:Q (.tup ds) Y Z):cI G B E (.type "tuple") [.lst ds] Y Z Q:=by
 intro V s vs S hi;refine aM (aG.mp hi) ?_;clear hi;intro v1 r1 z1 i1 hi;subst z1;obtain rfl:=be.mp hi;refine bl (LS.openX (.inl rfl) S i1) fun l xs n z2 hlo hL=>?_;subst z2;have hsz:xs.size<=fZ:=by rw[<-aF,bb hL];exact ae hl (by decide)
 refine callType_new F.called_tuple (by decide) (F.typeCall_tuple_1 _) (F.newCall_tuple_1 _) (fun obj=>Ij obj _) F.entry_tuple_new (yV l _ xs n rfl rfl hsz) ⟨hlo,fun h' hk hz=>⟨(bq _ (aN _ rfl) rfl),?_⟩⟩;have S1:=S.grow0 (h':=h') (t:=s.toks) (fun b o zz x=>hk b o x) hz;have S2:=S1.alloc O.c {cls:=.type "tuple",data:=.seq xs} rfl;refine⟨.tup ds,Y,Z,_,S2,dc S1.fresh,?_,q⟩;show Exists _;exact cJ _ _ _ 0 rfl (bT _ _ _) rfl ⟨rfl,rfl⟩ rfl (hL.mono (dc S1.fresh))
theorem Nd:Of (.type "bytes") "__bytes__" = pure (ac (.builtin "bytes.__bytes__")):=by rw[VY,KG];kernel_rfl
theorem Cr:Meets (gT.«bytes.__new__» ⟨[.type "bytes",.bytes b t],[]⟩) (fun zz R s=>R (.ok (.ret (.bytes b t))) s):=by refine .of_wp fun prog w A R s h=>?_;unfold gT.«bytes.__new__»;refine ah (hO (a:=ai) rfl ?_);refine K7 rfl ?_;refine ah (hO F.bm_sub ?_);refine K7 rfl ?_;refine ah (hO (F.bm_bind _) ?_);refine ah (hO (a:=()) rfl ?_);refine ah (hO (a:=()) rfl ?_);refine K7 rfl ?_;refine ah (hO (KBy.special_eq Nd) ?_);refine ah (qi ?_);refine ah (hO (a:=cV "bytes") rfl ?_);refine bm_if_true (by decide) ?_;exact aH (bq _ rfl h)
theorem Az(q:Q (.byt b) Y Z):cI G B E (.type "bytes") [.byt b] Y Z Q:=by intro V s vs S hi;refine aM (aG.mp hi) ?_;clear hi;intro v1 r1 z3 i1 hi;subst z3;obtain rfl:=be.mp hi;have hv:=i1;refine aY i1 ?_;clear i1;intro t z4;subst z4;exact callType_new F.bm_called (by decide) (F.bm_typeCall _) (F.bm_newCall _) (fun obj=>Ij obj _) F.bm_entry Cr ⟨PySem.W.typeIs_bytes _ _ _,_,Y,Z,V,S,.refl _,hv,q⟩
mutual
noncomputable def oB:DV->Bool|.raw .none=>ai|.raw (.bool _)=>ai|.int _=>ai|.str _=>ai|.byt _=>ai|.tup l=>kI l|_=>ak
noncomputable def kI:List DV->Bool|[]=>ai|d::r=>oB d&&kI r
end
mutual
noncomputable def Hs:DV->Nat|.tup l=>wv l+1|_=>0
noncomputable def wv:List DV->Nat|[]=>0|d::r=>max (Hs d) (wv r)
end
mutual
theorem MU {s:ay} (k:Kp V s.heap.get?):∀d A a b,oB d=ai->A.units+Hs d<K6->Is prog w V d a->Is prog w V d b->nJ A s a b ai
 |.raw u,A,a,b,h,hu,i,j=>by refine aZ (aT.mp i) fun z5 zz=>?_;subst z5;refine aZ (aT.mp j) fun z6 zz=>?_;subst z6;exact CR _
 |.int x,A,a,b,h,hu,i,j=>by refine aY (bA.mp i) fun t z7=>?_;subst z7;refine aY (bA.mp j) fun u z8=>?_;subst z8;have:=ZZ (A:=A) (s:=s) x t x u;rwa[beq_self_eq_true] at this
 |.str x,A,a,b,h,hu,i,j=>by refine aY (ir.mp i) fun t z9=>?_;subst z9;refine aY (ir.mp j) fun u z10=>?_;subst z10;have:=ZX (A:=A) (s:=s) x t x u;rwa[beq_self_eq_true] at this
 |.byt x,A,a,b,h,hu,i,j=>by refine aY i ?_;clear i;intro t z11;subst z11;refine aY j ?_;clear j;intro u z12;subst z12;intro prog w E Q hQ;exact eqBool_bytes (by simpa using hQ)
 |.tup l,A,a,b,h,hu,i,j=>by
  refine bE i ?_;clear i;intro a o vs n z13 h1 h2 h3 h4 h5;subst z13;refine bE j ?_;clear j;intro b o' vs' n' z14 k1 k2 k3 k4 k5;subst z14;by_cases hab:a=b;.subst hab;exact CR _
  .have n1:vs.size=l.length:=by rw[<-aF,bb h5]
   have n2:vs'.size=l.length:=by rw[<-aF,bb k5]
   refine ZY hab ?_;have:=ZW (A:=A) (s:=s) (l:=a) (b:=b) (items:=vs) (items2:=vs') (e:=fun zz=>ai) (dK _ (k _ _ h1) h2 n h4) (dK _ (k _ _ k1) k2 n' k4) (YB hu) (fun q q1 q2=>by have:=wn k l A.in1 vs.toList vs'.toList h (by show A.units+1+_<_;exact YA hu) h5 k5 q (by simpa using q1) (by simpa using q2);simpa using this);have e:((dH (min vs.size vs'.size)).all (fun zz=>ai)&&vs.size==vs'.size)=ai:=by rw[n1,n2];simp
   rw[e] at this;exact this
 |.lst _,_,_,_,h,_,_,_=>jR h|.sdic _,_,_,_,h,_,_,_=>jR h|.idic _,_,_,_,h,_,_,_=>jR h|.inst _ _,_,_,_,h,_,_,_=>jR h|.any,_,_,_,h,_,_,_=>jR h
theorem wn {s:ay} (k:Kp V s.heap.get?):∀l A vs ws,kI l=ai->A.units+wv l<K6->Mine.gP prog w V l vs->Mine.gP prog w V l ws->∀j h1(h2:j<ws.length),nJ A s vs[j] ws[j] ai
 |[],A,vs,ws,_,_,i,_,j,h1,_=>by obtain rfl:=be.mp i;exact absurd h1 (iL _)
 |d::r,A,vs,ws,h,hu,i,i',j,h1,h2=>by refine aM (aG.mp i) fun v vs z15 a1 a2=>?_;subst z15;refine aM (aG.mp i') fun u ws z16 b1 b2=>?_;subst z16;replace h:=cX.mp h;cases j with|zero=>exact MU k d A v u h.1 (Yz hu) a1 b1|succ j=>exact wn k r A vs ws h.2 (Yx hu) a2 b2 j (f8 h1) (f8 h2)
end
theorem Dj(O:B.Ok G)(hp:kI l=ai)(hd:wv l<=60)(q:Q (.bool ak) Y Z):O2 G B E (Is G.prog G.w) (bi .NotEq) (.tup l) (.tup l) Y Z Q:=by
 intro V s a b S i j;refine bE i ?_;clear i;intro a o vs n z17 h1 h2 h3 h4 h5;subst z17;refine bE j ?_;clear j;intro b o' vs' n' z18 k1 k2 k3 k4 k5;subst z18;have n1:vs.size=l.length:=by rw[<-aF,bb h5]
 have n2:vs'.size=l.length:=by rw[<-aF,bb k5]
 have hu:=O.line;have:=V9 (A:=B.A) (s:=s) (l:=a) (b:=b) (items:=vs) (items2:=vs') (e:=fun zz=>ai) (dK _ (S.vh _ _ h1) h2 n h4) (dK _ (S.vh _ _ k1) k2 n' k4) (BB hu) (fun q q1 q2=>by have:=wn S.vh l B.A.in1 vs.toList vs'.toList hp (by show B.A.units+1+_<_;exact Yw hd hu) h5 k5 q (by simpa using q1) (by simpa using q2);simpa using this);rw[n1,n2] at this;have e:(!((dH (min l.length l.length)).all (fun zz=>ai)&&l.length==l.length))=ak:=by simp
 rw[e] at this;exact this _ _ _ _ ⟨_,Y,Z,V,S,.refl _,aT.mpr ⟨rfl,rfl⟩,q⟩
def jm(ls:List xH)(o:uD):Prop:=∃l,o=tabObj (triples l).toArray/\l.map (·.1)=ls
def PA(qual:aV)(params:RW)(body:bZ)(scope:Ro)(clos:List (aV×aW))(V:Vw)(o:uD):Prop:=∃c' ctv pm oc vs t,o=kla_obj "<lambda>" qual params body scope clos pm c' ctv/\V c'=ac oc/\oc.data=.fields vs/\vs[1]?=ac (.str qual t)
theorem GV(qual params body scope clos):∀V V' o,Kp V V'->PA qual params body scope clos V o->PA qual params body scope clos V' o:=fun V V' o k z1=>eu z1 fun c' ctv pm oc vs y49=>bp y49 fun t e h r=>⟨c',ctv,pm,oc,vs,t,e,k _ _ h,r⟩
@[reducible] noncomputable def Dv(qual:aV)(params:RW)(body:bZ)(scope:Ro)(clos:List (aV×aW)):MO:=.prV (PA qual params body scope clos) (GV qual params body scope clos)
theorem F1:∀l,TriplesOk (triples l):=by
 intro p0_;induction p0_ with|nil=>exact trivial|cons p_ r ih=>
  rcases p_ with⟨p,c⟩
  exact ih
structure Nr (G:G0):Prop where
 name:G.mg "__builtins__" = ac (.ref 4)
 at4:∃ob,G.hb.get? 4=ac ob/\ob.cls=.type "module"/\ob.dict=ac d9/\ob.data=.plain
theorem b9.turnX{m1 m1':MO}(S:b9 (cx G B) V Y ((a,m1)::Z) s){h':jl}{t:Nat}(hk:∀x o,x≠a->s.heap.get? x=ac o->h'.get? x=ac o)(hsz:s.heap.objs.size<=h'.objs.size)(h1:jv G.prog G.w V h'.get? a m1'):b9 (cx G B) V Y ((a,m1')::Z) {s with heap:=h',toks:=t}:=by
 have dj:=av.mp S.dj;have d2:=av.mp dj.2;have nLa:B.L≠a:=fun e=>dj.1 (e▸.head _);have na:∀p∈Z,p.1≠a:=fun p hp e=>d2.1 (az.mpr (bq p hp e));have va:V a=aq:=S.vm (a,m1) (.head _);have ma:=S.mf (a,m1) (.head _);refine ar S.m ?_;(try clear m);intro m z2 he;refine fx z2 ?_;clear z2;intro oL es ep hL r;refine⟨(bq m (o6 oL es ep (hk _ _ nLa hL) r) he),S.nd,fun p hp=>?_,S.dj,fun x o e=>hk x o (fun q=>by subst q;rw[va] at e;injection e) (S.vh _ _ e),S.vL,fun p hp=>?_,S.fr,S.v0,S.b0,fun p hp=>?_,fun x o n l e=>?_,ae S.sz hsz,S.hk,S.rest⟩
 .rcases ao.mp hp with rfl|hp
  .exact h1
  .refine aY ((S.mu p (.tail _ hp)).at) fun o ho=>?_
   exact(S.mu p (.tail _ hp)).mono (.refl _) ((hk _ _ (na p hp) ho).trans ho.symm)
 .rcases ao.mp hp with rfl|hp
  .exact va
  .exact S.vm p (.tail _ hp)
 .rcases ao.mp hp with rfl|hp
  .exact ma
  .exact S.mf p (.tail _ hp)
 .refine ar (S.pr x o n l e) fun o' e' r=>?_
  have lt:=aR e;refine bq o' (hk x o' (fun q=>?_) e') r;subst q;rcases ma with z|z;.exact n z
  .exact absurd lt (bu.mpr z)
theorem kx{body:bZ}{ls:List xH}(O:B.Ok G)(Bm:Nr G)(hdef:defaultsOf params B.env=([],[]))(hcl:Op scope B.env=pure clos)(hcode:B.env.code=.ref c)(C:∀h,G.K.In h->Xd h c P)(hn:ls.all (fun q=>!(q.line==pos.line&&q.col==pos.col))=ai)(R:fF P (.pr (jm ls)) (.pr (jm (ls++[pos]))) Z Z')(hP:P≠4/\P≠ce)(q:∀f,Q (.ptr f) Y ((f,Dv (B.env.qual ++ "<lambda>") params body scope clos)::Z')):EV G B E (a9 (.Lambda params body scope pos) B.env) Y Z Q:=by
 intro V s S;refine cY R.split fun Z1 Z2 z3 z4=>?_;subst z3;subst z4;have S:=S.perm gS;refine Ar (S.mu (P,_) (.head _)) fun oP hoP l z5 hls=>?_;subst z5;have hns:s.heap.Ns ce G.mg:=O.g.g.keeps S.base;have hnf:codeAmong pos (triples l).toArray.toList=aq:=by rw[kC];refine codeAmong_triples pos l fun q hq z6=>aZ z6 fun e1 e2=>?_;have:=aU.mp hn q.1 (hls▸ax hq);rw[e1,e2] at this;simp at this
 refine jE Bm.at4 fun ob b1 b2 b3 b4=>?_;refine kla_eval hdef (kla_makeFunction (mg:=G.mg) (clos:=clos) (c:=c) (P:=P) (ps:=(triples l).toArray) hcl O.c.glo hns hcode (C _ (S.kin O)) hoP (by rw[kC];exact F1 l) hnf (fun e=>hP.2 e.symm) ⟨4,ob,Bm.name,by decide,by decide,fun e=>hP.1 e.symm,S.base _ _ b1,b2,b3,b4⟩ fun c' ctv h' tk hx hge hlt hrec htb=>?_);refine eh hrec ?_;clear hrec;intro c_2 oc vs t e2 hoc hd hv;(injection e2 with e2;subst e2);have hsz:s.heap.objs.size<=h'.objs.size:=b8 (bJ hge hlt);have S1:=S.turnX (h':=h') (t:=tk) (m1':=.pr (jm (ls++[pos]))) (fun x o n e=>hx x o n e) hsz ⟨_,htb,l++[(pos,c')],by rw[triples_append];simp,by rw[aA,hls];rfl⟩;have vn:∀a,s.heap.objs.size<=a->V a=aq:=fun a ha=>by cases z:V a with|none=>rfl|some o=>exact absurd (aR (S.vh _ _ z)) (bu.mpr ha)
 have S2:=S1.adopt (s_0:=s) hge hoc (vn _ hge) S.sz S.frLt (fun p hp=>by
  rcases ao.mp hp with rfl|hp;.exact S.muLt (p:=(P,MO.pr (jm ls))) (.head _)
  .exact S.muLt (.tail _ hp))
 have kf:Kp V (fS V c' oc):=dc (vn _ hge);have S3:=S2.allocMu O.c (kla_obj "<lambda>" (B.env.qual ++ "<lambda>") params body scope clos ((G.mg "__name__").getD .none) c' ctv) (Dv (B.env.qual ++ "<lambda>") params body scope clos) rfl ⟨_,aN _ rfl,c',ctv,_,oc,vs,t,rfl,bT _ _ _,hd,hv⟩;refine⟨.ptr h'.objs.size,Y,_,_,S3.perm ?_,kf,aT.mpr ⟨rfl,rfl⟩,q h'.objs.size⟩;exact aB' _ gS.symm
theorem QM{ok:Prop}{body:bZ}{clos:List (aV×aW)}(g:G.Ok)(hmem:(f,Dv qual params body scope clos)∈Z0)(hbind:∀pm cv ctv,i8 (kla_fn "<lambda>" qual params body scope clos pm cv ctv) ⟨[],[]⟩=pure [])(hco:scope.isCoroutine=ak)(hgen:scope.isGenerator=ak)(hk:scope.kind=.function)(hcell:∀x∈scope.names,x.2≠.cell)(H:∀B c',B.Ok G->qg B->B.k=k->B.hd=ak->B.env=envX qual scope B.L f (.ref c') clos->B.m0=Z0.map (·.1)->EV G B (fun e s'=>¬ok/\EF G B Z0 e s') (a9 body B.env) [] Z0 (fun d zz Z'=>ok/\Z'.map (·.1)=Z0.map (·.1)/\R d Z')):jg G (k+1) (.ref f) [] Z0 R ok:=by
 intro A V s vs rm hcalm hh hstk P hi;have kb:∀b o,G.hb.get? b=ac o->s.heap.get? b=ac o:=fun b o e=>P.vh _ _ (P.b0 _ _ e);obtain rfl:=be.mp hi;refine wq (P.mu _ hmem) fun fo hfo c' ctv pm y50=>eD y50 fun oc ws t z7 hVc hd hw=>?_;subst z7;have hcd:s.heap.CodeRec (.ref c') qual:=(fG c' oc ws t rfl (P.vh _ _ hVc) hd hw)
 refine kla_callFunE rm.depth hfo rfl hco hgen rfl hcd ?_;rw[hbind];refine aH (KZ hcell (fun x hx=>nomatch hx) (fun h₁ hns hsb=>⟨(g.lim.keeps kb).fresh _ hsb,?_⟩) hk);show fJ _ _ (.expr body (envX qual scope s.heap.objs.size f (.ref c') clos)) _ _;have hk_1:∀b o,s.heap.get? b=ac o->h₁.get? b=ac o:=fun b o e=>hsb.extBut b o (bP (aR e)) (aX _ e);have OB:(sB A (envX qual scope s.heap.objs.size f (.ref c') clos) V Z0 s k ak).Ok G:=q7 g ⟨hk,rfl,rfl,rfl⟩ rfl rm hcalm hstk;refine kla_codeExpr (aQ (H _ c' OB ⟨rfl,ar hstk fun l hl _=>⟨l,e9 hl⟩⟩ rfl rfl rfl rfl V _ (sm (t:=s.toks+0) P hh (bq _ hns (fun p hp=>nomatch hp)) xI hk_1)) (fun v s' z8=>iK z8 fun d Y' Z' V' S' k' i' z9=>jM z9 fun hok hks hR=>?_) fun e s'' x=>?_);.exact eB d _ V' (pq (loc:=[]) hstk rfl S' hks) i' hok hR
 .exact aQ (vF (E':=fun zz zz=>False) rfl rfl OB hstk x.2) (fun zz zz y=>⟨x.1,y⟩) fun zz zz y=>y.elim
theorem JR(O:B.Ok G)(h:EV G B E (a9 func B.env) Y Z fun fd Y1 Z1=>∃f q ps b sc cl,fd=.ptr f/\(f,Dv q ps b sc cl)∈Z1/\cI G B E (.ref f) [] Y1 Z1 Q)(he:a9 (.Call func [] [] pos) B.env=(do r7 pos (<-a9 func B.env) [] (cy pos (br [] B.env)) (pM pos (jx [] B.env)))):EV G B E (a9 (.Call func [] [] pos) B.env) Y Z Q:=by intro V s S;rw[he];refine ah (WP.use h S (fun v s_1 fd Y1 Z1 V_1 S_1 k_1 i_1 z2=>eu z2 fun f q ps b sc y9=>bp y9 fun cl e hm h₁=>?_));subst e;refine aZ (aT.mp i_1) fun z3 zz=>?_;subst z3;refine wq (S_1.mu _ hm) fun fo hfo c' ctv pm y10=>fx y10 fun oc ws t z4 zz=>?_;subst z4;refine callWith_of (P:=fun h=>h.get? f=ac (kla_obj "<lambda>" q ps b sc cl pm c' ctv)) rfl (fun h X=>(bq .frame (.inl rfl) ((CU (part:=aq) X).andThen .now))) (rG (aH ⟨hfo,?_⟩) rfl);exact aQ (h₁ V_1 s_1 [] S_1 (be.mpr rfl)) (fun zz zz=>qP.up k_1) fun zz zz x=>x
noncomputable def BU(le:α->α->Bool)(x:α):List α->List α|[]=>[x]|y::r=>if le x y then x::y::r else y::BU le x r
theorem E7(le)(x:α){y r}:BU le x (y::r)=(if le x y then x::y::r else y::BU le x r):=rfl
noncomputable def ot(le:α->α->Bool):List α->List α|[]=>[]|x::r=>BU le x (ot le r)
theorem yl(le x):∀l:List α,(BU le x l).Perm (x::l):=by
 intro p0_;induction p0_ with|nil=>exact .refl _|cons y r ih=>
  (first|rw[insG_e0]|rw[E7]|unfold BU);split;.exact .refl _
  .exact((ih).cons y).trans (.swap _ _ _)
theorem u6(le):∀l:List α,(ot le l).Perm l:=by intro p0_;induction p0_ with|nil=>exact .refl _|cons x r ih=>exact(yl le x _).trans ((ih).cons x)
theorem G4(ht:∀a b c,le a b=ai->le b c=ai->le a c=ai)(hn:∀a b,le a b=ai\/le b a=ai)(x):∀l:List α,l.Pairwise (fun a b=>le a b=ai)->(BU le x l).Pairwise (fun a b=>le a b=ai):=by
 intro p0_;induction p0_ with
 |nil=>intro zz;exact List.pairwise_singleton _ _
 |cons y r ih=>
  intro h;have h':=iM.mp h;(first|rw[insG_e0]|rw[E7]|unfold BU);split
  .rename_i e
   refine iM.mpr ⟨fun z hz=>?_,h⟩;rcases ao.mp hz with rfl|hz;.exact e
   .exact ht _ _ _ e (h'.1 z hz)
  .rename_i e
   refine iM.mpr ⟨fun z hz=>?_,ih h'.2⟩;rcases ao.mp ((yl le x r).mem_iff.mp hz) with rfl|hz;.exact(hn z y).resolve_left e
   .exact h'.1 z hz
theorem u7{le:α->α->Bool}(ht:∀a b c,le a b=ai->le b c=ai->le a c=ai)(hn:∀a b,le a b=ai\/le b a=ai):∀l,(ot le l).Pairwise (fun a b=>le a b=ai):=by intro p0_;induction p0_ with|nil=>exact .nil|cons x r ih=>exact G4 ht hn x _ (ih)
theorem EI(l):k8 l=ot (fun a b=>decide (a<=b)) l:=by
 refine(u5 (u6 _ l) ((u7 (le:=fun a b:Int=>decide (a<=b)) ?_ ?_ l).imp fun h=>by simpa using h)).symm;.intro a b c h1 h2;simp at *;exact ba h1 h2
 .intro a b;simp;exact Tv
theorem zf(l):nu l=ot xq l:=((u6 xq l).trans (qs l).symm).eq_of_pairwise (fun a b zz zz h1 h2=>BK h1 h2) (u7 (le:=xq) (fun zz zz zz=>sG) (fun a b=>by have:=yg a b;rwa[iJ] at this) l) (u0 l) |>.symm
def KE(G:G0)(B:Bx)(E:aE->ay->Prop)(t:HN Flow)(Y:aP)(Z:Mu)(Q:Fl->aP->Mu->Prop):Prop:=∀V s,b9 (cx G B) V Y Z s->bd (bf G.prog G.w) B.A t (fun v s'=>∃d Y' Z' V',b9 (cx G B) V' Y' Z' s'/\wL G.prog G.w V' d v/\Q d Y' Z') E s
theorem KE.of{Q:Fl->aP->Mu->Prop}(h:EX G B E t Y Z Q):KE G B E t Y Z Q:=fun V s S=>WP.use h S (fun v s' d Y' Z' V' S' k' i' q=>(kj d Y' Z' V' S' i' q))
noncomputable def g5(o:uD):Bool:=match o.data with
 |.dict es _=>match es.toList with|e::_=>e.key.isStrOf (aa "Type")|[]=>ak
 |_=>ak
noncomputable def nM(V:Vw):Vw:=fun a=>match V a with
 |some o=>if g5 o then aq else ac o
 |none=>aq
set_option tactic.hygienic true in
theorem Ma(V):Kp (nM V) V:=fun a o e=>by
 unfold nM at e;split at e
 .rename_i o' h
  split at e;.injection e
  ·(injection e with e;subst e);exact h
 .injection e
theorem lh(h:V a=ac o)(n:g5 o=ak):nM V a=ac o:=by unfold nM;rw[h];dsimp only;rw[n];rfl
noncomputable def Rw:List (aV×DV)->Bool|[]=>ai|(x,_)::_=>!decide (x=aa "Type")
mutual
/-- no dict in it has Type for its first key -/
noncomputable def nh:DV->Bool|.tup l=>Po l|.lst l=>Po l|.sdic l=>Rw l&&HV l|.idic l=>WO l|.inst _ l=>Rw l&&HV l|_=>ai
noncomputable def Po:List DV->Bool|[]=>ai|d::r=>nh d&&Po r
noncomputable def HV:List (aV×DV)->Bool|[]=>ai|(_,d)::r=>nh d&&HV r
noncomputable def WO:List (Int×DV)->Bool|[]=>ai|(_,d)::r=>nh d&&WO r
end
theorem yo(h:o.IsDictOf (strKind prog w) kvs)(i:Cy prog w V l kvs):g5 o=!Rw l:=by
 refine pI h ?_;clear h;intro es ep zz hd zz hp zz;unfold g5;rw[hd];dsimp only;generalize es.toList=L at hp ⊢;cases l with
 |nil=>subst i;cases hp with|nil=>rfl
 |cons p r=>obtain⟨x,d⟩:=p;refine aM i ?_;clear i;intro v rs z2 zz zz;subst z2;cases hp with|@cons e kv es' kvs' h1 h2 h3=>dsimp only;refine aY (kn h1) fun t ht=>?_;rw[ht];unfold Rw Nz;rw[nQ,wT];simp
theorem G9(h:o.IsDictOf (H5 prog w) kvs):g5 o=ak:=by refine pI h ?_;clear h;intro es ep zz hd zz hp zz;unfold g5;rw[hd];dsimp only;generalize es.toList=L at hp ⊢;cases hp with|nil=>rfl|cons h1 h2 h3=>dsimp only;refine aY (HM h1) fun t ht=>?_;rw[ht];rfl
mutual
theorem mW:∀d v,Is prog w V d v->nh d=ai->Is prog w (nM V) d v
 |.raw _,v,h,_=>by exact h
 |.int _,v,h,_=>by exact h
 |.str _,v,h,_=>by exact h
 |.byt _,v,h,_=>by exact h
 |.any,v,h,_=>by exact h
 |.tup l,v,h,n=>by show Exists _;refine bE h ?_;clear h;intro a o vs k e h1 h2 h3 h4 h5;exact cJ a o vs k e (lh h1 (by unfold g5;rw[h4])) h2 h3 h4 (rn l _ h5 n)
 |.lst l,v,h,n=>by show Exists _;refine bE h ?_;clear h;intro a o vs k e h1 h2 h3 h4 h5;exact cJ a o vs k e (lh h1 (by unfold g5;rw[h4])) h2 h3 h4 (rn l _ h5 n)
 |.sdic l,v,h,n=>by show Exists _;replace n:=cX.mp n;refine bU h ?_;clear h;intro a o kvs e h1 h2 h3 h4;exact c7 a o kvs e (lh h1 (by rw[yo h3 h4,n.1];rfl)) h2 h3 (rj l _ h4 n.2)
 |.idic l,v,h,n=>by show Exists _;refine bU h ?_;clear h;intro a o kvs e h1 h2 h3 h4;exact c7 a o kvs e (lh h1 (G9 h3)) h2 h3 (vN l _ h4 n)
 |.inst C l,v,h,n=>by show Exists _;replace n:=cX.mp n;refine eh h ?_;clear h;intro a dx es k e h1 h2 h3;refine fG a dx es k e (lh h1 rfl) (lh h2 ?_) (vP l _ h3 n.2);cases l with|nil=>subst h3;rfl|cons p r=>obtain⟨x,d⟩:=p;refine bB h3 ?_;clear h3;intro e' rs z3 z4 zz zz;subst z3;refine aY z4 ?_;clear z4;intro t ht;have n1:=n.1;unfold Rw at n1;unfold g5;simp only[ht,Nz];simpa using n1
theorem rn:∀l vs,Mine.gP prog w V l vs->Po l=ai->Mine.gP prog w (nM V) l vs|[],vs,h,_=>be.mpr (be.mp h)|d::r,vs,h,n=>by refine aM (aG.mp h) fun v rs z5 a b=>?_;subst z5;replace n:=cX.mp n;exact aG.mpr (bO v rs rfl (mW d v a n.1) (rn r rs b n.2))
theorem rj:∀l vs,Cy prog w V l vs->HV l=ai->Cy prog w (nM V) l vs
 |[],vs,h,_=>by exact h
 |(x,d)::r,vs,h,n=>by show Exists _;refine aM h ?_;clear h;intro v rs e a b;replace n:=cX.mp n;exact bO v rs e (mW d v a n.1) (rj r rs b n.2)
theorem vN:∀l vs,CJ prog w V l vs->WO l=ai->CJ prog w (nM V) l vs
 |[],vs,h,_=>by exact h
 |(x,d)::r,vs,h,n=>by show Exists _;refine aM h ?_;clear h;intro v rs e a b;replace n:=cX.mp n;exact bO v rs e (mW d v a n.1) (vN r rs b n.2)
theorem vP:∀l vs,yE prog w V l vs->HV l=ai->yE prog w (nM V) l vs
 |[],vs,h,_=>by exact h
 |(x,d)::r,vs,h,n=>by show Exists _;refine bB h ?_;clear h;intro e' rs e k a b;replace n:=cX.mp n;exact dw e' rs e k (mW d _ a n.1) (vP r rs b n.2)
end
structure KC (G:G0) (A:fR) (Z:Mu) (s:ay) (V':Vw) (Z':Mu) (s':ay):Prop where
 vh:Kp V' s'.heap.get?
 mu:∀p∈Z',jv G.prog G.w V' s'.heap.get? p.1 p.2
 as:Z'.map (·.1)=Z.map (·.1)
 pr:∀a o,a∉Z.map (·.1)->s.heap.get? a=ac o->∃o',s'.heap.get? a=ac o'/\rQ (mZ A) a o o'
 rest:ul s s'
abbrev Zv(G:G0)(B:Bx)(E:aE->ay->Prop)(rest:List jW)(Q:Fl->aP->Mu->Prop):Fl->aP->Mu->Prop:=fun f Y' Z'=>match f with|.next=>KE G B E (eG rest B.env) Y' Z' Q|f=>Q f Y' Z'
theorem mn{st:jW}{Q:Fl->aP->Mu->Prop}(h:EX G B E (fc st B.env) Y Z (Zv G B E rest Q)):KE G B E (eG (st::rest) B.env) Y Z Q:=by
 intro V s S;refine RB (WP.use h S (fun f s_1 a Y1 Z1 V_1 S_1 k_1 i_1 q=>?_));cases a with
 |next=>obtain rfl:f=.next:=i_1;exact q V_1 s_1 S_1
 |brk=>obtain rfl:f=.brk:=i_1;exact kj .brk Y1 Z1 V_1 S_1 rfl q
 |cont=>obtain rfl:f=.cont:=i_1;exact kj .cont Y1 Z1 V_1 S_1 rfl q
 |ret d=>refine ar i_1 ?_;clear i_1;intro v z2 hv;subst z2;exact kj (.ret d) Y1 Z1 V_1 S_1 (bq v rfl hv) q
theorem MZ{Y0:aP}{Yc:List DV}{R:DV->Mu->Prop}(g:G.Ok)(ho:G.K.lookup f=ac o)(hdata:o.data=.func fd)(hb:fd.body=.stmts body)(hco:fd.scope.isCoroutine=ak)(hgen:fd.scope.isGenerator=ak)(hk:fd.scope.kind=.function)(hclo:fd.closure=[])(hgl:fd.globals=ce)(hbu:fd.builtins=d9)(hcd:nW G.K fd.code fd.qualname=ai){ps:List aV}(hlen:ds.length=ps.length)(hbi:∀vs,vs.length=ps.length->i8 fd ⟨vs,[]⟩=pure (ps.zip vs))(ndp:ps.Nodup)(hkind:∀n,∀x∈ps,fd.scope.names.lookup x=ac .local\/(fd.scope.names.lookup x=ac .cell/\((cQ n fd.scope.names []).lookup x).isSome=ai))(hY:∀p∈Y0,fd.scope.names.lookup p.1=ac .local/\(p.2≠.any->p∈ps.zip ds))(hc:∀n,∀p∈pW (cQ n fd.scope.names []) Yc,fd.scope.names.lookup p.1.1=ac .cell/\(cQ n fd.scope.names []).lookup p.1.1=ac p.1.2/\(p.2≠.any->(p.1.1,p.2)∈ps.zip ds))(nd:(Y0.map (·.1)).Nodup)(hend:∀d Z' x mo,R d Z'->(x,mo)∈(Z':Mu)\/True->Rx mo=ac d->False)(H:∀B,B.Ok G->B.k=k->B.hd=ak->B.env=fe fd B.L f->B.m0=Z0.map (·.1)->B.V0=V0->KE G B (fun zz zz=>False) (eG body B.env) Y0 (ju fd.scope.names B.L Yc++Z0) (km Z0 R)):∀A s vs,qJ A (k+1)->A.handled=aq->m7 A (Z0.map (·.1)) V0 s->Eh G V0 Z0 s->gP G.prog G.w V0 ds vs->fJ (bf G.prog G.w) A (.call (.ref f) ⟨vs,[]⟩) (o8 (fun r s'=>∃d Z' V',KC G A Z0 s V' Z' s'/\Is G.prog G.w V' d r/\R d Z') fun zz zz=>False) s:=by
 intro A s vs rm hcalm hstk P hi;have hh:CL A V0:=.inl hcalm;have kb:∀b o,G.hb.get? b=ac o->s.heap.get? b=ac o:=fun b o e=>P.vh _ _ (P.b0 _ _ e);have hvl:vs.length=ps.length:=(bb hi).trans hlen;have nz:((ps.zip vs).map (·.1)).Nodup:=by rw[show(ps.zip vs).map (·.1)=ps from jQ (bv hvl.symm)];exact ndp
 have inz:∀p∈ps.zip ds,∃v,(p.1,v)∈ps.zip vs/\Is G.prog G.w V0 p.2 v:=rk hi;refine Oo rm.depth ((g.kin.keeps kb) _ _ ho) hdata (g.lim.keeps kb) (CQ (g.kin.keeps kb) hcd) hb (hbi vs hvl) hclo (fun x hx=>hkind _ _ (ge hx).1) (fun s_1 x=>?_) hco hgen hk;refine g7 x.toInCall.same fun h₁ tk z1=>?_;subst z1;have OB:(sB A (fe fd s.heap.objs.size f) V0 Z0 s k ak).Ok G:=q7 g ⟨hk,rfl,hgl,hbu⟩ rfl rm (fun _=>hcalm) hstk;refine aQ (H _ OB rfl rfl rfl rfl rfl V0 _ (xR hY hc nd nz inz P hh x)) (fun fl s' z6=>d5 z6 fun a Y' Z' V' S' y29=>J4 y29 fun i' loc Zr d e y30=>jM y30 fun has hR hfl=>?_) fun e s'' x=>x.elim;have T:KC G A Z0 s V' Zr s':=(fun p=>⟨p.vh,p.mu,p.as,p.pr,p.rest⟩) (pq hstk rfl (S'.perm e) has)
 rcases hfl with rfl|⟨rfl,rfl⟩|⟨x,mo,rfl,hx,hmo⟩
 .refine ar i' ?_
  clear i';intro v z7 hv;subst z7;exact i5 d Zr V' T hv hR
 .obtain rfl:fl=.next:=i'
  exact i5 .none Zr V' T (aT.mpr ⟨rfl,rfl⟩) hR
 .exact(hend d Zr x mo hR (.inr trivial) hmo).elim
set_option backward.match.sparseCases false
structure dN (G:G0):Prop where
 ok:G.Ok
@[reducible] noncomputable def io(n g:Int):DV:=.inst 254 [(aa "number",.int n),(aa "generation",.int g)]
@[reducible] noncomputable def x9(x:aV):DV:=.inst 183 [(aa "text",.str x)]
@[reducible] noncomputable def pn(h o:DV):DV:=.inst 226 [(aa "head",h),(aa "octets",o)]
@[reducible] noncomputable def O8(t r:DV):DV:=.inst 368 [(aa "table",t),(aa "trailer",r)]
@[reducible] noncomputable def IY(r f:DV):DV:=.inst 388 [(aa "reference",r),(aa "fields",f)]
@[reducible] noncomputable def IJ(r h a i p:DV):DV:=.inst 409 [(aa "reference",r),(aa "head",h),(aa "above",a),(aa "inherited",i),(aa "is_page",p)]
theorem bx(g:dN G)(h:nsIn (hdP.heap_1 G.w.params) ce x=ac (ac v)):Ei G x v:=.inl (mg_of g.ok.kin g.ok.g h)
theorem dU(g:dN G)(h:nsIn (hdP.heap_1 G.w.params) ce x=ac aq)(hn:x≠"__name__")(hb:Ia x=ac v):Ei G x v:=.inr (jT (mg_none_of g.ok.kin g.ok.g h) hn hb)
theorem bL(h:Ei G x v)(hh:r5 v=ai):bY G x (.raw v):=(bq v h (aT.mpr ⟨rfl,hh⟩))
theorem Mv{i:Int}(h:Ei G x (.int i t)):bY G x (.int i):=(bq _ h (bA.mpr ⟨_,rfl⟩))
section
variable (g : dN G)
include g
theorem dY:bY G (aa "TreeFault") (.raw (.ref 59)):=bL (bx g (by kernel_rfl)) rfl
theorem v8:bY G (aa "Decimal") (.raw (.ref 155)):=bL (bx g (by kernel_rfl)) rfl
theorem mY:bY G (aa "Name") (.raw (.ref 183)):=bL (bx g (by kernel_rfl)) rfl
theorem yp:bY G (aa "String") (.raw (.ref 205)):=bL (bx g (by kernel_rfl)) rfl
theorem sN:bY G (aa "Stream") (.raw (.ref 226)):=bL (bx g (by kernel_rfl)) rfl
theorem dZ:bY G (aa "Reference") (.raw (.ref 254)):=bL (bx g (by kernel_rfl)) rfl
theorem kN:bY G (aa "kind_of") (.raw (.ref 265)):=bL (bx g (by kernel_rfl)) rfl
theorem qa:bY G (aa "told_plain") (.raw (.ref 272)):=bL (bx g (by kernel_rfl)) rfl
theorem eU:bY G (aa "told_objects") (.raw (.ref 277)):=bL (bx g (by kernel_rfl)) rfl
theorem sM:bY G (aa "copied") (.raw (.ref 282)):=bL (bx g (by kernel_rfl)) rfl
theorem B0:bY G (aa "Shelf") (.raw (.ref 368)):=bL (bx g (by kernel_rfl)) rfl
theorem Mx:bY G (aa "Page") (.raw (.ref 388)):=bL (bx g (by kernel_rfl)) rfl
theorem Mw:bY G (aa "Spot") (.raw (.ref 409)):=bL (bx g (by kernel_rfl)) rfl
theorem sJ:bY G (aa "turned") (.raw (.ref 420)):=bL (bx g (by kernel_rfl)) rfl
theorem vY:bY G (aa "home_of") (.raw (.ref 427)):=bL (bx g (by kernel_rfl)) rfl
theorem DM:bY G (aa "is_node") (.raw (.ref 434)):=bL (bx g (by kernel_rfl)) rfl
theorem DL:bY G (aa "kids_of") (.raw (.ref 441)):=bL (bx g (by kernel_rfl)) rfl
theorem DI:bY G (aa "met") (.raw (.ref 448)):=bL (bx g (by kernel_rfl)) rfl
theorem vW:bY G (aa "spots") (.raw (.ref 455)):=bL (bx g (by kernel_rfl)) rfl
theorem Aa:bY G (aa "fields_of") (.raw (.ref 462)):=bL (bx g (by kernel_rfl)) rfl
theorem qb:bY G (aa "page_spots") (.raw (.ref 467)):=bL (bx g (by kernel_rfl)) rfl
theorem BY:bY G (aa "pages") (.raw (.ref 472)):=bL (bx g (by kernel_rfl)) rfl
theorem lH:bY G (aa "page_count") (.raw (.ref 479)):=bL (bx g (by kernel_rfl)) rfl
theorem tD:bY G (aa "is_count") (.raw (.ref 486)):=bL (bx g (by kernel_rfl)) rfl
theorem DH:bY G (aa "page_at") (.raw (.ref 493)):=bL (bx g (by kernel_rfl)) rfl
theorem ml:bY G (aa "index_of_page") (.raw (.ref 505)):=bL (bx g (by kernel_rfl)) rfl
theorem ry:bY G (aa "counts_of") (.raw (.ref 512)):=bL (bx g (by kernel_rfl)) rfl
theorem rx:bY G (aa "is_parent") (.raw (.ref 519)):=bL (bx g (by kernel_rfl)) rfl
theorem lx:bY G (aa "is_right_count") (.raw (.ref 526)):=bL (bx g (by kernel_rfl)) rfl
theorem oN:bY G (aa "page_faults") (.raw (.ref 533)):=bL (bx g (by kernel_rfl)) rfl
theorem sL:bY G (aa "settle") (.raw (.ref 540)):=bL (bx g (by kernel_rfl)) rfl
theorem Qy:bY G (aa "lay") (.raw (.ref 547)):=bL (bx g (by kernel_rfl)) rfl
theorem DN:bY G (aa "grouped") (.raw (.ref 552)):=bL (bx g (by kernel_rfl)) rfl
theorem v7:bY G (aa "build_pages") (.raw (.ref 557)):=bL (bx g (by kernel_rfl)) rfl
theorem DJ:bY G (aa "_law_keg") (.raw (.ref 562)):=bL (bx g (by kernel_rfl)) rfl
theorem lu:bY G (aa "_law_pour") (.raw (.ref 569)):=bL (bx g (by kernel_rfl)) rfl
theorem ru:bY G (aa "_law_nodes") (.raw (.ref 574)):=bL (bx g (by kernel_rfl)) rfl
theorem rv:bY G (aa "_law_below") (.raw (.ref 579)):=bL (bx g (by kernel_rfl)) rfl
theorem lw:bY G (aa "_law_is_refused") (.raw (.ref 586)):=bL (bx g (by kernel_rfl)) rfl
theorem BZ:bY G (aa "_law_bent") (.raw (.ref 593)):=bL (bx g (by kernel_rfl)) rfl
theorem tC:bY G (aa "_law_walk") (.raw (.ref 600)):=bL (bx g (by kernel_rfl)) rfl
theorem oO:bY G (aa "_law_indexes_right") (.raw (.ref 605)):=bL (bx g (by kernel_rfl)) rfl
theorem rr:bY G (aa "_law_none_right") (.raw (.ref 612)):=bL (bx g (by kernel_rfl)) rfl
theorem UJ:bH G (.ref 46):=cj (by kernel_rfl)
theorem NX:bH G (.ref 59):=cj (by kernel_rfl)
theorem Qn:bH G (.ref 155):=cj (by kernel_rfl)
theorem Qm:bH G (.ref 183):=cj (by kernel_rfl)
theorem Ql:bH G (.ref 205):=cj (by kernel_rfl)
theorem Qk:bH G (.ref 226):=cj (by kernel_rfl)
theorem Qj:bH G (.ref 254):=cj (by kernel_rfl)
theorem Qi:bH G (.ref 265):=cj (by kernel_rfl)
theorem Qh:bH G (.ref 272):=cj (by kernel_rfl)
theorem Qg:bH G (.ref 277):=cj (by kernel_rfl)
theorem Qf:bH G (.ref 282):=cj (by kernel_rfl)
theorem Qe:bH G (.ref 314):=cj (by kernel_rfl)
theorem Qd:bH G (.ref 368):=cj (by kernel_rfl)
theorem Qc:bH G (.ref 388):=cj (by kernel_rfl)
theorem Qb:bH G (.ref 409):=cj (by kernel_rfl)
theorem Qa:bH G (.ref 420):=cj (by kernel_rfl)
theorem P9:bH G (.ref 427):=cj (by kernel_rfl)
theorem P0:bH G (.ref 434):=cj (by kernel_rfl)
theorem PZ:bH G (.ref 441):=cj (by kernel_rfl)
theorem PY:bH G (.ref 448):=cj (by kernel_rfl)
theorem PX:bH G (.ref 455):=cj (by kernel_rfl)
theorem PW:bH G (.ref 462):=cj (by kernel_rfl)
theorem PU:bH G (.ref 467):=cj (by kernel_rfl)
theorem Je:bH G (.ref 472):=cj (by kernel_rfl)
theorem Dw:bH G (.ref 479):=cj (by kernel_rfl)
theorem PT:bH G (.ref 486):=cj (by kernel_rfl)
theorem Jd:bH G (.ref 493):=cj (by kernel_rfl)
theorem PS:bH G (.ref 500):=cj (by kernel_rfl)
theorem PR:bH G (.ref 505):=cj (by kernel_rfl)
theorem PQ:bH G (.ref 512):=cj (by kernel_rfl)
theorem PP:bH G (.ref 519):=cj (by kernel_rfl)
theorem PO:bH G (.ref 526):=cj (by kernel_rfl)
theorem Jc:bH G (.ref 533):=cj (by kernel_rfl)
theorem Jb:bH G (.ref 540):=cj (by kernel_rfl)
theorem PN:bH G (.ref 547):=cj (by kernel_rfl)
theorem PM:bH G (.ref 552):=cj (by kernel_rfl)
theorem PL:bH G (.ref 557):=cj (by kernel_rfl)
theorem PK:bH G (.ref 562):=cj (by kernel_rfl)
theorem PJ:bH G (.ref 569):=cj (by kernel_rfl)
theorem PI:bH G (.ref 574):=cj (by kernel_rfl)
theorem PH:bH G (.ref 579):=cj (by kernel_rfl)
theorem PG:bH G (.ref 586):=cj (by kernel_rfl)
theorem PF:bH G (.ref 593):=cj (by kernel_rfl)
theorem PE:bH G (.ref 600):=cj (by kernel_rfl)
theorem PC:bH G (.ref 605):=cj (by kernel_rfl)
theorem PB:bH G (.ref 612):=cj (by kernel_rfl)
theorem rq:bY G (aa "range") (.raw (.type "range")):=bL (dU g (by kernel_rfl) (by decide +kernel) (by boot_by_name)) rfl
theorem BX:bY G (aa "reversed") (.raw (.type "reversed")):=bL (dU g (by kernel_rfl) (by decide +kernel) (by boot_by_name)) rfl
theorem Ab:bY G (aa "enumerate") (.raw (.type "enumerate")):=bL (dU g (by kernel_rfl) (by decide +kernel) (by boot_by_name)) rfl
theorem vV:bY G (aa "tuple") (.raw (.type "tuple")):=bL (dU g (by kernel_rfl) (by decide +kernel) (by boot_by_name)) rfl
theorem jD:bY G (aa "dict") (.raw (.type "dict")):=bL (dU g (by kernel_rfl) (by decide +kernel) (by boot_by_name)) rfl
theorem vX:bY G (aa "int") (.raw (.type "int")):=bL (dU g (by kernel_rfl) (by decide +kernel) (by boot_by_name)) rfl
theorem uv:bY G (aa "bool") (.raw (.type "bool")):=bL (dU g (by kernel_rfl) (by decide +kernel) (by boot_by_name)) rfl
theorem z0:bY G (aa "list") (.raw (.type "list")):=bL (dU g (by kernel_rfl) (by decide +kernel) (by boot_by_name)) rfl
theorem vZ:bY G (aa "bytes") (.raw (.type "bytes")):=bL (dU g (by kernel_rfl) (by decide +kernel) (by boot_by_name)) rfl
theorem cU:bY G (aa "isinstance") (.raw (.builtin "isinstance")):=bL (dU g (by kernel_rfl) (by decide +kernel) (by boot_by_name)) (by decide +kernel)
theorem qD:bY G (aa "len") (.raw (.builtin "len")):=bL (dU g (by kernel_rfl) (by decide +kernel) (by boot_by_name)) (by decide +kernel)
theorem sK:bY G (aa "sorted") (.raw (.builtin "sorted")):=bL (dU g (by kernel_rfl) (by decide +kernel) (by boot_by_name)) (by decide +kernel)
theorem Qz:bY G (aa "abs") (.raw (.builtin "abs")):=bL (dU g (by kernel_rfl) (by decide +kernel) (by boot_by_name)) (by decide +kernel)
theorem Qx:bY G (aa "sum") (.raw (.builtin "sum")):=bL (dU g (by kernel_rfl) (by decide +kernel) (by boot_by_name)) (by decide +kernel)
theorem Ac:bY G (aa "MOST_HOPS") (.int 30):=by
 have h:nsIn (hdP.heap_1 G.w.params) ce (aa "MOST_HOPS")=ac (ac (.int 30 377)):=by kernel_rfl
 exact Mv (bx g h)
theorem rz:bY G (aa "INHERITED") (.tup [.str (aa "Resources"),.str (aa "MediaBox"),.str (aa "CropBox"),.str (aa "Rotate")]):=by
 have h:nsIn (hdP.heap_1 G.w.params) ce (aa "INHERITED")=ac (ac (.ref 371)):=by kernel_rfl
 refine bq _ (bx g h) ?_;obtain⟨o,vs,n,ho,hc,hdi,hd,hv⟩:∃(o:uD) (vs:Array aE) (n:Nat),(hdP.heap_1 G.w.params).lookup 371=ac o/\o.cls=.type "tuple"/\(o.dict=aq/\o.slots=#[])/\o.data=.seq vs n/\∃a b c d,vs.toList=[.str (aa "Resources") a,.str (aa "MediaBox") b,.str (aa "CropBox") c,.str (aa "Rotate") d]:=by refine⟨_,_,_,rfl,rfl,⟨rfl,rfl⟩,rfl,_,_,_,_,rfl⟩
 refine ux hv ?_;clear hv;intro a b c d hv;show Exists _;refine cJ 371 o vs n rfl (g.ok.kin _ _ (by exact ho)) hc hdi hd ?_;rw[hv];exact aG.mpr (bO _ _ rfl (ir.mpr ⟨_,rfl⟩) (aG.mpr (bO _ _ rfl (ir.mpr ⟨_,rfl⟩) (aG.mpr (bO _ _ rfl (ir.mpr ⟨_,rfl⟩) (aG.mpr (bO _ _ rfl (ir.mpr ⟨_,rfl⟩) (be.mpr rfl))))))))
theorem uA:my G 254:=⟨by kernel_rfl,by kernel_rfl⟩
omit g in theorem nd_254:([aa "number",aa "generation"]:List aV).Nodup:=by decide +kernel
theorem wa:fy G 254 [aa "number",aa "generation"] (aa "number"):=⟨uA g,by kernel_rfl,nd_254⟩
theorem qF:fy G 254 [aa "number",aa "generation"] (aa "generation"):=⟨uA g,by kernel_rfl,nd_254⟩
theorem Fs:my G 183:=⟨by kernel_rfl,by kernel_rfl⟩
omit g in theorem nd_183:([aa "text"]:List aV).Nodup:=by decide +kernel
theorem Aj:fy G 183 [aa "text"] (aa "text"):=⟨Fs g,by kernel_rfl,nd_183⟩
theorem Aw:my G 226:=⟨by kernel_rfl,by kernel_rfl⟩
omit g in theorem nd_226:([aa "head",aa "octets"]:List aV).Nodup:=by decide +kernel
theorem Ai:fy G 226 [aa "head",aa "octets"] (aa "head"):=⟨Aw g,by kernel_rfl,nd_226⟩
theorem wb:fy G 226 [aa "head",aa "octets"] (aa "octets"):=⟨Aw g,by kernel_rfl,nd_226⟩
theorem ki:my G 368:=⟨by kernel_rfl,by kernel_rfl⟩
omit g in theorem nd_368:([aa "table",aa "trailer"]:List aV).Nodup:=by decide +kernel
theorem xx:fy G 368 [aa "table",aa "trailer"] (aa "table"):=⟨ki g,by kernel_rfl,nd_368⟩
theorem ud:fy G 368 [aa "table",aa "trailer"] (aa "trailer"):=⟨ki g,by kernel_rfl,nd_368⟩
theorem Fq:my G 388:=⟨by kernel_rfl,by kernel_rfl⟩
omit g in theorem nd_388:([aa "reference",aa "fields"]:List aV).Nodup:=by decide +kernel
theorem rD:fy G 388 [aa "reference",aa "fields"] (aa "reference"):=⟨Fq g,by kernel_rfl,nd_388⟩
theorem v9:fy G 388 [aa "reference",aa "fields"] (aa "fields"):=⟨Fq g,by kernel_rfl,nd_388⟩
theorem rK:my G 409:=⟨by kernel_rfl,by kernel_rfl⟩
omit g in theorem nd_409:([aa "reference",aa "head",aa "above",aa "inherited",aa "is_page"]:List aV).Nodup:=by decide +kernel
theorem rB:fy G 409 [aa "reference",aa "head",aa "above",aa "inherited",aa "is_page"] (aa "reference"):=⟨rK g,by kernel_rfl,nd_409⟩
theorem Ah:fy G 409 [aa "reference",aa "head",aa "above",aa "inherited",aa "is_page"] (aa "head"):=⟨rK g,by kernel_rfl,nd_409⟩
theorem xw:fy G 409 [aa "reference",aa "head",aa "above",aa "inherited",aa "is_page"] (aa "above"):=⟨rK g,by kernel_rfl,nd_409⟩
theorem rC:fy G 409 [aa "reference",aa "head",aa "above",aa "inherited",aa "is_page"] (aa "inherited"):=⟨rK g,by kernel_rfl,nd_409⟩
theorem uc:fy G 409 [aa "reference",aa "head",aa "above",aa "inherited",aa "is_page"] (aa "is_page"):=⟨rK g,by kernel_rfl,nd_409⟩
theorem zE:lK G 254 [aa "number",aa "generation"] (aa "pair") 251:=⟨uA g,by kernel_rfl,by kernel_rfl,by decide +kernel,by kernel_rfl⟩
theorem xo:lK G 368 [aa "table",aa "trailer"] (aa "fetch") 304:=⟨ki g,by kernel_rfl,by kernel_rfl,by decide +kernel,by kernel_rfl⟩
theorem BE:lK G 368 [aa "table",aa "trailer"] (aa "get") 311:=⟨ki g,by kernel_rfl,by kernel_rfl,by decide +kernel,by kernel_rfl⟩
theorem BD:lK G 368 [aa "table",aa "trailer"] (aa "put") 332:=⟨ki g,by kernel_rfl,by kernel_rfl,by decide +kernel,by kernel_rfl⟩
theorem BF:lK G 368 [aa "table",aa "trailer"] (aa "add") 339:=⟨ki g,by kernel_rfl,by kernel_rfl,by decide +kernel,by kernel_rfl⟩
theorem ua:lK G 368 [aa "table",aa "trailer"] (aa "numbers") 353:=⟨ki g,by kernel_rfl,by kernel_rfl,by decide +kernel,by kernel_rfl⟩
theorem zD:lK G 368 [aa "table",aa "trailer"] (aa "root") 360:=⟨ki g,by kernel_rfl,by kernel_rfl,by decide +kernel,by kernel_rfl⟩
theorem zC:lK G 368 [aa "table",aa "trailer"] (aa "told") 365:=⟨ki g,by kernel_rfl,by kernel_rfl,by decide +kernel,by kernel_rfl⟩
theorem Ka(C)(h:HY (hdP.heap_1 G.w.params) (.ref C)=ac (.type "type"))(h2:(Rm (hdP.heap_1 G.w.params) C).isSome=ai):pV G (.ref C):=Ke h h2
theorem Ck:pV G (.ref 254):=Ka g 254 (by kernel_rfl) (by kernel_rfl)
theorem wA:pV G (.ref 183):=Ka g 183 (by kernel_rfl) (by kernel_rfl)
theorem Cm:pV G (.ref 226):=Ka g 226 (by kernel_rfl) (by kernel_rfl)
theorem Co:pV G (.ref 155):=Ka g 155 (by kernel_rfl) (by kernel_rfl)
theorem Cn:pV G (.ref 205):=Ka g 205 (by kernel_rfl) (by kernel_rfl)
theorem Kb:CB G 254:=⟨uA g,by kernel_rfl,by kernel_rfl,by kernel_rfl,by kernel_rfl,Ck g⟩
theorem Kd:CB G 183:=⟨Fs g,by kernel_rfl,by kernel_rfl,by kernel_rfl,by kernel_rfl,wA g⟩
theorem Kc:CB G 226:=⟨Aw g,by kernel_rfl,by kernel_rfl,by kernel_rfl,by kernel_rfl,Cm g⟩
end
inductive Tg where
 |none|bool|int|str|tup|lst|dic|ref|name|stream
noncomputable def Tg.ty:Tg->aE|.none=>.type "NoneType"|.bool=>.type "bool"|.int=>.type "int"|.str=>.type "str"|.tup=>.type "tuple"|.lst=>.type "list"|.dic=>.type "dict"|.ref=>.ref 254|.name=>.ref 183|.stream=>.ref 226
noncomputable def Xl(C:aW):Option Tg:=if C=254 then ac .ref else if C=183 then ac .name else if C=226 then ac .stream else aq
noncomputable def yY:DV->Option Tg|.raw v=>(match v with|.none=>ac .none|.bool _=>ac .bool|_=>Os)|.int _=>ac .int|.str _=>ac .str|.tup _=>ac .tup|.lst _=>ac .lst|.sdic _=>ac .dic|.idic _=>ac .dic|.inst C _=>Xl C|_=>Os
theorem OJ(h:Xl C=ac t):t.ty=.ref C:=by
 unfold Xl at h;by_cases h1:C=254;.rw[if_pos h1] at h;injection h with h;subst h;subst h1;rfl
 .rw[if_neg h1] at h
  by_cases h2:C=183;.rw[if_pos h2] at h;injection h with h;subst h;subst h2;rfl
  .rw[if_neg h2] at h
   by_cases h3:C=226;.rw[if_pos h3] at h;injection h with h;subst h;subst h3;rfl
   .rw[if_neg h3] at h;injection h
theorem R5(h:yY d=ac t):R3 d=ac t.ty:=by
 cases d with
 |raw v=>cases v<;>first|(injection h with h;subst h;rfl)|injection h
 |inst C l=>exact congrArg ac (OJ h).symm|any=>injection h|byt=>injection h|_=>injection h with h;subst h;rfl
noncomputable def N5:List Tg:=[.none,.bool,.int,.str,.tup,.lst,.dic,.ref,.name,.stream]
theorem Tg.in_all(t):t∈N5:=cF (i:=t.ctorIdx) (by cases t<;>rfl)
section
variable (g : dN G)
include g
theorem OI(t:Tg)(C)(h:t.ty=.ref C):CB G C:=by
 cases t with
 |ref=>injection h with h;subst h;exact Kb g
 |name=>injection h with h;subst h;exact Kd g
 |stream=>injection h with h;subst h;exact Kc g
 |_=>injection h
theorem zR{f:Tg->Bool}(hs:∀P,(N5.all fun t=>(match Rh (hdP.heap_1 P) t.ty c with|some b=>b==f t|none=>ak)&&(!(t.ty==c)||f t))=ai)(hc:pV G c)(O:B.Ok G)(h:yY d=ac t)(hr:f t=r)(q:Q (.bool r) Y Z):cI G B E (.builtin "isinstance") [d,.raw c] Y Z Q:=by
 refine aZ ((aO _ _).mp (aU.mp (hs G.w.params) t t.in_all)) fun h1 h2=>?_;refine Kj O (R5 h) (r:=r) ?_ (fun e=>?_) hc (OI g t) q
 .rw[<-hr]
  show Rh (hdP.heap_1 G.w.params) t.ty c=_;cases e:Rh (hdP.heap_1 G.w.params) t.ty c with|none=>rw[e] at h1;injection h1|some b=>rw[e] at h1;exact congrArg ac (RJ h1)
 .rw[e] at h2;exact hr.symm.trans h2
noncomputable def dp:Tg->Bool|.dic=>ai|_=>ak
omit g in theorem clsv_dict:pV G (.type "dict"):=⟨fun zz zz zz=>ig (by first|exact type_dict|(unfold iN;kernel_rfl)|kernel_rfl),fun zz zz zz=>.now⟩
theorem sH(O:B.Ok G)(h:yY d=ac t)(hr:dp t=r)(q:Q (.bool r) Y Z):cI G B E (.builtin "isinstance") [d,.raw (.type "dict")] Y Z Q:=zR g (fun zz=>by kernel_rfl) (clsv_dict) O h hr q
noncomputable def fX:Tg->Bool|.lst=>ai|_=>ak
omit g in theorem clsv_list:pV G (.type "list"):=⟨fun zz zz zz=>ig (by first|exact type_list|(unfold iN;kernel_rfl)|kernel_rfl),fun zz zz zz=>.now⟩
theorem yi(O:B.Ok G)(h:yY d=ac t)(hr:fX t=r)(q:Q (.bool r) Y Z):cI G B E (.builtin "isinstance") [d,.raw (.type "list")] Y Z Q:=zR g (fun zz=>by kernel_rfl) (clsv_list) O h hr q
noncomputable def gw:Tg->Bool|.int=>ai|.bool=>ai|_=>ak
omit g in theorem clsv_int:pV G (.type "int"):=⟨fun zz zz zz=>ig (by first|exact type_int|(unfold iN;kernel_rfl)|kernel_rfl),fun zz zz zz=>.now⟩
theorem BO(O:B.Ok G)(h:yY d=ac t)(hr:gw t=r)(q:Q (.bool r) Y Z):cI G B E (.builtin "isinstance") [d,.raw (.type "int")] Y Z Q:=zR g (fun zz=>by kernel_rfl) (clsv_int) O h hr q
noncomputable def eT:Tg->Bool|.bool=>ai|_=>ak
omit g in theorem clsv_bool:pV G (.type "bool"):=⟨fun zz zz zz=>ig (by first|exact type_bool|(unfold iN;kernel_rfl)|kernel_rfl),fun zz zz zz=>.now⟩
theorem yj(O:B.Ok G)(h:yY d=ac t)(hr:eT t=r)(q:Q (.bool r) Y Z):cI G B E (.builtin "isinstance") [d,.raw (.type "bool")] Y Z Q:=zR g (fun zz=>by kernel_rfl) (clsv_bool) O h hr q
noncomputable def bw:Tg->Bool|.ref=>ai|_=>ak
theorem oK(O:B.Ok G)(h:yY d=ac t)(hr:bw t=r)(q:Q (.bool r) Y Z):cI G B E (.builtin "isinstance") [d,.raw (.ref 254)] Y Z Q:=zR g (fun zz=>by kernel_rfl) (Ck g) O h hr q
noncomputable def gJ:Tg->Bool|.name=>ai|_=>ak
theorem yk(O:B.Ok G)(h:yY d=ac t)(hr:gJ t=r)(q:Q (.bool r) Y Z):cI G B E (.builtin "isinstance") [d,.raw (.ref 183)] Y Z Q:=zR g (fun zz=>by kernel_rfl) (wA g) O h hr q
noncomputable def iD:Tg->Bool|.stream=>ai|_=>ak
theorem BQ(O:B.Ok G)(h:yY d=ac t)(hr:iD t=r)(q:Q (.bool r) Y Z):cI G B E (.builtin "isinstance") [d,.raw (.ref 226)] Y Z Q:=zR g (fun zz=>by kernel_rfl) (Cm g) O h hr q
noncomputable def mM:Tg->Bool|_=>ak
theorem zQ(O:B.Ok G)(h:yY d=ac t)(hr:mM t=r)(q:Q (.bool r) Y Z):cI G B E (.builtin "isinstance") [d,.raw (.ref 155)] Y Z Q:=zR g (fun zz=>by kernel_rfl) (Co g) O h hr q
noncomputable def n9:Tg->Bool|_=>ak
theorem BP(O:B.Ok G)(h:yY d=ac t)(hr:n9 t=r)(q:Q (.bool r) Y Z):cI G B E (.builtin "isinstance") [d,.raw (.ref 205)] Y Z Q:=zR g (fun zz=>by kernel_rfl) (Cn g) O h hr q
end
set_option backward.match.sparseCases true
section
variable (g : dN G)
include g
theorem Pu:o3 G 254 244:=⟨by kernel_rfl,by kernel_rfl,by kernel_rfl⟩
theorem vc:gq G 254 (aa "number"):=de (by kernel_rfl) (by kernel_rfl) (by kernel_rfl) (by kernel_rfl)
theorem qt:gq G 254 (aa "generation"):=de (by kernel_rfl) (by kernel_rfl) (by kernel_rfl) (by kernel_rfl)
theorem Pw:o3 G 183 180:=⟨by kernel_rfl,by kernel_rfl,by kernel_rfl⟩
theorem zn:gq G 183 (aa "text"):=de (by kernel_rfl) (by kernel_rfl) (by kernel_rfl) (by kernel_rfl)
theorem Pv:o3 G 226 223:=⟨by kernel_rfl,by kernel_rfl,by kernel_rfl⟩
theorem zm:gq G 226 (aa "head"):=de (by kernel_rfl) (by kernel_rfl) (by kernel_rfl) (by kernel_rfl)
theorem vf:gq G 226 (aa "octets"):=de (by kernel_rfl) (by kernel_rfl) (by kernel_rfl) (by kernel_rfl)
theorem Pt:o3 G 388 385:=⟨by kernel_rfl,by kernel_rfl,by kernel_rfl⟩
theorem qX:gq G 388 (aa "reference"):=de (by kernel_rfl) (by kernel_rfl) (by kernel_rfl) (by kernel_rfl)
theorem u9:gq G 388 (aa "fields"):=de (by kernel_rfl) (by kernel_rfl) (by kernel_rfl) (by kernel_rfl)
theorem Ps:o3 G 409 406:=⟨by kernel_rfl,by kernel_rfl,by kernel_rfl⟩
theorem qV:gq G 409 (aa "reference"):=de (by kernel_rfl) (by kernel_rfl) (by kernel_rfl) (by kernel_rfl)
theorem zl:gq G 409 (aa "head"):=de (by kernel_rfl) (by kernel_rfl) (by kernel_rfl) (by kernel_rfl)
theorem xi:gq G 409 (aa "above"):=de (by kernel_rfl) (by kernel_rfl) (by kernel_rfl) (by kernel_rfl)
theorem qW:gq G 409 (aa "inherited"):=de (by kernel_rfl) (by kernel_rfl) (by kernel_rfl) (by kernel_rfl)
theorem tZ:gq G 409 (aa "is_page"):=de (by kernel_rfl) (by kernel_rfl) (by kernel_rfl) (by kernel_rfl)
theorem I4:o3 G 368 297:=⟨by kernel_rfl,by kernel_rfl,by kernel_rfl⟩
theorem p4:gq G 368 (aa "table"):=de (by kernel_rfl) (by kernel_rfl) (by kernel_rfl) (by kernel_rfl)
theorem nv:gq G 368 (aa "trailer"):=de (by kernel_rfl) (by kernel_rfl) (by kernel_rfl) (by kernel_rfl)
theorem Ad:bY G (aa "Exception") (.raw (.type "Exception")):=bL (dU g (by kernel_rfl) (by decide +kernel) (by kernel_rfl)) rfl
@[reducible] noncomputable def Vh:ClassData:={name:=aa "TreeFault",bases:=[cs 46],mro:=[cs 59,cs 46,cV "Exception",cV "BaseException",cV "object"],ns:=58,qualname:=aa "TreeFault" }
theorem Bi:gq G 59 (aa "what"):=⟨by kernel_rfl,xZ (cd:=Vh) (by kernel_rfl) (fun self=>by show Oh self "__setattr__" [cs 59,cs 46,cV "Exception",cV "BaseException",cV "object"]=pure ();rw[r0,r0];exact xE.passes self) (by decide +kernel) (by kernel_rfl),by kernel_rfl⟩
theorem Gh:gq G 59 (aa "at"):=⟨by kernel_rfl,xZ (cd:=Vh) (by kernel_rfl) (fun self=>by show Oh self "__setattr__" [cs 59,cs 46,cV "Exception",cV "BaseException",cV "object"]=pure ();rw[r0,r0];exact xE.passes self) (by decide +kernel) (by kernel_rfl),by kernel_rfl⟩
theorem we:AH G (aa "TreeFault") (aa "TreeFault") 58 [cs 46] [cs 46,cV "Exception",cV "BaseException",cV "object"] [] (ac (cs 50)) aq (ac (tP (aa "TreeFault") 236)) (ac (tP (aa "TreeFault") 244)) (ac (Value.bool ai)):=⟨⟨by rfl,by decide +kernel⟩,by decide +kernel,by decide +kernel,by decide +kernel,by kernel_rfl,by kernel_rfl⟩
theorem Ak:findCls G.K (.type "Exception") (.type "type") (aa "__init__")=ac (.val (.builtin "Exception.__init__")):=by kernel_rfl
end
inductive PV where
 |null
 |bool (b:Bool)
 |int (i:Int)
 |name (x:aV)
 |ref (n g:Int)
 |arr (l:List PV)
 |dict (l:List (aV×PV))
 |stream (h:PV)
mutual
noncomputable def PV.d:PV->DV|.null=>.none|.bool b=>.bool b|.int i=>.int i|.name x=>x9 x|.ref n g=>io n g|.arr l=>.lst (PV.dL l)|.dict l=>.sdic (PV.dS l)|.stream h=>pn h.d (.byt #[])
noncomputable def PV.dL:List PV->List DV|[]=>[]|v::r=>v.d::PV.dL r
noncomputable def PV.dS:List (aV×PV)->List (aV×DV)|[]=>[]|(x,v)::r=>(x,v.d)::PV.dS r
end
theorem PV.dS_map:∀l,PV.dS l=l.map fun p=>(p.1,p.2.d):=by
 intro p0_;induction p0_ with|nil=>exact rfl|cons p_ r ih=>
  rcases p_ with⟨x,v⟩
  rw[PV.dS,ih];rfl
noncomputable def PV.tg:PV->Tg|.null=>.none|.bool _=>.bool|.int _=>.int|.name _=>.name|.ref _ _=>.ref|.arr _=>.lst|.dict _=>.dic|.stream _=>.stream
theorem PV.tgd(v:PV):yY v.d=ac v.tg:=by cases v<;>rfl
theorem PV.d_any(v:PV):v.d≠.any:=by cases v<;>(intro h;injection h)
noncomputable def fN(l:List (aV×PV))(k:aV):Option PV:=(l.find? fun kv=>kv.1=k).map (·.2)
theorem gy(k):∀l,ku (PV.dS l) k=(fN l k).map PV.d:=by
 intro p0_;induction p0_ with|nil=>exact rfl|cons p_ r ih=>
  rcases p_ with⟨x,v⟩
  have ih:=ih;unfold ku fN at ih ⊢;rw[PV.dS,bh,bh];dsimp only;by_cases h:x=k;.simp[h]
  .simp only[h,decide_false];exact ih
noncomputable abbrev dG:=List (Int×Int×PV)
noncomputable def LL(p:Int×Int×PV):Int×DV:=(p.1,.tup [.int p.2.1,p.2.2.d])
noncomputable def dG.d(t:dG):List (Int×DV):=t.map LL
noncomputable def dG.lk(t:dG)(k:Int):Option (Int×PV):=(t.find? fun kv=>kv.1=k).map (·.2)
theorem dG.lkD(t:dG)(k):ku t.d k=(t.lk k).map fun p=>.tup [.int p.1,p.2.d]:=by
 unfold dG.d dG.lk Mine.ku;induction t with|nil=>rfl|cons p r ih=>
  rw[au,bh,bh];show Eo _ (match decide (p.1=k) with|true=>_|false=>_)=_;by_cases h:p.1=k;.simp[h,LL]
  .simp only[h,decide_false];exact ih
noncomputable abbrev Lk:=Int->Option (Option (Int×PV))
def d6(lk:Lk)(t:dG):Prop:=∀k r,lk k=ac r->t.lk k=r
noncomputable def cc(lk:Lk):Nat->PV->Option PV
 |n+1,.ref k g=>match lk k with|none=>aq|some aq=>ac .null|some (ac (g',v))=>if g'≠g then ac .null else cc lk n v
 |0,.ref _ _=>ac .null|_,v=>ac v
theorem yr(lk){n k g}:cc lk (n+1) (.ref k g)=(match lk k with|none=>aq|some aq=>ac .null|some (ac (g',v))=>if g'≠g then ac .null else cc lk n v):=rfl
theorem m3(h:bw v.tg=ak):cc lk n v=ac v:=by cases v<;>first|(cases h;done)|(cases n<;>rfl)
theorem vi{v:PV}(h:bw v.tg=ai):∃n g,v=.ref n g:=by cases v<;>first|((first|(injection h;done)|cases h);done)|exact⟨_,_,rfl⟩
@[reducible] noncomputable def bg(t r:aW):DV:=O8 (.ptr t) (.ptr r)
@[reducible] noncomputable def bz(t r:aW)(tab:dG)(tr:List (aV×PV)):Mu:=[(t,.idic tab.d),(r,.sdic (PV.dS tr))]
variable {tab tab':dG} {tr:List (aV×PV)}
set_option backward.match.sparseCases false
inductive At (p:Prop):Prop
 |mk (h:p):At p
theorem At.get:At p->p|.mk h=>h
noncomputable def p7:List (aV×α)->aV->Option α|[],_=>aq|(y,d)::r,x=>if y=x then ac d else p7 r x
noncomputable def oy:aP->aV->DV->Option aP|[],_,_=>aq|(y,e)::r,x,d=>if y=x then ac ((y,d)::r) else match oy r x d with|some r'=>ac ((y,e)::r')|none=>aq
theorem LH{y e r x d}:oy ((y,e)::r) x d=(if y=x then ac ((y,d)::r) else match oy r x d with|some r'=>ac ((y,e)::r')|none=>aq):=rfl
theorem iF:∀{l:List (aV×α)},p7 l x=ac d->CK l x d
 |(y,e)::r,h=>by
  have g:(if y=x then ac e else p7 r x)=ac d:=h;by_cases q:y=x;.rw[if_pos q] at g;injection g with g;rw[<-q,<-g];exact .head
  .rw[if_neg q] at g;exact .tail (iF g)
theorem cH:∀{Y Y':aP},oy Y x d=ac Y'->pK Y x d Y'
 |(y,e)::r,Y',h=>by
  (first|rw[setN_e0] at h|rw[LH] at h|unfold oy at h);split at h;.next q=>(injection h with h;subst h);subst q;exact .head
  .split at h
   .next r' e=>(injection h with h;subst h);exact .tail (cH e)
   .injection h
noncomputable def Dm:DV->Bool|.any=>ak|_=>ai
theorem GE(h:Dm d=ai):d≠.any:=by intro e;subst e;injection h
theorem GI(h:d≠.any):Dm d=ai:=by cases d<;>first|rfl|exact absurd rfl h
def Ux(d:DV)(P R:Prop):Prop:=match Dm d with|true=>P|false=>R
theorem Pr{P R:Prop}(h:d≠.any)(p:P):Ux d P R:=by unfold Ux;rw[GI h];exact p
def Fw(c:Bool)(P R:Prop):Prop:=match c with|true=>P|false=>R
theorem oY{P R:Prop}(h:c=ai)(p:P):Fw c P R:=by subst h;exact p
theorem i0{P R:Prop}(h:c=ak)(p:R):Fw c P R:=by subst h;exact p
noncomputable def vQ(e:bZ):Bool:=gW 8 e.ctorIdx&&gW e.ctorIdx 10
theorem og(h:vQ e=ak)(t l env):gO e t l env=pure ak:=by cases e<;>first|rfl|injection h
noncomputable def DA(e:bZ):Bool:=tR e.ctorIdx 25
theorem C6(h:DA e=ak)(env):nT [.Tuple ts k p] e env=pure aq:=by cases e<;>first|rfl|injection h
noncomputable def oM(e:bZ):Bool:=tR e.ctorIdx 22
theorem EH(h:oM e=ak):br (e::r) env=(ak,a9 e env)::br r env:=by cases e<;>first|rfl|injection h
theorem qS{pos:xH}{env:Ou}:∀{r:List bZ},r.any oM=ak->(cy pos (br r env)).any (·.1)=ak:=by intro r h;unfold cy;rw[fm];induction r with|nil=>rfl|cons e r ih=>rw[dF,fp] at h;rw[EH h.1,dF,ih h.2];rfl
noncomputable def UM:List α->Bool|[]=>ai|_=>ak
noncomputable def sX(o:bZ):Bool:=match o with|.Call f args _ _=>(match f with|.Name ..=>!UM args|_=>ai)|_=>ai
theorem Fy{o:bZ}(h:sX o=ai)(attr env x):FK o attr env x=x:=by
 cases o with
 |Call f args kws p=>
  cases f with
  |Name a b=>cases args with|nil=>injection h|cons _ _=>rfl
  |_=>rfl
 |_=>rfl
noncomputable def vM:bZ->Bool|.UnaryOp .Not _ _|.BoolOp ..|.IfExp ..|.Compare ..=>ak|_=>ai
theorem Ir(h:vM e=ai)(env):isTrue e env (a9 e env)=(do let v <-a9 e env;sZ e.pos;holding [v] (truthy v)):=by
 cases e with
 |UnaryOp op _ _=>cases op<;>first|rfl|injection h
 |BoolOp=>injection h
 |IfExp=>injection h
 |Compare=>injection h
 |_=>rfl
section
variable (G : G0) (B : Bx) (E : aE → ay → Prop) (gs : List (aV × DV))
abbrev Q3(d:DV)(Y:aP)(Z:Mu)(Q:Bool->aP->Mu->Prop):Prop:=O1 G B E (fun zz a b=>a=b) truthy d Y Z Q
structure Wx where
 ev:bZ->aP->Mu->(DV->aP->Mu->Prop)->Prop
 eb:bZ->aP->Mu->(Bool->aP->Mu->Prop)->Prop
 es:BoolOp->List bZ->aP->Mu->(Bool->aP->Mu->Prop)->Prop
 el:xH->List bZ->aP->Mu->(List DV->aP->Mu->Prop)->Prop
 ex:jW->aP->Mu->(Fl->aP->Mu->Prop)->Prop
 exs:List jW->aP->Mu->(Fl->aP->Mu->Prop)->Prop
def Vn(op:Operator)(a b:DV)(Y:aP)(Z:Mu)(Q:DV->aP->Mu->Prop):Prop:=match op with|.Add=>(match a with|.int i=>(match b with|.int j=>Q (.int (i+j)) Y Z|_=>At (O2 G B E (Is G.prog G.w) (fK .Add) a b Y Z Q))|_=>At (O2 G B E (Is G.prog G.w) (fK .Add) a b Y Z Q))|.Sub=>(match a with|.int i=>(match b with|.int j=>Q (.int (i-j)) Y Z|_=>At (O2 G B E (Is G.prog G.w) (fK .Sub) a b Y Z Q))|_=>At (O2 G B E (Is G.prog G.w) (fK .Sub) a b Y Z Q))|op=>At (O2 G B E (Is G.prog G.w) (fK op) a b Y Z Q)
def D2(op:CmpOp)(f:Int->Int->Bool)(a b:DV)(Y:aP)(Z:Mu)(Q:DV->aP->Mu->Prop):Prop:=match a with|.int i=>(match b with|.int j=>Q (.bool (f i j)) Y Z|_=>At (O2 G B E (Is G.prog G.w) (bi op) a b Y Z Q))|_=>At (O2 G B E (Is G.prog G.w) (bi op) a b Y Z Q)
def Vf(op:CmpOp)(a b:DV)(Y:aP)(Z:Mu)(Q:DV->aP->Mu->Prop):Prop:=match op with|.Eq=>D2 G B E .Eq (fun i j=>i==j) a b Y Z Q|.NotEq=>D2 G B E .NotEq (fun i j=>i != j) a b Y Z Q|.Lt=>D2 G B E .Lt (fun i j=>decide (i<j)) a b Y Z Q|.LtE=>D2 G B E .LtE (fun i j=>decide (i<=j)) a b Y Z Q|.Gt=>D2 G B E .Gt (fun i j=>decide (i>j)) a b Y Z Q|.GtE=>D2 G B E .GtE (fun i j=>decide (i>=j)) a b Y Z Q|op=>At (O2 G B E (Is G.prog G.w) (bi op) a b Y Z Q)
def OE(d:DV)(Y:aP)(Z:Mu)(Q:Bool->aP->Mu->Prop):Prop:=match tL d with|some b=>Q b Y Z|none=>At (Q3 G B E d Y Z Q)
noncomputable def Mz:List (aW×List aV):=[(254,[aa "number",aa "generation"]),(183,[aa "text"]),(226,[aa "head",aa "octets"]),(368,[aa "table",aa "trailer"]),(388,[aa "reference",aa "fields"]),(409,[aa "reference",aa "head",aa "above",aa "inherited",aa "is_page"])]
noncomputable def Uz:List (aW×aV×aW):=[(254,aa "pair",251),(368,aa "fetch",304),(368,aa "get",311),(368,aa "put",332),(368,aa "add",339),(368,aa "numbers",353),(368,aa "root",360),(368,aa "told",365)]
noncomputable def ye:List (aW×α)->aW->Option α|[],_=>aq|(y,d)::r,x=>if y=x then ac d else ye r x
noncomputable def yc:List (aW×aV×aW)->aW->aV->Option aW|[],_,_=>aq|(y,n,f)::r,x,m=>if y=x then(if n=m then ac f else yc r x m) else yc r x m
noncomputable def oA:List (aV×α)->List aV->Bool
 |[],[]=>ai|(x,_)::r,y::s=>if x=y then oA r s else ak
 |_,_=>ak
noncomputable def BC(o:Option α)(f:α->Option β):Option β:=match o with|some a=>f a|none=>aq
noncomputable def DF(c:Bool)(x:β):Option β:=match c with|true=>ac x|false=>aq
noncomputable def U1(C:aW)(l:List (aV×DV))(name:aV):Option DV:=BC (ye Mz C) fun ns=>BC (p7 l name) fun d=>DF (oA l ns) d
noncomputable def Uy(C:aW)(l:List (aV×DV))(name:aV):Option aW:=BC (yc Uz C name) fun f=>BC (ye Mz C) fun ns=>DF (oA l ns) f
def Mp(d:DV)(X:aW->List (aV×DV)->Prop)(Yy:Prop):Prop:=match d with|.inst C l=>X C l|_=>Yy
def Vq(name:aV)(d:DV)(Y:aP)(Z:Mu)(Q:DV->aP->Mu->Prop):Prop:=Mp d (fun C l=>match U1 C l name with|some x=>Q x Y Z|none=>At (CD G name Q d Y Z)) (At (CD G name Q d Y Z))
noncomputable def kpT:List aW:=[46,59,155,183,205,226,254,265,272,277,282,314,368,388,409,420,427,434,441,448,455,462,467,472,479,486,493,500,505,512,519,526,533,540,547,552,557,562,569,574,579,586,593,600,605,612]
noncomputable def UN:aE->Bool
 |.builtin _=>ai|.type _=>ai|.ref a=>kpT.any fun b=>b==a
 |_=>ak
def VU(f:aE)(Q:DV->aP->Mu->Prop):List DV->aP->Mu->Prop:=fun ds Y Z=>At (cI G B E f ds Y Z Q)
def Ob(f:aE)(d:DV)(Q:DV->aP->Mu->Prop):List DV->aP->Mu->Prop:=fun ds Y Z=>At (cI G B E f (d::ds) Y Z Q)
def ZC(f:DV->DV->aP->Mu->(DV->aP->Mu->Prop)->Prop)(a:DV)(Q:DV->aP->Mu->Prop):DV->aP->Mu->Prop:=fun b Y Z=>f a b Y Z Q
def Np(r:Wx)(e:bZ)(f:DV->DV->aP->Mu->(DV->aP->Mu->Prop)->Prop)(Q:DV->aP->Mu->Prop):DV->aP->Mu->Prop:=fun a Y Z=>r.ev e Y Z (ZC f a Q)
def Kz(Q:Bool->aP->Mu->Prop):DV->aP->Mu->Prop:=fun d Y Z=>OE G B E d Y Z Q
def ZO(Q:DV->aP->Mu->Prop):Bool->aP->Mu->Prop:=fun b Y Z=>Q (.bool b) Y Z
def VG(Q:Bool->aP->Mu->Prop):Bool->aP->Mu->Prop:=fun b Y Z=>Q (!b) Y Z
def VQ(d:DV)(Q:List DV->aP->Mu->Prop):List DV->aP->Mu->Prop:=fun ds Y Z=>Q (d::ds) Y Z
def ZN(r:Wx)(pos:xH)(es:List bZ)(Q:List DV->aP->Mu->Prop):DV->aP->Mu->Prop:=fun d Y Z=>r.el pos es Y Z (VQ d Q)
def Vu(Q:DV->aP->Mu->Prop):List DV->aP->Mu->Prop:=fun ds Y Z=>match gW ds.length 1000 with|true=>Q (.tup ds) Y Z|false=>At (Q1 Q ds Y Z)
def ZR(r:Wx)(es:List bZ)(Q:Bool->aP->Mu->Prop):Bool->aP->Mu->Prop:=fun b Y Z=>Fw b (r.es .And es Y Z Q) (Q ak Y Z)
def OrQ(r:Wx)(es:List bZ)(Q:Bool->aP->Mu->Prop):Bool->aP->Mu->Prop:=fun b Y Z=>Fw b (Q ai Y Z) (r.es .Or es Y Z Q)
def VV(r:Wx)(y:bZ)(d:DV)(Q:DV->aP->Mu->Prop):Bool->aP->Mu->Prop:=fun b Y Z=>Fw b (r.ev y Y Z Q) (Q d Y Z)
def ZA(r:Wx)(y:bZ)(d:DV)(Q:DV->aP->Mu->Prop):Bool->aP->Mu->Prop:=fun b Y Z=>Fw b (Q d Y Z) (r.ev y Y Z Q)
def Nx(r:Wx)(y:bZ)(Q:DV->aP->Mu->Prop):DV->aP->Mu->Prop:=fun d Y Z=>match tL d with|some b=>VV r y d Q b Y Z|none=>At (FE G B E y Q d Y Z)
def ZB(r:Wx)(y:bZ)(Q:DV->aP->Mu->Prop):DV->aP->Mu->Prop:=fun d Y Z=>match tL d with|some b=>ZA r y d Q b Y Z|none=>At (Q7 G B E y Q d Y Z)
def ZD(Q:DV->aP->Mu->Prop):DV->aP->Mu->Prop:=fun d Y Z=>match d with|.int i=>Q (.int (-i)) Y Z|_=>At (Q8 Q d Y Z)
def ZH(r:Wx)(b o:bZ)(Q:DV->aP->Mu->Prop):Bool->aP->Mu->Prop:=fun c Y Z=>Fw c (r.ev b Y Z Q) (r.ev o Y Z Q)
def IfQ(r:Wx)(b o:List jW)(Q:Fl->aP->Mu->Prop):Bool->aP->Mu->Prop:=fun c Y Z=>match o with|[]=>Fw c (r.exs b Y Z Q) (Q .next Y Z)|s::o'=>Fw c (r.exs b Y Z Q) (r.exs (s::o') Y Z Q)
def ZP(name:aV)(Q:DV->aP->Mu->Prop):DV->aP->Mu->Prop:=fun d Y Z=>Vq G name d Y Z Q
def Rc(r:Wx)(pos:xH)(args:List bZ)(Q:DV->aP->Mu->Prop):DV->aP->Mu->Prop:=fun d Y Z=>match d with|.raw f=>(match UN f with|true=>r.el pos args Y Z (VU G B E f Q)|false=>At (CC G B E pos args Q d Y Z))|_=>At (CC G B E pos args Q d Y Z)
def VI(r:Wx)(o:bZ)(name:aV)(pos:xH)(args:List bZ)(Q:DV->aP->Mu->Prop):DV->aP->Mu->Prop:=fun d Y Z=>Mp d (fun C l=>match Uy C l name with|some f=>r.el pos args Y Z (Ob G B E (.ref f) d Q)|none=>At (nF G B E name (do return (<-AM o B.env).getD ai) pos args Q d Y Z)) (At (nF G B E name (do return (<-AM o B.env).getD ai) pos args Q d Y Z))
def Zw(Q:Fl->aP->Mu->Prop):DV->aP->Mu->Prop:=fun d Y Z=>Q (.ret d) Y Z
def ZM(Q:Fl->aP->Mu->Prop):DV->aP->Mu->Prop:=fun zz Y Z=>Q .next Y Z
def Nn(x:aV)(Q:Fl->aP->Mu->Prop):DV->aP->Mu->Prop:=fun d Y Z=>match oy Y x d with|some Y'=>Q .next Y' Z|none=>At (No x (Q .next) d Y Z)
noncomputable def Go(x y:aV)(a b:DV)(Y:aP):Option aP:=match oy Y x a with|some Y'=>oy Y' y b|none=>aq
def OD(l:List α)(k:α->α->Prop)(z:Prop):Prop:=match l with|a::r=>(match r with|b::r'=>(match r' with|[]=>k a b|_=>z)|[]=>z)|[]=>z
theorem Ez{z S:Prop}(h:OD l k z)(p:∀a b,l=[a,b]->k a b->S)(q:z->S):S:=by cases l with|nil=>exact q h|cons a r=>cases r with|nil=>exact q h|cons b r'=>cases r' with|nil=>exact p a b rfl h|cons=>exact q h
def ZQ(tg:bZ)(x y:aV)(Q:Fl->aP->Mu->Prop):DV->aP->Mu->Prop:=fun d Y Z=>match d with|.tup l=>OD l (fun a b=>match Go x y a b Y with|some Y'=>Q .next Y' Z|none=>At (AS G B E tg d Y Z (Q .next))) (At (AS G B E tg d Y Z (Q .next)))|_=>At (AS G B E tg d Y Z (Q .next))
def Vv(d x:DV)(Q:Fl->aP->Mu->Prop):DV->aP->Mu->Prop:=fun y Y Z=>At (HI Q d x y Y Z)
def Vx(r:Wx)(i:bZ)(d:DV)(Q:Fl->aP->Mu->Prop):DV->aP->Mu->Prop:=fun x Y Z=>r.ev i Y Z (Vv d x Q)
def Zt(r:Wx)(o i:bZ)(Q:Fl->aP->Mu->Prop):DV->aP->Mu->Prop:=fun d Y Z=>r.ev o Y Z (Vx r i d Q)
def VC(name:aV)(d:DV)(Q:Fl->aP->Mu->Prop):DV->aP->Mu->Prop:=fun x Y Z=>At (Q5 G name d Q x Y Z)
def Zu(r:Wx)(o:bZ)(name:aV)(Q:Fl->aP->Mu->Prop):DV->aP->Mu->Prop:=fun d Y Z=>r.ev o Y Z (VC G name d Q)
def Ej(x:aV)(px:xH)(body:List jW)(Q:Fl->aP->Mu->Prop):DV->aP->Mu->Prop:=fun d Y1 Z1=>∃ds Z',qK G B E d ds Y1 Z1 Z'/\∃I:Nat->aP->Mu->Prop,I 0 Y1 Z'/\
 (∀i d,ds[i]?=ac d->∀Y2 Z2,I i Y2 Z2->wK G B (fun B'=>qg B->qg B') (.Name x px) body d (I (i+1)) Q Y2 Z2)/\
 (∀Y2 Z2,I ds.length Y2 Z2->Q .next Y2 Z2)
def ZK(x:aV)(px:xH)(body:List jW)(Q:Fl->aP->Mu->Prop):DV->aP->Mu->Prop:=fun d Y Z=>At (Ej G B E x px body Q d Y Z)
noncomputable def qC(e:bZ):Bool:=tR e.ctorIdx 7
theorem zj(h:qC e=ak)(env x):jV e env x=pure x:=by cases e<;>first|rfl|injection h
def KB(r:Wx)(rest:List jW)(Q:Fl->aP->Mu->Prop):Fl->aP->Mu->Prop:=fun f Y Z=>match f with|.next=>r.exs rest Y Z Q|f=>Q f Y Z
def YY(o i:bZ)(a b:DV)(Y:aP)(Z:Mu)(Q:DV->aP->Mu->Prop):Prop:=At (O2 G B E (Is G.prog G.w) (i7 o i) a b Y Z Q)
def Pp(x:aV)(pos:xH)(Y:aP)(Z:Mu)(Q:DV->aP->Mu->Prop):Prop:=
 if x=aa "__debug__" then At (EV G B E (a9 (.Name x pos) B.env) Y Z Q)
 else match p7 Y x with|some d=>Ux d (Q d Y Z) (At (EV G B E (a9 (.Name x pos) B.env) Y Z Q))|none=>(match p7 gs x with|some d=>Q d Y Z|none=>At (EV G B E (a9 (.Name x pos) B.env) Y Z Q))
def Zk(c:Const)(F:Prop)(Q:DV->Prop):Prop:=match c with|.none=>Q .none|.bool b=>Q (.bool b)|.int i=>Q (.int i)|.str x=>Q (.str x)|_=>F
def M4(r:Wx)(l:bZ)(ops:List CmpOp)(xs:List bZ)(F:Prop)(Y:aP)(Z:Mu)(Q:DV->aP->Mu->Prop):Prop:=match ops with|[]=>F|op::o'=>(match o' with|_::_=>F|[]=>(match xs with|[]=>F|x::x'=>(match x' with|_::_=>F|[]=>(match nX op x with|true=>F|false=>r.ev l Y Z (Np r x (Vf G B E op) Q)))))
def Zl(r:Wx)(op:BoolOp)(es:List bZ)(pos:xH)(F:Prop)(Y:aP)(Z:Mu)(Q:DV->aP->Mu->Prop):Prop:=match es with|[]=>F|x::e1=>(match e1 with|[]=>F|y::e2=>(match op with|.And=>(match e2 with|[]=>r.ev x Y Z (Nx G B E r y Q)|z::rest=>r.ev x Y Z (Nx G B E r (.BoolOp .And (y::z::rest) pos) Q))|.Or=>(match e2 with|[]=>r.ev x Y Z (ZB G B E r y Q)|_::_=>F)))
def QT(r:Wx)(f:bZ)(args:List bZ)(pos:xH)(F:Prop)(Y:aP)(Z:Mu)(Q:DV->aP->Mu->Prop):Prop:=match args.any oM with|true=>F|false=>(match f with|.Name x p=>r.ev (.Name x p) Y Z (Rc G B E r pos args Q)|.Attribute o name apos=>(match sX o&&(apos.endLine==pos.line)&&Nat.blt args.length 30 with|true=>r.ev o Y Z (VI G B E r o name pos args Q)|false=>F)|_=>F)
def Zh(r:Wx)(e:bZ)(Y:aP)(Z:Mu)(Q:DV->aP->Mu->Prop):Prop:=match e with
 |.Name x pos=>Pp G B E gs x pos Y Z Q|.Constant c k p=>Zk c (At (EV G B E (a9 (.Constant c k p) B.env) Y Z Q)) fun d=>Q d Y Z
 |.BinOp l op x _=>r.ev l Y Z (Np r x (Vn G B E op) Q)|.Compare l ops xs pos=>M4 G B E r l ops xs (At (EV G B E (a9 (.Compare l ops xs pos) B.env) Y Z Q)) Y Z Q|.UnaryOp op x p=>(match op with|.Not=>r.ev x Y Z (Kz G B E (VG (ZO Q)))|.USub=>r.ev x Y Z (ZD Q)|op=>At (EV G B E (a9 (.UnaryOp op x p) B.env) Y Z Q))|.BoolOp op es pos=>Zl G B E r op es pos (At (EV G B E (a9 (.BoolOp op es pos) B.env) Y Z Q)) Y Z Q|.IfExp t b o _=>r.eb t Y Z (ZH r b o Q)|.Tuple es _ pos=>r.el pos es Y Z (Vu Q)|.Attribute o name pos=>(match sX o with|true=>r.ev o Y Z (ZP G name Q)|false=>At (EV G B E (a9 (.Attribute o name pos) B.env) Y Z Q))|.Call f args kws pos=>(match kws with|[]=>QT G B E r f args pos (At (EV G B E (a9 (.Call f args [] pos) B.env) Y Z Q)) Y Z Q|k::ks=>At (EV G B E (a9 (.Call f args (k::ks) pos) B.env) Y Z Q))|.Subscript o i _=>r.ev o Y Z (Np r i (YY G B E o i) Q)|e=>At (EV G B E (a9 e B.env) Y Z Q)
def ebW(r:Wx)(e:bZ)(Y:aP)(Z:Mu)(Q:Bool->aP->Mu->Prop):Prop:=match e with|.UnaryOp op x p=>(match op with|.Not=>r.eb x Y Z (VG Q)|op=>r.ev (.UnaryOp op x p) Y Z (Kz G B E Q))|.BoolOp op xs _=>r.es op xs Y Z Q|.Compare l ops xs pos=>M4 G B E r l ops xs (At (EB G B E (isTrue (.Compare l ops xs pos) B.env (a9 (.Compare l ops xs pos) B.env)) Y Z Q)) Y Z (Kz G B E Q)|.IfExp t b o p=>At (EB G B E (isTrue (.IfExp t b o p) B.env (a9 (.IfExp t b o p) B.env)) Y Z Q)|e=>r.ev e Y Z (Kz G B E Q)
def esW(r:Wx)(op:BoolOp)(es:List bZ)(Y:aP)(Z:Mu)(Q:Bool->aP->Mu->Prop):Prop:=match op with|.And=>(match es with|[]=>Q ai Y Z|x::rest=>r.eb x Y Z (ZR r rest Q))|.Or=>(match es with|[]=>Q ak Y Z|x::rest=>r.eb x Y Z (OrQ r rest Q))
def Zi(r:Wx)(pos:xH)(es:List bZ)(Y:aP)(Z:Mu)(Q:List DV->aP->Mu->Prop):Prop:=match es with|[]=>Q [] Y Z|e::rest=>(match oM e with|false=>r.ev e Y Z (ZN r pos rest Q)|true=>At (EL G B E (dB (cy pos (br (e::rest) B.env))) Y Z Q))
def Zm(ff:Bool)(r:Wx)(ts:List bZ)(k:Nat)(tp:xH)(e:bZ)(F:Prop)(Y:aP)(Z:Mu)(Q:Fl->aP->Mu->Prop):Prop:=OD ts (fun t1 t2=>match t1 with|.Name x px=>(match t2 with|.Name y py=>(match DA e||!ff with|false=>r.ev e Y Z (ZQ G B E (.Tuple [.Name x px,.Name y py] k tp) x y Q)|true=>F)|_=>F)|_=>F) F
def Q0(ff:Bool)(r:Wx)(t e:bZ)(F:Prop)(Y:aP)(Z:Mu)(Q:Fl->aP->Mu->Prop):Prop:=match vQ e with|true=>F|false=>(match t with|.Name x _=>(match p7 Y x with|some _=>r.ev e Y Z (Nn x Q)|none=>F)|.Tuple ts k tp=>Zm G B E ff r ts k tp e F Y Z Q|.Subscript o i _=>r.ev e Y Z (Zt r o i Q)|.Attribute o name _=>r.ev e Y Z (Zu G r o name Q)|_=>F)
def U0(r:Wx)(t iter:bZ)(body els:List jW)(F:Prop)(Y:aP)(Z:Mu)(Q:Fl->aP->Mu->Prop):Prop:=match els with|_::_=>F|[]=>(match qC iter with|true=>F|false=>(match t with|.Name x px=>r.ev iter Y Z (ZK G B E x px body Q)|_=>F))
def WQ(ff:Bool)(r:Wx)(st:jW)(Y:aP)(Z:Mu)(Q:Fl->aP->Mu->Prop):Prop:=match st with|.Return eo pos=>(match eo with|some e=>r.ev e Y Z (Zw Q)|none=>At (EX G B E (fc (.Return aq pos) B.env) Y Z Q))|.If t b o _=>r.eb t Y Z (IfQ r b o Q)|.Break _=>Q .brk Y Z|.Pass _=>Q .next Y Z|.Expr e pos=>(match vQ e with|false=>r.ev e Y Z (ZM Q)|true=>At (EX G B E (fc (.Expr e pos) B.env) Y Z Q))|.Assign ts e pos=>(match ts with|[]=>At (EX G B E (fc (.Assign [] e pos) B.env) Y Z Q)|t::ts'=>(match ts' with|[]=>Q0 G B E ff r t e (At (EX G B E (fc (.Assign [t] e pos) B.env) Y Z Q)) Y Z Q|u::us=>At (EX G B E (fc (.Assign (t::u::us) e pos) B.env) Y Z Q)))|.For t iter body els pos=>U0 G B E r t iter body els (At (EX G B E (fc (.For t iter body els pos) B.env) Y Z Q)) Y Z Q|st=>At (EX G B E (fc st B.env) Y Z Q)
noncomputable def IG(st:jW):Nat:=st.pos.line
def QF(sp:List Nat)(r:Wx)(ss:List jW)(Y:aP)(Z:Mu)(Q:Fl->aP->Mu->Prop):Prop:=match ss with|[]=>Q .next Y Z|st::rest=>(match sp with|[]=>r.ex st Y Z (KB r rest Q)|n::_=>(match IG st==n with|true=>At (EX G B E (eG (st::rest) B.env) Y Z Q)|false=>r.ex st Y Z (KB r rest Q)))
noncomputable def wI(ff:Bool)(sp:List Nat):Nat->Wx|0=>⟨fun e Y Z Q=>At (EV G B E (a9 e B.env) Y Z Q),fun e Y Z Q=>At (EB G B E (isTrue e B.env (a9 e B.env)) Y Z Q),fun op es Y Z Q=>At (EB G B E (jc op es B.env) Y Z Q),fun pos es Y Z Q=>At (EL G B E (dB (cy pos (br es B.env))) Y Z Q),fun st Y Z Q=>At (EX G B E (fc st B.env) Y Z Q),fun ss Y Z Q=>At (EX G B E (eG ss B.env) Y Z Q)⟩|n+1=>⟨Zh G B E gs (wI ff sp n),ebW G B E (wI ff sp n),esW (wI ff sp n),Zi G B E (wI ff sp n),WQ G B E ff (wI ff sp n),QF G B E sp (wI ff sp n)⟩
end
section
inductive pU (G:G0):List (aV×DV)->Prop
 |nil:pU G []
 |cons {x:aV} {d:DV} {r:List (aV×DV)}:bY G x d->pU G r->pU G ((x,d)::r)
theorem pU.has(z:pU G gs):CK gs x d->bY G x d:=by
 induction z with
 |nil=>intro h;cases h
 |cons h _ ih=>intro q;cases q with|head=>exact h|tail q=>exact ih q
structure Wx.Ok (G:G0) (B:Bx) (E:aE->ay->Prop) (r:Wx):Prop where
 ev:∀{e Y Z Q},r.ev e Y Z Q->EV G B E (a9 e B.env) Y Z Q
 eb:∀{e Y Z Q},r.eb e Y Z Q->EB G B E (isTrue e B.env (a9 e B.env)) Y Z Q
 es:∀{op es Y Z Q},r.es op es Y Z Q->EB G B E (jc op es B.env) Y Z Q
 el:∀{pos es Y Z Q},r.el pos es Y Z Q->EL G B E (dB (cy pos (br es B.env))) Y Z Q
 ex:∀{st Y Z Q},r.ex st Y Z Q->EX G B E (fc st B.env) Y Z Q
 exs:∀{ss Y Z Q},r.exs ss Y Z Q->EX G B E (eG ss B.env) Y Z Q
theorem F0{Q:Bool->aP->Mu->Prop}(e:tL d=ac b)(q:Q b Y Z):Q3 G B E d Y Z Q:=fun V s va S h=>pe h e ⟨b,Y,Z,V,S,.refl _,rfl,q⟩
set_option tactic.hygienic true in
theorem yW{Q:Bool->aP->Mu->Prop}(h:OE G B E d Y Z Q):Q3 G B E d Y Z Q:=by
 unfold OE at h;split at h;.next b e=>exact F0 e h
 .exact h.get
theorem Pq{P R S:Prop}(h:Ux d P R)(p:d≠.any->P->S)(r:R->S):S:=by
 unfold Ux at h;split at h;.next e=>exact p (GE e) h
 .exact r h
theorem m6{P R:Prop}(h:Fw c P R):rR c P R:=by cases c with|true=>exact Ng h|false=>exact Nh h
theorem Ni{a b:DV}(h:Vn G B E op a b Y Z Q):O2 G B E (Is G.prog G.w) (fK op) a b Y Z Q:=by
 cases op with
 |Add=>
  cases a with
  |int i=>cases b with|int j=>exact Ph h|_=>exact At.get h
  |_=>exact At.get h
 |Sub=>
  cases a with
  |int i=>cases b with|int j=>exact Pf h|_=>exact At.get h
  |_=>exact At.get h
 |_=>exact At.get h
theorem pJ(hf:∀{i j:Int}{Y:aP}{Z:Mu}{Q:DV->aP->Mu->Prop},Q (.bool (f i j)) Y Z->O2 G B E (Is G.prog G.w) (bi op) (.int i) (.int j) Y Z Q){a b:DV}(h:D2 G B E op f a b Y Z Q):O2 G B E (Is G.prog G.w) (bi op) a b Y Z Q:=by
 cases a with
 |int i=>cases b with|int j=>exact hf h|_=>exact At.get h
 |_=>exact At.get h
theorem M7{a b:DV}(h:Vf G B E op a b Y Z Q):O2 G B E (Is G.prog G.w) (bi op) a b Y Z Q:=by cases op with|Eq=>exact pJ GC h|NotEq=>exact pJ Gu h|Lt=>exact pJ Gv h|LtE=>exact pJ Gw h|Gt=>exact pJ Gz h|GtE=>exact pJ GA h|_=>exact At.get h
theorem yd{x:aW}:∀{l:List (aW×α)},ye l x=ac d->(x,d)∈l
 |(y,e)::r,h=>by
  have g:(if y=x then ac e else ye r x)=ac d:=h;by_cases q:y=x;.rw[if_pos q] at g;injection g with g;rw[<-q,<-g];exact .head _
  .rw[if_neg q] at g;exact .tail _ (yd g)
theorem sD{x:aW}:∀{l:List (aW×aV×aW)},yc l x m=ac f->(x,m,f)∈l
 |(y,n,f')::r,h=>by
  have g:(if y=x then(if n=m then ac f' else yc r x m) else yc r x m)=ac f:=h;by_cases q:y=x
  .rw[if_pos q] at g
   by_cases q':n=m;.rw[if_pos q'] at g;injection g with g;rw[<-q,<-q',<-g];exact .head _
   .rw[if_neg q'] at g;exact .tail _ (sD g)
  .rw[if_neg q] at g;exact .tail _ (sD g)
theorem oz:∀{l:List (aV×α)}{ns:List aV},oA l ns=ai->l.map (·.1)=ns
 |[],[],_=>rfl|(x,d)::r,y::s,h=>by
  have g:(if x=y then oA r s else ak)=ai:=h;by_cases q:x=y;.rw[if_pos q] at g;exact List.cons_eq_cons.mpr ⟨q,oz g⟩
  .rw[if_neg q] at g;injection g
theorem CK.key{d:α}(h:CK l x d):x∈l.map (·.1):=ax h.mem
theorem dJ{p:α->Prop}{a:α}(h:p a)(t:∀x∈l,p x):∀x∈a::l,p x:=List.forall_mem_cons.mpr ⟨h,t⟩
theorem wU{p:α->Prop}:∀x∈([]:List α),p x:=fun _ h=>nomatch h
theorem My(g:dN G):∀p∈Mz,∀x∈p.2,fy G p.1 p.2 x:=dJ (dJ (wa g) (dJ (qF g) wU)) (dJ (dJ (Aj g) wU) (dJ (dJ (Ai g) (dJ (wb g) wU)) (dJ (dJ (xx g) (dJ (ud g) wU)) (dJ (dJ (rD g) (dJ (v9 g) wU)) (dJ (dJ (rB g) (dJ (Ah g) (dJ (xw g) (dJ (rC g) (dJ (uc g) wU))))) wU)))))
theorem LZ(g:dN G):∀p∈Uz,∃ns,ye Mz p.1=ac ns/\lK G p.1 ns p.2.1 p.2.2:=dJ (bq _ rfl (zE g)) (dJ (bq _ rfl (xo g)) (dJ (bq _ rfl (BE g)) (dJ (bq _ rfl (BD g)) (dJ (bq _ rfl (BF g)) (dJ (bq _ rfl (ua g)) (dJ (bq _ rfl (zD g)) (dJ (bq _ rfl (zC g)) wU)))))))
theorem Qo(g:dN G):∀a∈kpT,bH G (.ref a):=dJ (UJ g) (dJ (NX g) (dJ (Qn g) (dJ (Qm g) (dJ (Ql g) (dJ (Qk g) (dJ (Qj g) (dJ (Qi g) (dJ (Qh g) (dJ (Qg g) (dJ (Qf g) (dJ (Qe g) (dJ (Qd g) (dJ (Qc g) (dJ (Qb g) (dJ (Qa g) (dJ (P9 g) (dJ (P0 g) (dJ (PZ g) (dJ (PY g) (dJ (PX g) (dJ (PW g) (dJ (PU g) (dJ (Je g) (dJ (Dw g) (dJ (PT g) (dJ (Jd g) (dJ (PS g) (dJ (PR g) (dJ (PQ g) (dJ (PP g) (dJ (PO g) (dJ (Jc g) (dJ (Jb g) (dJ (PN g) (dJ (PM g) (dJ (PL g) (dJ (PK g) (dJ (PJ g) (dJ (PI g) (dJ (PH g) (dJ (PG g) (dJ (PF g) (dJ (PE g) (dJ (PC g) (dJ (PB g) wU)))))))))))))))))))))))))))))))))))))))))))))
theorem Fx{o:Option α}{x:β}{C:Prop}(h:BC o f=ac x)(k:∀a,o=ac a->f a=ac x->C):C:=by cases o with|none=>injection h|some a=>exact k a rfl h
theorem N3{x:β}{C:Prop}(h:DF c f=ac x)(k:c=ai->f=x->C):C:=by cases c with|false=>injection h|true=>exact k rfl (aB h)
theorem E6{Yy C:Prop}(h:Mp d X Yy)(k:∀A l,d=.inst A l->X A l->C)(z:Yy->C):C:=by cases d with|inst A l=>exact k A l rfl h|_=>exact z h
theorem Nj(g:dN G)(h:Vq G name d Y Z Q):CD G name Q d Y Z:=by refine E6 h (fun C l e h=>?_) At.get;subst e;cases e:U1 C l name with|none=>rw[e] at h;exact h.get|some x=>rw[e] at h;refine Fx e fun ns e1 e=>Fx e fun d' e2 e=>N3 e fun e3 e=>?_;subst e;have hk:=oz e3;have hx:=iF e2;exact Vp (My g _ (yd e1) _ (hk▸hx.key)) hk hx h
theorem Mk(g:dN G)(h:UN f=ai):bH G f:=by
 cases f with
 |builtin id=>exact kg|type id=>exact G1|ref a=>refine ar (dA.mp h) fun b hb e=>?_;rw[beq_iff_eq] at e;subst e;exact Qo g _ hb
 |_=>injection h
theorem QO{Q:Bool->aP->Mu->Prop}(h:EV G B E (a9 e B.env) Y Z fun d Y' Z'=>Q3 G B E d Y' Z' Q)(hq:vM e=ai):EB G B E (isTrue e B.env (a9 e B.env)) Y Z Q:=by intro V s S;refine wpAny_isTrue_value (WP.use h S (fun v s_1 d Y1 Z1 V_1 S_1 k_1 i_1 q=>?_)) (Ir hq _);exact aQ (q V_1 s_1 v S_1 i_1) (fun zz zz=>qP.up k_1) fun zz zz x=>x
theorem M1{Q:Bool->aP->Mu->Prop}(h:EV G B E (a9 l B.env) Y Z (Ry G B E r (bi op) fun d Y' Z'=>Q3 G B E d Y' Z' Q))(hm:nX op r=ak):EB G B E (isTrue (.Compare l [op] [r] pos) B.env whole) Y Z Q:=by intro V s S;refine wpAny_isTrue_Compare1 (WP.use h S (fun a s_1 da Y1 Z1 V_1 S_1 k_1 i_1 h₁=>?_)) hm;refine WP.use h₁ S_1 (fun b s_2 db Y2 Z2 V_2 S_2 k_2 i_2 h_2=>?_);refine aQ (h_2 V_2 s_2 a b S_2 (i_1.mono k_2) i_2) (fun v s_3 z5=>iK z5 fun d Y3 Z3 V_3 S_3 k_3 i_3 q=>?_) fun zz zz x=>x;exact aQ (q V_3 s_3 v S_3 i_3) (fun v s' z6=>iK z6 fun d Y' Z' V' S' k' i' q=>⟨d,Y',Z',V',S',k_1.trans (k_2.trans (k_3.trans k')),i',q⟩) fun zz zz x=>x
theorem MI{x:bZ}(h:EV G B E (a9 x B.env) Y Z fun d Y' Z'=>Q3 G B E d Y' Z' fun b Y2 Z2=>Q (.bool (!b)) Y2 Z2):EV G B E (a9 (.UnaryOp .Not x pos) B.env) Y Z Q:=by intro V s S;refine ZU (WP.use h S (fun v s_1 d Y1 Z1 V_1 S_1 k_1 i_1 q=>?_));exact not_of (aQ (q V_1 s_1 v S_1 i_1) (fun c s' z8=>iK z8 fun d Y' Z' V' S' k' i' q=>⟨_,Y',Z',V',S',k_1.trans k',aT.mpr ⟨by rw[i'],rfl⟩,q⟩) fun zz zz x=>x)
theorem MS{x y z:bZ}(h:EV G B E (a9 x B.env) Y Z (FE G B E (.BoolOp .And (y::z::rest) pos) Q)):EV G B E (a9 (.BoolOp .And (x::y::z::rest) pos) B.env) Y Z Q:=by intro V s S;refine BoolOp_and (WP.use h S (fun v s_1 a Y1 Z1 V_1 S_1 k_1 i_1 z10=>bp z10 fun c hc q1 q2=>?_));refine pe i_1 hc ?_;cases c with|true=>exact WP.step (rel':=Is G.prog G.w) k_1 (q1 rfl) S_1|false=>exact⟨a,Y1,Z1,V_1,S_1,k_1,i_1,q2 rfl⟩
set_option tactic.hygienic true in
theorem FD(R:r.Ok G B E){y:bZ}(h:Nx G B E r y Q d Y Z):FE G B E y Q d Y Z:=by
 unfold Nx at h;split at h;.next b e=>exact bq b e ((m6 h).imp (fun a e=>R.ev (a e)) fun a=>a)
 .exact h.get
set_option tactic.hygienic true in
theorem Q6(R:r.Ok G B E){y:bZ}(h:ZB G B E r y Q d Y Z):Q7 G B E y Q d Y Z:=by
 unfold ZB at h;split at h;.next b e=>exact bq b e ((m6 h).imp (fun a=>a) fun a e=>R.ev (a e))
 .exact h.get
theorem Nw{r:Wx}(R:r.Ok G B E)(h:r.el pos args Y Z (VU G B E f Q)):EL G B E (dB (cy pos (br args B.env))) Y Z (Re G B E f Q):=(R.el h).mono fun zz zz zz h=>h.get
theorem KF{r:Wx}(R:r.Ok G B E)(h:r.el pos args Y Z (Ob G B E f d Q)):EL G B E (dB (cy pos (br args B.env))) Y Z (AJ G B E f [d] Q):=(R.el h).mono fun zz zz zz h=>h.get
theorem Nv(g:dN G)(R:r.Ok G B E)(h:Rc G B E r pos args Q d Y Z):CC G B E pos args Q d Y Z:=by
 unfold Rc at h;split at h
 .split at h
  .next e=>exact Km (Mk g e) (Nw R h)
  .exact h.get
 .exact h.get
theorem Nq(O:B.Ok G)(g:dN G)(R:r.Ok G B E){o:bZ}(h:VI G B E r o name pos args Q d Y Z):nF G B E name (do return (<-AM o B.env).getD ai) pos args Q d Y Z:=by refine E6 h (fun C l e h=>?_) At.get;subst e;cases e:Uy C l name with|none=>rw[e] at h;exact h.get|some f=>rw[e] at h;refine Fx e fun f' e1 e=>Fx e fun ns e2 e=>N3 e fun e3 e=>?_;subst e;refine ar (LZ g _ (sD e1)) fun ns' e4 F=>?_;rw[e2] at e4;(injection e4 with e4;subst e4);exact Dp O F (oz e3) (KF R h)
theorem Nm(R:r.Ok G B E){Q:Fl->aP->Mu->Prop}(h:KB r rest Q f Y Z):VE G B E rest Q f Y Z:=by cases f with|next=>exact R.exs h|_=>exact h
theorem LX(O:B.Ok G)(hg:pU G gs)(hk:(gs.all fun p=>B.env.kindOf p.1==ac .globalImplicit)=ai)(h:Pp G B E gs x pos Y Z Q):EV G B E (a9 (.Name x pos) B.env) Y Z Q:=by
 unfold Pp at h;split at h;.exact h.get
 .next hd=>
  have hd:(x==("__debug__" : aV))=ak:=beq_eq_false_iff_ne.mpr hd;split at h;.next d e=>exact Pq h (fun hn q=>ML O (iF e) hd hn q) At.get
  .split at h
   .next d e=>have hh:=iF e;exact wk O (hg.has hh) (by simpa using aU.mp hk _ hh.mem) hd h
   .exact h.get
theorem EM(R:r.Ok G B E){x:bZ}(hf:∀{a b Y Z Q},f a b Y Z Q->O2 G B E (Is G.prog G.w) t a b Y Z Q){a:DV}(h:Np r x f Q a Y Z):Ry G B E x t Q a Y Z:=(R.ev h).mono fun zz zz zz h=>hf h
theorem U9(R:r.Ok G B E){Q:List DV->aP->Mu->Prop}(h:Zi G B E r pos es Y Z Q):EL G B E (dB (cy pos (br es B.env))) Y Z Q:=by cases es with|nil=>exact Aq h|cons e rest=>unfold Zi at h;dsimp only at h;cases hs:oM e with|false=>rw[hs] at h;exact uy ((R.ev h).mono fun zz zz zz h=>R.el h) (EH hs)|true=>rw[hs] at h;exact h.get
theorem U5(R:r.Ok G B E){Q:Bool->aP->Mu->Prop}(h:esW r op es Y Z Q):EB G B E (jc op es B.env) Y Z Q:=by
 cases op with
 |And=>cases es with|nil=>exact Ct h|cons x rest=>exact xC ((R.eb h).mono fun zz zz zz h=>(m6 h).imp (fun a e=>R.es (a e)) fun a=>a)
 |Or=>cases es with|nil=>exact Ee h|cons x rest=>exact AB ((R.eb h).mono fun zz zz zz h=>(m6 h).imp (fun a=>a) fun a e=>R.es (a e))
theorem L4{o:bZ}(h1:sX o=ai)(h2:(apos.endLine==pos.line)=ai)(h3:args.length<30)(h4:args.any oM=ak):
  a9 (.Call (.Attribute o name apos) args [] pos) env=(do
     let ov <-a9 o env
     sZ apos.atName
     let (f,first) <-holding [ov] (jy ov name (do return (<-AM o env).getD ai))
     r7 pos f first (cy pos (br args env)) (pM pos (jx [] env))):=by
 show(do
  let ov <-FK o name env (a9 o env)
  sZ apos.atName
  methodCall o name apos pos env ov (args.length+0) (cy pos (br args env)) (pM pos (jx [] env)))=_
 rw[Fy h1];have hm:methodCallForm (args.length+0) (cy pos (br args env)) (pM pos (jx [] env))=ai:=by
  have h5:((cy pos (br args env)).all fun x=>!x.1)=ai:=by have:=qS (pos:=pos) (env:=env) h4;rw[aU];intro x hx;cases hb:x.1 with|false=>rfl|true=>rw[Ii] at this;exact absurd hb (this x hx)
  show(_&&ai&&decide (args.length+0+0<30))=ai;rw[h5];exact decide_eq_true h3
 unfold methodCall;rw[hm];have hp:ZV ai o env apos pos=pure pos:=by unfold ZV;rw[h2];rfl
 simp only[hp,calleeOf,if_true,pure_bind]
theorem Fn(R:r.Ok G B E){F S:Prop}(h:M4 G B E r l ops xs F Y Z Q)(f:F->S)(k:∀op x,ops=[op]->xs=[x]->nX op x=ak->EV G B E (a9 l B.env) Y Z (Ry G B E x (bi op) Q)->S):S:=by cases ops with|nil=>exact f h|cons op o'=>cases o' with|cons=>exact f h|nil=>cases xs with|nil=>exact f h|cons x x'=>cases x' with|cons=>exact f h|nil=>unfold M4 at h;dsimp only at h;cases hm:nX op x with|true=>rw[hm] at h;exact f h|false=>rw[hm] at h;exact k op x rfl rfl hm ((R.ev h).mono fun zz zz zz h=>EM R M7 h)
theorem Nc(O:B.Ok G)(g:dN G)(R:r.Ok G B E)(h:QT G B E r f args pos F Y Z Q)(hF:F->EV G B E (a9 (.Call f args [] pos) B.env) Y Z Q):EV G B E (a9 (.Call f args [] pos) B.env) Y Z Q:=by
 unfold QT at h;cases hs:args.any oM with|true=>rw[hs] at h;exact hF h|false=>
  rw[hs] at h;cases f with
  |Name x p=>exact wl O ((R.ev h).mono fun zz zz zz h=>Nv g R h) rfl (qS hs)|Attribute o name apos=>dsimp only at h;cases hb:(sX o&&(apos.endLine==pos.line)&&Nat.blt args.length 30) with|true=>rw[hb] at h;rw[aO,aO] at hb;exact Hj O ((R.ev h).mono fun zz zz zz h=>Nq O g R h) (L4 hb.1.1 hb.1.2 (aj hb.2) hs) (qS hs)|false=>rw[hb] at h;exact hF h
  |_=>exact hF h
theorem U4(O:B.Ok G)(g:dN G)(hg:pU G gs)(hk:(gs.all fun p=>B.env.kindOf p.1==ac .globalImplicit)=ai)(R:r.Ok G B E)(h:Zh G B E gs r e Y Z Q):EV G B E (a9 e B.env) Y Z Q:=by
 cases e with
 |Name x pos=>exact LX O hg hk h|Constant c k p=>cases c with|none=>exact MJ h|bool=>exact MQ h|int=>exact JP h|str=>exact JN h|_=>exact At.get h
 |BinOp l op x p=>exact JT ((R.ev h).mono fun zz zz zz h=>EM R Ni h)|Compare l ops xs p=>exact Fn R h At.get fun op x e1 e2 hm h'=>by subst e1;subst e2;exact QK h' hm
 |UnaryOp op x p=>
  cases op with
  |Not=>exact MI ((R.ev h).mono fun zz zz zz h=>yW h)|USub=>refine MK ((R.ev h).mono fun d zz zz h=>?_);cases d with|int i=>exact YS h|_=>exact At.get h
  |_=>exact At.get h
 |BoolOp op es p=>
  cases es with|nil=>exact At.get h|cons x e1=>
   cases e1 with|nil=>exact At.get h|cons y e2=>
    cases op with
    |And=>cases e2 with|nil=>exact JV ((R.ev h).mono fun zz zz zz h=>FD R h)|cons z r'=>exact MS ((R.ev h).mono fun zz zz zz h=>FD R h)
    |Or=>cases e2 with|nil=>exact MH ((R.ev h).mono fun zz zz zz h=>Q6 R h)|cons z r'=>exact At.get h
 |IfExp t b o p=>exact Hk ((R.eb h).mono fun zz zz zz h=>(m6 h).imp (fun a e=>R.ev (a e)) fun a e=>R.ev (a e))|Tuple es k pos=>refine Hi O ((R.el h).mono fun ds zz zz h=>?_);unfold Vu at h;cases hl:gW ds.length 1000 with|true=>rw[hl] at h;exact Xk (ae (aj hl) (by decide)) h|false=>rw[hl] at h;exact h.get
 |Attribute o name pos=>unfold Zh at h;dsimp only at h;cases hb:sX o with|true=>rw[hb] at h;exact JU O ((R.ev h).mono fun zz zz zz h=>Nj g h) (by show(do let o <-FK _ _ _ _;_)=_;rw[Fy hb])|false=>rw[hb] at h;exact h.get
 |Call f args kws pos=>cases kws with|nil=>exact Nc O g R h At.get|cons=>exact At.get h
 |Subscript o i p=>exact QH ((R.ev h).mono fun zz zz zz h=>(R.ev h).mono fun zz zz zz h=>h.get)|_=>exact At.get h
theorem Va(R:r.Ok G B E){Q:Bool->aP->Mu->Prop}(h:ebW G B E r e Y Z Q):EB G B E (isTrue e B.env (a9 e B.env)) Y Z Q:=by
 have other:vM e=ai->r.ev e Y Z (Kz G B E Q)->EB G B E (isTrue e B.env (a9 e B.env)) Y Z Q:=fun hp h=>QO ((R.ev h).mono fun zz zz zz h=>yW h) hp;cases e with
 |UnaryOp op x p=>cases op with|Not=>exact QP (R.eb h)|_=>exact other rfl h
 |BoolOp op xs p=>exact Hq (R.es h)|Compare l ops xs p=>exact Fn R h At.get fun op x e1 e2 hm h'=>by subst e1;subst e2;exact M1 (h'.mono fun zz zz zz h=>h.mono fun zz zz zz h V s a b S ia ib=>aQ (h V s a b S ia ib) (fun v s' z11=>iK z11 fun d Y' Z' V' S' k' i' q=>⟨d,Y',Z',V',S',k',i',yW q⟩) fun zz zz x=>x) hm
 |IfExp=>exact At.get h|_=>exact other rfl h
theorem Nk(O:B.Ok G)(hf:ff=ai->B.hd=ak)(R:r.Ok G B E){Q:Fl->aP->Mu->Prop}(h:Q0 G B E ff r t e F Y Z Q)(hF:F->EX G B E (fc (.Assign [t] e pos) B.env) Y Z Q):EX G B E (fc (.Assign [t] e pos) B.env) Y Z Q:=by
 unfold Q0 at h;cases hc:vQ e with|true=>rw[hc] at h;exact hF h|false=>
  rw[hc] at h;cases t with
  |Name x xp=>dsimp only at h;cases hx:p7 Y x with|none=>rw[hx] at h;exact hF h|some d0=>rw[hx] at h;refine DR O ((R.ev h).mono fun d Y' Z' h=>?_) (og hc _ _ _);unfold Nn at h;cases hp:oy Y' x d with|some ρ2=>rw[hp] at h;exact Tm (cH hp) h|none=>rw[hp] at h;exact h.get
  |Attribute o name p=>exact ug O ((R.ev h).mono fun zz zz zz h=>(R.ev h).mono fun zz zz zz h=>h.get) (og hc _ _ _)|Subscript o i p=>exact xy ((R.ev h).mono fun zz zz zz h=>(R.ev h).mono fun zz zz zz h=>(R.ev h).mono fun zz zz zz h=>h.get) (og hc _ _ _)|Tuple ts k tp=>
   refine Ez h (fun a b e2 h8=>?_) hF;subst e2;cases a with
   |Name x px=>
    cases b with
    |Name y py=>
     dsimp only at h8;cases h3:(DA e||!ff) with|true=>rw[h3] at h8;exact hF h8|false=>
      rw[h3] at h8;rw[fp] at h3;refine qe ((R.ev h8).mono fun d Y' Z' h=>?_) (by unfold nS;exact og hc _ _ _) (C6 h3.1 _);cases d with
      |tup l=>refine Ez h (fun a b e4 h9=>?_) At.get;subst e4;unfold Go at h9;cases h5:oy Y' x a with|none=>rw[h5] at h9;exact h9.get|some ρ2=>rw[h5] at h9;dsimp only at h9;cases h6:oy ρ2 y b with|none=>rw[h6] at h9;exact h9.get|some ρ3=>rw[h6] at h9;exact Fz O (hf (by simpa using h3.2)) (cH h5) (cH h6) h9
      |_=>exact At.get h
    |_=>exact hF h8
   |_=>exact hF h8
  |_=>exact hF h
theorem QA(O:B.Ok G){Q:Fl->aP->Mu->Prop}(h:EV G B E (a9 iter B.env) Y Z (Ej G B E x px body Q))(hs:qC iter=ak):EX G B E (fc (.For (.Name x px) iter body [] pos) B.env) Y Z Q:=MF O (fun zz zz zz w=>⟨w.frame,w.fr⟩) h (fun zz zz=>rfl) (zj hs _)
theorem U2(O:B.Ok G)(hf:ff=ai->B.hd=ak)(R:r.Ok G B E){st:jW}{Q:Fl->aP->Mu->Prop}(h:WQ G B E ff r st Y Z Q):EX G B E (fc st B.env) Y Z Q:=by
 cases st with
 |Return eo p=>cases eo with|some e=>exact Hg (R.ev h)|none=>exact At.get h
 |If t b o p=>
  refine JJ ((R.eb h).mono fun zz zz zz h=>?_);cases o with
  |nil=>exact(m6 h).imp (fun a e=>R.exs (a e)) fun a e=>An (a e)
  |cons=>exact(m6 h).imp (fun a e=>R.exs (a e)) fun a e=>R.exs (a e)
 |Break=>exact JL h|Pass=>exact ME h|Expr e p=>unfold WQ at h;dsimp only at h;cases hc:vQ e with|false=>rw[hc] at h;exact Fc O (R.ev h) (og hc _ _ _)|true=>rw[hc] at h;exact h.get
 |Assign ts e p=>cases ts with|nil=>exact At.get h|cons t ts'=>cases ts' with|nil=>exact Nk O hf R h At.get|cons=>exact At.get h
 |For t iter body els pos=>cases els with|cons=>exact At.get h|nil=>dsimp only[WQ,U0] at h;cases hs:qC iter with|true=>rw[hs] at h;exact h.get|false=>rw[hs] at h;cases t with|Name x px=>exact QA O ((R.ev h).mono fun zz zz zz h=>h.get) hs|_=>exact At.get h
 |_=>exact At.get h
theorem QE(R:r.Ok G B E){Q:Fl->aP->Mu->Prop}(h:QF G B E sp r ss Y Z Q):EX G B E (eG ss B.env) Y Z Q:=by cases ss with|nil=>exact An h|cons st rest=>have go:r.ex st Y Z (KB r rest Q)->EX G B E (eG (st::rest) B.env) Y Z Q:=fun h=>g6 ((R.ex h).mono fun zz zz zz h=>Nm R h);cases sp with|nil=>exact go h|cons n sp'=>unfold QF at h;dsimp only at h;cases hs:IG st==n with|true=>rw[hs] at h;exact h.get|false=>rw[hs] at h;exact go h
theorem R1(O:B.Ok G)(hf:ff=ai->B.hd=ak)(g:dN G)(hg:pU G gs)(hk:(gs.all fun p=>B.env.kindOf p.1==ac .globalImplicit)=ai):∀n,(wI G B E gs ff sp n).Ok G B E:=by
 intro p0_;induction p0_ with|zero=>exact⟨At.get,At.get,At.get,At.get,At.get,At.get⟩|succ n ih=>
  exact
    have R:=ih
    ⟨U4 O g hg hk R,Va R,U5 R,U9 R,U2 O hf R,QE R⟩
def tM(Q:β->aP->Mu->Prop):β->aP->Mu->Prop:=fun d Y Z=>At (Q d Y Z)
structure Wk (G:G0) (B:Bx) (gs:List (aV×DV)) (ff:Bool):Prop where
 O:B.Ok G
 hf:ff=ai->B.hd=ak
 g:dN G
 hg:pU G gs
 hk:(gs.all fun p=>B.env.kindOf p.1==ac .globalImplicit)=ai
theorem Wk.ok(W:Wk G B gs ff)(n):(wI G B E gs ff sp n).Ok G B E:=R1 W.O W.hf W.g W.hg W.hk n
variable {ff : Bool} (W : Wk G B gs ff)
include W
theorem uI{Q:Fl->aP->Mu->Prop}(h:(wI G B E gs ff [] 100).exs ss Y Z (tM Q)):EX G B E (eG ss B.env) Y Z Q:=((W.ok _).exs h).mono fun zz zz zz h=>h.get
theorem Xg{st:jW}{Q:Fl->aP->Mu->Prop}(h:(wI G B E gs ff [] 100).ex st Y Z (tM Q)):EX G B E (fc st B.env) Y Z Q:=((W.ok _).ex h).mono fun zz zz zz h=>h.get
theorem Lq(h:(wI G B E gs ff [] 100).ev e Y Z (tM Q)):EV G B E (a9 e B.env) Y Z Q:=((W.ok _).ev h).mono fun zz zz zz h=>h.get
theorem Xh{Q:Bool->aP->Mu->Prop}(h:(wI G B E gs ff [] 100).eb e Y Z (tM Q)):EB G B E (isTrue e B.env (a9 e B.env)) Y Z Q:=((W.ok _).eb h).mono fun zz zz zz h=>h.get
theorem ii{Q:List DV->aP->Mu->Prop}(h:(wI G B E gs ff [] 100).el pos es Y Z (tM Q)):EL G B E (dB (cy pos (br es B.env))) Y Z Q:=((W.ok _).el h).mono fun zz zz zz h=>h.get
theorem sd(sp){Q:Fl->aP->Mu->Prop}(h:(wI G B E gs ff sp 100).exs ss Y Z (tM Q)):EX G B E (eG ss B.env) Y Z Q:=((W.ok _).exs h).mono fun zz zz zz h=>h.get
theorem yT{Q:Fl->aP->Mu->Prop}(h:(wI G B E gs ff [] 100).exs ss Y Z Q):EX G B E (eG ss B.env) Y Z Q:=(W.ok _).exs h
end
set_option backward.match.sparseCases true
set_option backward.match.sparseCases false
noncomputable def rA(fd:w8)(ps rest:List aV)(gs:List (aV×DV)):Bool:=
 !fd.scope.isCoroutine&&!fd.scope.isGenerator&&decide (fd.scope.kind=.function)&&decide (fd.globals=ce)&&decide (fd.builtins=d9)&&decide ((ps++rest).Nodup) &&
 gs.all (fun p=>fd.scope.names.lookup p.1==ac .globalImplicit)&&(ps++rest).all (fun x=>fd.scope.names.lookup x==ac .local)
noncomputable def I2(fd:w8):Bool:=fd.scope.names.all fun x=>decide (x.2≠.cell)
structure Nu (fd:w8) (ps rest:List aV) (gs:List (aV×DV)):Prop where
 co:fd.scope.isCoroutine=ak
 gen:fd.scope.isGenerator=ak
 kind:fd.scope.kind=.function
 glo:fd.globals=ce
 bui:fd.builtins=d9
 nd:(ps++rest).Nodup
 gk:(gs.all fun p=>fd.scope.names.lookup p.1==ac .globalImplicit)=ai
 loc:((ps++rest).all fun x=>fd.scope.names.lookup x==ac .local)=ai
theorem Ae(h:rA fd ps rest gs=ai):Nu fd ps rest gs:=by unfold rA at h;simp only[aO,decide_eq_true_eq,Ik] at h;exact⟨h.1.1.1.1.1.1.1,h.1.1.1.1.1.1.2,h.1.1.1.1.1.2,h.1.1.1.1.2,h.1.1.1.2,h.1.1.2,h.1.2,h.2⟩
theorem l7(h:I2 fd=ai):∀x∈fd.scope.names,x.2≠.cell:=fun x hx=>of_decide_eq_true (aU.mp h x hx)
abbrev rS(fd:w8)(ps:List aV):Prop:=∀vs,vs.length=ps.length->i8 fd ⟨vs,[]⟩=pure (ps.zip vs)
theorem UH(h:l.length=1):∃v1,l=[v1]:=List.length_eq_one_iff.mp h
theorem Pz{l:List α}(h:l.length=2):∃v1 v2,l=[v1,v2]:=by cases l with|nil=>injection h|cons v1 r=>refine aY (UH (j3 h)) fun v2 z1=>?_;subst z1;exact⟨v1,v2,rfl⟩
theorem UG{l:List α}(h:l.length=3):∃v1 v2 v3,l=[v1,v2,v3]:=by cases l with|nil=>injection h|cons v1 r=>refine g7 (Pz (j3 h)) fun v2 v3 z2=>?_;subst z2;exact⟨v1,v2,v3,rfl⟩
theorem UF{l:List α}(h:l.length=4):∃v1 v2 v3 v4,l=[v1,v2,v3,v4]:=by cases l with|nil=>injection h|cons v1 r=>refine sR (UG (j3 h)) fun v2 v3 v4 z3=>?_;subst z3;exact⟨v1,v2,v3,v4,rfl⟩
theorem YV{l:List α}(h:l.length=5):∃v1 v2 v3 v4 v5,l=[v1,v2,v3,v4,v5]:=by cases l with|nil=>injection h|cons v1 r=>refine ux (UF (j3 h)) fun v2 v3 v4 v5 z4=>?_;subst z4;exact⟨v1,v2,v3,v4,v5,rfl⟩
theorem YU{l:List α}(h:l.length=6):∃v1 v2 v3 v4 v5 v6,l=[v1,v2,v3,v4,v5,v6]:=by cases l with|nil=>injection h|cons v1 r=>refine eu (YV (j3 h)) fun v2 v3 v4 v5 v6 z5=>?_;subst z5;exact⟨v1,v2,v3,v4,v5,v6,rfl⟩
theorem gC(h:∀v1,i8 fd ⟨[v1],[]⟩=pure [(x1,v1)]):rS fd [x1]:=fun vs e=>by refine aY (UH e) fun v1 z6=>?_;subst z6;exact h _
theorem jN(h:∀v1 v2,i8 fd ⟨[v1,v2],[]⟩=pure [(x1,v1),(x2,v2)]):rS fd [x1,x2]:=fun vs e=>by refine g7 (Pz e) fun v1 v2 z7=>?_;subst z7;exact h _ _
theorem rM(h:∀v1 v2 v3,i8 fd ⟨[v1,v2,v3],[]⟩=pure [(x1,v1),(x2,v2),(x3,v3)]):rS fd [x1,x2,x3]:=fun vs e=>by refine sR (UG e) fun v1 v2 v3 z8=>?_;subst z8;exact h _ _ _
theorem N4(h:∀v1 v2 v3 v4,i8 fd ⟨[v1,v2,v3,v4],[]⟩=pure [(x1,v1),(x2,v2),(x3,v3),(x4,v4)]):rS fd [x1,x2,x3,x4]:=fun vs e=>by refine ux (UF e) fun v1 v2 v3 v4 z9=>?_;subst z9;exact h _ _ _ _
theorem Vm(h:∀v1 v2 v3 v4 v5 v6,i8 fd ⟨[v1,v2,v3,v4,v5,v6],[]⟩=pure [(x1,v1),(x2,v2),(x3,v3),(x4,v4),(x5,v5),(x6,v6)]):rS fd [x1,x2,x3,x4,x5,x6]:=fun vs e=>by refine Hm (YU e) fun v1 v2 v3 v4 v5 v6 z11=>?_;subst z11;exact h _ _ _ _ _ _
theorem ID(h:i<n):n-i=n-(i+1)+1:=by exact Tx h
theorem kM{l:List α}(h:l[i]?=ac d):i<l.length:=(cq.mp h).1
theorem n7(hlen:ds.length=ps.length)(hY:Y0=ps.zip ds++rest.map fun x=>(x,DV.any)):Y0.map (·.1)=ps++rest:=by subst hY;rw[aA,jQ (bv hlen.symm),bS];congr 1;exact lP _
theorem Dn(O:B.Ok G)(hf:ff=ai->B.hd=ak)(g:dN G)(hg:pU G gs)(c:Nu fd ps rest gs)(e:B.env.scope=fd.scope):Wk G B gs ff:=⟨O,hf,g,hg,by unfold Env.kindOf;rw[e];exact c.gk⟩
section
variable {hH : Bool} {k : Nat} {f : aW} {ps rest : List aV} (g : dN G)
  (ho : (hdP.heap_1 G.w.params).lookup f = ac o) (hdata : o.data = .func fd) (hb : fd.body = .stmts body) (hcd : nW (hdP.heap_1 G.w.params) fd.code fd.qualname = ai) (hnc : I2 fd = ai)
  (hlen : ds.length = ps.length) (hbi : rS fd ps) (hY : Y0 = ps.zip ds ++ rest.map fun x => (x, DV.any)) (hg : pU G gs) (chk : rA fd ps rest gs = ai)
include g ho hdata hb hcd hnc hlen hbi hY hg chk
theorem MW(sp)(H:∀B Q,Wk G B gs (!hH)->B.k=k->B.hd=hH->B.m0=Z0.map (·.1)->(∀fl Y Z,km Z0 R fl Y Z->Q fl Y Z)->(wI G B (fun zz zz=>False) gs (!hH) sp 100).exs body Y0 Z0 (tM Q)):gj G hH (k+1) (.ref f) ds Z0 R (fun zz zz zz zz zz=>False):=by have c:=Ae chk;subst hY;refine Ff g.ok ho hdata hb c.co c.gen c.kind (l7 hnc) c.glo c.bui hcd (wF hlen hbi ((bC.mp c.nd).1) c.loc) (n7 hlen rfl) c.nd fun B O hk hh henv hm=>?_;have W:Wk G B gs (!hH):=Dn O (fun h=>by rw[hh];simpa using h) g hg c (by rw[henv];rfl);exact sd W sp (H B _ W hk hh hm fun zz zz zz h=>h)
theorem eA(H:∀B Q,Wk G B gs (!hH)->B.k=k->B.hd=hH->B.m0=Z0.map (·.1)->(∀fl Y Z,km Z0 R fl Y Z->Q fl Y Z)->(wI G B (fun zz zz=>False) gs (!hH) [] 100).exs body Y0 Z0 (tM Q)):gj G hH (k+1) (.ref f) ds Z0 R (fun zz zz zz zz zz=>False):=MW g ho hdata hb hcd hnc hlen hbi hY hg chk [] H
theorem Fd(H:∀B Q,Wk G B gs (!hH)->B.k=k->B.hd=hH->B.m0=Z0.map (·.1)->B.env=nN fd B.L f->(∀fl Y Z,km Z0 R fl Y Z->Q fl Y Z)->(wI G B (fun zz zz=>False) gs (!hH) [] 100).exs body Y0 Z0 (tM Q)):gj G hH (k+1) (.ref f) ds Z0 R (fun zz zz zz zz zz=>False):=by have c:=Ae chk;subst hY;refine Ff g.ok ho hdata hb c.co c.gen c.kind (l7 hnc) c.glo c.bui hcd (wF hlen hbi ((bC.mp c.nd).1) c.loc) (n7 hlen rfl) c.nd fun B O hk hh henv hm=>?_;have W:Wk G B gs (!hH):=Dn O (fun h=>by rw[hh];simpa using h) g hg c (by rw[henv];rfl);exact uI W (H B _ W hk hh hm henv fun zz zz zz h=>h)
theorem Cb(sp)(H:∀B E Q,Wk G B gs ai->qg B->B.k=k->B.hd=ak->B.m0=Z0.map (·.1)->(∀e s,¬ok/\EF G B Z0 e s->E e s)->(∀fl Y Z,km Z0 (fun d Z'=>ok/\R d Z') fl Y Z->Q fl Y Z)->(wI G B E gs ai sp 100).exs body Y0 Z0 (tM Q)):jg G (k+1) (.ref f) ds Z0 R ok:=by have c:=Ae chk;subst hY;refine JW g.ok ho hdata hb c.co c.gen c.kind (l7 hnc) c.glo c.bui hcd (wF hlen hbi ((bC.mp c.nd).1) c.loc) (n7 hlen rfl) c.nd fun B O w hk hh henv hm=>?_;have W:Wk G B gs ai:=Dn O (fun h=>hh) g hg c (by rw[henv];rfl);exact sd W sp (H B _ _ W w hk hh hm (fun zz zz h=>h) fun zz zz zz h=>h)
theorem JX(H:∀B E Q,Wk G B gs ai->qg B->B.k=k->B.hd=ak->B.m0=Z0.map (·.1)->B.env=nN fd B.L f->(∀e s,¬ok/\EF G B Z0 e s->E e s)->(∀fl Y Z,km Z0 (fun d Z'=>ok/\R d Z') fl Y Z->Q fl Y Z)->(wI G B E gs ai [] 100).exs body Y0 Z0 (tM Q)):jg G (k+1) (.ref f) ds Z0 R ok:=by have c:=Ae chk;subst hY;refine JW g.ok ho hdata hb c.co c.gen c.kind (l7 hnc) c.glo c.bui hcd (wF hlen hbi ((bC.mp c.nd).1) c.loc) (n7 hlen rfl) c.nd fun B O w hk hh henv hm=>?_;have W:Wk G B gs ai:=Dn O (fun h=>hh) g hg c (by rw[henv];rfl);exact uI W (H B _ _ W w hk hh hm henv (fun zz zz h=>h) fun zz zz zz h=>h)
theorem kh(H:∀B E Q,Wk G B gs ai->qg B->B.k=k->B.hd=ak->B.m0=Z0.map (·.1)->(∀e s,¬ok/\EF G B Z0 e s->E e s)->(∀fl Y Z,km Z0 (fun d Z'=>ok/\R d Z') fl Y Z->Q fl Y Z)->(wI G B E gs ai [] 100).exs body Y0 Z0 (tM Q)):jg G (k+1) (.ref f) ds Z0 R ok:=Cb g ho hdata hb hcd hnc hlen hbi hY hg chk [] H
theorem JY(sp){R:DV->Mu->Mu->Prop}(H:∀B Q,Wk G B gs (!hH)->B.k=k->B.hd=hH->B.m0=Z0.map (·.1)->(∀fl Y Z,Rb Z0 R fl Y Z->Q fl Y Z)->(wI G B (fun zz zz=>False) gs (!hH) sp 100).exs body Y0 Z0 (tM Q)):qf G hH (k+1) (.ref f) ds Z0 R:=by have c:=Ae chk;subst hY;refine J0 g.ok ho hdata hb c.co c.gen c.kind (l7 hnc) c.glo c.bui hcd (wF hlen hbi ((bC.mp c.nd).1) c.loc) (n7 hlen rfl) c.nd fun B O hk hh henv hm=>?_;have W:Wk G B gs (!hH):=Dn O (fun h=>by rw[hh];simpa using h) g hg c (by rw[henv];rfl);exact sd W sp (H B _ W hk hh hm fun zz zz zz h=>h)
theorem MX{R:DV->Mu->Mu->Prop}(H:∀B Q,Wk G B gs (!hH)->B.k=k->B.hd=hH->B.m0=Z0.map (·.1)->(∀fl Y Z,Rb Z0 R fl Y Z->Q fl Y Z)->(wI G B (fun zz zz=>False) gs (!hH) [] 100).exs body Y0 Z0 (tM Q)):qf G hH (k+1) (.ref f) ds Z0 R:=JY g ho hdata hb hcd hnc hlen hbi hY hg chk [] H
end
structure El (fd:w8) (ps:List aV) (ds:List DV) (Y0:aP) (Yc:List DV):Prop where
 clo:fd.closure=[]
 kind:∀n,∀x∈ps,fd.scope.names.lookup x=ac .local\/(fd.scope.names.lookup x=ac .cell/\((cQ n fd.scope.names []).lookup x).isSome=ai)
 rho:∀p∈Y0,fd.scope.names.lookup p.1=ac .local/\(p.2≠.any->p∈ps.zip ds)
 cells:∀n,∀p∈pW (cQ n fd.scope.names []) Yc,fd.scope.names.lookup p.1.1=ac .cell/\(cQ n fd.scope.names []).lookup p.1.1=ac p.1.2/\(p.2≠.any->(p.1.1,p.2)∈ps.zip ds)
 nd:(Y0.map (·.1)).Nodup
theorem Cc(sp){ps:List aV}{Y0:aP}{Yc:List DV}{Z1:aW->Mu}(g:dN G)(ho:(hdP.heap_1 G.w.params).lookup f=ac o)(hdata:o.data=.func fd)(hb:fd.body=.stmts body)(hcd:nW (hdP.heap_1 G.w.params) fd.code fd.qualname=ai)(hlen:ds.length=ps.length)(hbi:rS fd ps)(hg:pU G gs)(chk:rA fd ps [] gs=ai\/rA fd [] [] gs=ai)(ndp:ps.Nodup)(C:El fd ps ds Y0 Yc)(hZ:∀L,ju fd.scope.names L Yc++Z0=Z1 L)(H:∀B Q,Wk G B gs (!hH)->B.k=k->B.hd=hH->B.m0=Z0.map (·.1)->B.env=fe fd B.L f->(∀fl Y Z,km Z0 R fl Y Z->Q fl Y Z)->(wI G B (fun zz zz=>False) gs (!hH) sp 100).exs body Y0 (Z1 B.L) (tM Q)):gj G hH (k+1) (.ref f) ds Z0 R (fun zz zz zz zz zz=>False):=by
 obtain⟨ps',c⟩:∃ps',Nu fd ps' [] gs:=chk.elim (fun h=>⟨_,Ae h⟩) fun h=>⟨_,Ae h⟩
 refine QN g.ok ho hdata hb c.co c.gen c.kind C.clo c.glo c.bui hcd hlen hbi ndp C.kind C.rho C.cells C.nd fun B O hk hh henv hm=>?_;have W:Wk G B gs (!hH):=Dn O (fun h=>by rw[hh];simpa using h) g hg c (by rw[henv];rfl);rw[hZ];exact sd W sp (H B _ W hk hh hm henv fun zz zz zz h=>h)
theorem iY{ps:List aV}{Y0:aP}{Yc:List DV}{Z1:aW->Mu}(g:dN G)(ho:(hdP.heap_1 G.w.params).lookup f=ac o)(hdata:o.data=.func fd)(hb:fd.body=.stmts body)(hcd:nW (hdP.heap_1 G.w.params) fd.code fd.qualname=ai)(hlen:ds.length=ps.length)(hbi:rS fd ps)(hg:pU G gs)(chk:rA fd ps [] gs=ai\/rA fd [] [] gs=ai)(ndp:ps.Nodup)(C:El fd ps ds Y0 Yc)(hZ:∀L,ju fd.scope.names L Yc++Z0=Z1 L)(H:∀B Q,Wk G B gs (!hH)->B.k=k->B.hd=hH->B.m0=Z0.map (·.1)->B.env=fe fd B.L f->(∀fl Y Z,km Z0 R fl Y Z->Q fl Y Z)->(wI G B (fun zz zz=>False) gs (!hH) [] 100).exs body Y0 (Z1 B.L) (tM Q)):gj G hH (k+1) (.ref f) ds Z0 R (fun zz zz zz zz zz=>False):=Cc [] g ho hdata hb hcd hlen hbi hg chk ndp C hZ H
theorem JZ{ps:List aV}{Y0:aP}{Yc:List DV}{Z1:aW->Mu}(g:dN G)(ho:(hdP.heap_1 G.w.params).lookup f=ac o)(hdata:o.data=.func fd)(hb:fd.body=.stmts body)(hcd:nW (hdP.heap_1 G.w.params) fd.code fd.qualname=ai)(hlen:ds.length=ps.length)(hbi:rS fd ps)(hg:pU G gs)(chk:rA fd ps [] gs=ai\/rA fd [] [] gs=ai)(ndp:ps.Nodup)(C:El fd ps ds Y0 Yc)(hZ:∀L,ju fd.scope.names L Yc++Z0=Z1 L)(H:∀B E Q,Wk G B gs ai->qg B->B.k=k->B.hd=ak->B.m0=Z0.map (·.1)->B.env=fe fd B.L f->(∀e s,¬ok/\EF G B Z0 e s->E e s)->(∀fl Y Z,km Z0 (fun d Z'=>ok/\R d Z') fl Y Z->Q fl Y Z)->(wI G B E gs ai [] 100).exs body Y0 (Z1 B.L) (tM Q)):jg G (k+1) (.ref f) ds Z0 R ok:=by
 obtain⟨ps',c⟩:∃ps',Nu fd ps' [] gs:=chk.elim (fun h=>⟨_,Ae h⟩) fun h=>⟨_,Ae h⟩
 refine MY g.ok ho hdata hb c.co c.gen c.kind C.clo c.glo c.bui hcd hlen hbi ndp C.kind C.rho C.cells C.nd fun B O w hk hh henv hm=>?_;have W:Wk G B gs ai:=Dn O (fun h=>hh) g hg c (by rw[henv];rfl);rw[hZ];exact uI W (H B _ _ W w hk hh hm henv (fun zz zz h=>h) fun zz zz zz h=>h)
section
variable {ff : Bool}
def Q9(P:aP->Mu->Prop)(R:Fl->aP->Mu->Prop):Fl->aP->Mu->Prop:=fun fl Y Z=>match fl with|.next=>At (P Y Z)|.cont=>At (P Y Z)|.brk=>At (R .brk Y Z)|.ret d=>At (R (.ret d) Y Z)
def WhQ(r:Wx)(body:List jW)(P:aP->Mu->Prop)(R:Fl->aP->Mu->Prop):Bool->aP->Mu->Prop:=fun c Y Z=>Fw c (r.exs body Y Z (Q9 P R)) (At (R .brk Y Z))
theorem yS{σ τ:Type}{ρf:σ->aP}{Zf:σ->Mu}{Yj:τ->aP}{Zj:τ->Mu}{Q:Fl->aP->Mu->Prop}(W:Wk G B gs ff)(I:Nat->σ->Prop)(J:τ->Prop)(n s)(h0:I n s)(step:∀P R n s,I n s->(∀m s',m<n->I m s'->P (ρf s') (Zf s'))->(∀s,J s->R .brk (Yj s) (Zj s))->(∀d Y Z,Q (.ret d) Y Z->R (.ret d) Y Z)->(wI G B (fun zz zz=>False) gs ff [] 100).eb test (ρf s) (Zf s) (WhQ (wI G B (fun zz zz=>False) gs ff [] 100) body P R))(fin:∀s,J s->Q .next (Yj s) (Zj s)):EX G B E (fc (.While test body [] pos) B.env) (ρf s) (Zf s) Q:=by
 refine Hf W.O (fun n Y Z=>∃s,I n s/\Y=ρf s/\Z=Zf s) (fun Y Z=>∃s,J s/\Y=Yj s/\Z=Zj s) n (cB s h0 rfl rfl) ?_ fun zz zz z12=>bp z12 fun s h e1 e2=>by subst e1;subst e2;exact fin s h
 intro n Y2 Z2 ⟨s,hI,e1,e2⟩;subst e1;subst e2;have z:=step (fun Y Z=>∃m,m<n/\∃s,I m s/\Y=ρf s/\Z=Zf s) (fun fl Y Z=>match fl with|.brk=>∃s,J s/\Y=Yj s/\Z=Zj s|fl=>Q fl Y Z) n s hI (fun m s' h i=>⟨m,h,s',i,rfl,rfl⟩) (fun s h=>(cB s h rfl rfl)) fun zz zz zz h=>h;refine((W.ok _).eb z).mono fun c Y3 Z3 h=>?_;refine(m6 h).imp (fun a e=>((W.ok _).exs (a e)).mono fun fl Y4 Z4 q=>?_) fun a e=>(a e).get;cases fl<;>exact At.get q
theorem Im{σ τ:Type}{ρf:σ->aP}{Zf:σ->Mu}{Yj:τ->aP}{Zj:τ->Mu}{Q:Fl->aP->Mu->Prop}(W:Wk G B gs ff)(w:qg B)(hE:∀e s,¬ok/\EF G B Z0 e s->E e s)(I:Nat->σ->Prop)(J:τ->Prop)(n s)(h0:I n s)(step:∀P R E' n s,I n s->(∀m s',m<n->I m s'->P (ρf s') (Zf s'))->(∀s,J s->R .brk (Yj s) (Zj s))->(∀d Y Z,Q (.ret d) Y Z->R (.ret d) Y Z)->(∀e s,¬ok/\XF G B.A B.V0 Z0 B.s0 B.L .none e s->E' e s)->(wI G B (fun zz zz=>False) gs ff [] 100).eb test (ρf s) (Zf s) (WhQ (wI G B E' gs ff [] 100) body P R))(fin:∀s,J s->Q .next (Yj s) (Zj s)):EX G B E (fc (.While test body [] pos) B.env) (ρf s) (Zf s) Q:=by refine WP.exc (DQ (ok:=ok) (Z0:=Z0) W.O w (fun n Y Z=>∃s,I n s/\Y=ρf s/\Z=Zf s) (fun Y Z=>∃s,J s/\Y=Yj s/\Z=Zj s) n (cB s h0 rfl rfl) ?_ fun zz zz z13=>bp z13 fun s h e1 e2=>by subst e1;subst e2;exact fin s h) hE;intro n Y2 Z2 ⟨s,hI,e1,e2⟩;subst e1;subst e2;have z:=step (fun Y Z=>∃m,m<n/\∃s,I m s/\Y=ρf s/\Z=Zf s) (fun fl Y Z=>match fl with|.brk=>∃s,J s/\Y=Yj s/\Z=Zj s|fl=>Q fl Y Z) _ n s hI (fun m s' h i=>⟨m,h,s',i,rfl,rfl⟩) (fun s h=>(cB s h rfl rfl)) (fun zz zz zz h=>h) fun zz zz h=>h;refine((W.ok _).eb z).mono fun c Y3 Z3 h=>?_;refine(m6 h).imp (fun a e=>((W.ok _).exs (a e)).mono fun fl Y4 Z4 q=>?_) fun a e=>(a e).get;cases fl<;>exact At.get q
def xc(x:aV)(d:DV)(Y:aP)(Q:aP->Prop):Prop:=match oy Y x d with|some Y'=>Q Y'|none=>False
theorem OH(O:B.Ok G){Q:aP->Mu->Prop}(h:xc x d Y fun Y'=>Q Y' Z):AS G B E (.Name x px) d Y Z Q:=by unfold xc at h;cases e:oy Y x d with|none=>rw[e] at h;exact h.elim|some Y'=>rw[e] at h;exact AA O (cH e) h
theorem WP.dropped{Q Q':β->aP->Mu->Prop}(h:WP G B E rel t Y Z Q')(k:∀d Y Z,Q' d Y Z->∃ex Z',Z=ex++Z'/\Q d Y Z'):WP G B E rel t Y Z Q:=by intro V s S;refine aQ (h V s S) (fun v s' o=>?_) fun zz zz x=>x;refine iK o ?_;clear o;intro d Y' Z' V' S' k' i' q;refine cY (k _ _ _ q) fun ex μ2 e q2=>?_;subst e;exact⟨d,Y',μ2,V',S'.dropAll,k',i',q2⟩
theorem Ex(sp){σ τ:Type}{ρf:σ->aP}{Zf:σ->Mu}{Yj:τ->aP}{Zj:τ->Mu}{Q:Fl->aP->Mu->Prop}(W:Wk G B gs ff)(hit:qK G B E d ds Y Z Z')(I:Nat->σ->Prop)(J:τ->Prop)(s)(h0:I 0 s)(e1:Y=ρf s)(e2:Z'=Zf s)(step:∀B' P R(i:Nat)d s,ds[i]?=ac d->I i s->Wk G B' gs ff->(qg B->qg B')->B'.env=B.env->B'.k=B.k->B'.hd=B.hd->B'.m0=(Zf s).map (·.1)->(∀ex s',I (i+1) s'->P (ρf s') (ex++Zf s'))->(∀s,J s->R .brk (Yj s) (Zj s))->(∀d Y Z,Q (.ret d) Y Z->R (.ret d) Y Z)->xc x d (ρf s) fun Y'=>(wI G B' (fun zz zz=>False) gs ff sp 100).exs body Y' (Zf s) (Q9 P R))(hend:∀s,I ds.length s->∃t,J t/\Yj t=ρf s/\Zj t=Zf s)(fin:∀s,J s->Q .next (Yj s) (Zj s)):Ej G B E x px body Q d Y Z:=by
 subst e1;subst e2;refine⟨ds,_,hit,fun i Y Z=>∃s,I i s/\Y=ρf s/\Z=Zf s,(cB s h0 rfl rfl),?_,fun Y2 Z2 z14=>bp z14 fun s h e1 e2=>?_⟩
 .intro i d hd Y2 Z2 ⟨s,hI,e1,e2⟩ B' O' w he hk hh hm
  subst e1;subst e2;have W':Wk G B' gs ff:=⟨O',fun h=>hh.trans (W.hf h),W.g,W.hg,he▸W.hk⟩
  have z:=step B' (fun Y Z=>∃ex s,I (i+1) s/\Y=ρf s/\Z=ex++Zf s) (fun fl Y Z=>match fl with|.brk=>∃s,J s/\Y=Yj s/\Z=Zj s|fl=>Q fl Y Z) i d s hd hI W' w he hk hh hm (fun ex s' h=>(bO ex s' h rfl rfl)) (fun s h=>(cB s h rfl rfl)) fun zz zz zz h=>h;refine OH O' (Q:=fun Y3 Z3=>_) ?_;unfold xc at z ⊢;cases e:oy (ρf s) x d with|none=>rw[e] at z;exact z|some Y'=>
   rw[e] at z;refine((W'.ok _).exs z).dropped fun fl Y4 Z4 q=>?_;cases fl with
   |next=>refine aM (At.get q) fun ex s h e1 e2=>?_;exact⟨ex,_,e2,s,h,e1,rfl⟩
   |cont=>refine aM (At.get q) fun ex s h e1 e2=>?_;exact⟨ex,_,e2,s,h,e1,rfl⟩
   |brk=>refine bp (At.get q) fun s h e1 e2=>?_;subst e1;subst e2;exact jP [] _ rfl (fin s h)
   |ret d=>exact jP [] _ rfl (At.get q)
 .subst e1;subst e2
  refine bp (hend s h) fun t ht e1 e2=>?_;rw[<-e1,<-e2];exact fin t ht
theorem OA(sp){σ τ:Type}{ρf:σ->aP}{Zf:σ->Mu}{Yj:τ->aP}{Zj:τ->Mu}{Q:Fl->aP->Mu->Prop}(W:Wk G B gs ff)(hit:qK G B E d ds Y Z Z')(I:Nat->σ->Prop)(J:τ->Prop)(s)(h0:I 0 s)(e1:Y=ρf s)(e2:Z'=Zf s)(step:∀B' P R(i:Nat)d s,ds[i]?=ac d->I i s->Wk G B' gs ff->(qg B->qg B')->B'.k=B.k->B'.hd=B.hd->B'.m0=(Zf s).map (·.1)->(∀ex s',I (i+1) s'->P (ρf s') (ex++Zf s'))->(∀s,J s->R .brk (Yj s) (Zj s))->(∀d Y Z,Q (.ret d) Y Z->R (.ret d) Y Z)->xc x d (ρf s) fun Y'=>(wI G B' (fun zz zz=>False) gs ff sp 100).exs body Y' (Zf s) (Q9 P R))(hend:∀s,I ds.length s->∃t,J t/\Yj t=ρf s/\Zj t=Zf s)(fin:∀s,J s->Q .next (Yj s) (Zj s)):Ej G B E x px body Q d Y Z:=Ex sp W hit I J s h0 e1 e2 (fun B' P R i d s hd hI W' w zz=>step B' P R i d s hd hI W' w) hend fin
theorem Io(sp){σ:Type}{ρf:σ->aP}{Zf:σ->Mu}{Q:Fl->aP->Mu->Prop}(W:Wk G B gs ff)(hit:qK G B E d ds Y Z Z')(I:Nat->σ->Prop)(s)(h0:I 0 s)(e1:Y=ρf s)(e2:Z'=Zf s)(step:∀B' P R(i:Nat)d s,ds[i]?=ac d->I i s->Wk G B' gs ff->(qg B->qg B')->B'.k=B.k->B'.hd=B.hd->B'.m0=(Zf s).map (·.1)->(∀ex s',I (i+1) s'->P (ρf s') (ex++Zf s'))->(∀d Y Z,Q (.ret d) Y Z->R (.ret d) Y Z)->xc x d (ρf s) fun Y'=>(wI G B' (fun zz zz=>False) gs ff sp 100).exs body Y' (Zf s) (Q9 P R))(fin:∀s,I ds.length s->Q .next (ρf s) (Zf s)):Ej G B E x px body Q d Y Z:=OA sp (τ:=σ) (Yj:=ρf) (Zj:=Zf) W hit I (fun s=>I ds.length s) s h0 e1 e2 (fun B' P R i d s hd hI W' w hk hh hm hP zz hR=>step B' P R i d s hd hI W' w hk hh hm hP hR) (fun s h=>(cB s h rfl rfl)) fin
theorem nj{σ:Type}{ρf:σ->aP}{Zf:σ->Mu}{Q:Fl->aP->Mu->Prop}(W:Wk G B gs ff)(hit:qK G B E d ds Y Z Z')(I:Nat->σ->Prop)(s)(h0:I 0 s)(e1:Y=ρf s)(e2:Z'=Zf s)(step:∀B' P R(i:Nat)d s,ds[i]?=ac d->I i s->Wk G B' gs ff->(qg B->qg B')->B'.k=B.k->B'.hd=B.hd->B'.m0=(Zf s).map (·.1)->(∀s',I (i+1) s'->P (ρf s') (Zf s'))->(∀d Y Z,Q (.ret d) Y Z->R (.ret d) Y Z)->xc x d (ρf s) fun Y'=>(wI G B' (fun zz zz=>False) gs ff [] 100).exs body Y' (Zf s) (Q9 P R))(fin:∀s,I ds.length s->Q .next (ρf s) (Zf s)):Ej G B E x px body Q d Y Z:=Io [] W hit I s h0 e1 e2 (fun B' P R i d s hd hI W' w hk hh hm hP hR=>step B' P R i d s hd hI W' w hk hh hm (hP []) hR) fin
theorem Oz{σ:Type}{ρf:σ->aP}{Zf:σ->Mu}{Q:Fl->aP->Mu->Prop}(W:Wk G B gs ff)(hit:qK G B E d ds Y Z Z')(I:Nat->σ->Prop)(s)(h0:I 0 s)(e1:Y=ρf s)(e2:Z'=Zf s)(step:∀B' P R(i:Nat)d s,ds[i]?=ac d->I i s->Wk G B' gs ff->(qg B->qg B')->B'.env=B.env->B'.k=B.k->B'.hd=B.hd->B'.m0=(Zf s).map (·.1)->(∀s',I (i+1) s'->P (ρf s') (Zf s'))->(∀d Y Z,Q (.ret d) Y Z->R (.ret d) Y Z)->xc x d (ρf s) fun Y'=>(wI G B' (fun zz zz=>False) gs ff [] 100).exs body Y' (Zf s) (Q9 P R))(fin:∀s,I ds.length s->Q .next (ρf s) (Zf s)):Ej G B E x px body Q d Y Z:=Ex [] (τ:=σ) (Yj:=ρf) (Zj:=Zf) W hit I (fun s=>I ds.length s) s h0 e1 e2 (fun B' P R i d s hd hI W' w he hk hh hm hP zz hR=>step B' P R i d s hd hI W' w he hk hh hm (hP []) hR) (fun s h=>(cB s h rfl rfl)) fin
theorem oF{env:Ou}:∀{names:List (aV×NameKind)},names.lookup x=ac .globalImplicit->(names.map fun(n,k)=>if(k==wR&&env.scope.kind==.function&&env.kindOf n==ac .cell) then(n,NameKind.cell) else(n,k)).lookup x=ac .globalImplicit
 |(n,k)::r,h=>by
  rw[au];cases hx:x==n with|true=>simp only[d1,hx] at h;(injection h with h;subst h);show Ev x ((n,w5)::_)=_;rw[d1,hx]|false=>
   simp only[d1,hx] at h;have ih:=oF (env:=env) h;dsimp only;by_cases hc:(k==wR&&env.scope.kind==.function&&env.kindOf n==ac .cell)=ai;.rw[if_pos hc,d1,hx];exact ih
   .rw[if_neg hc,d1,hx];exact ih
theorem Fm(h:(gs.all fun p=>scope.names.lookup p.1==ac .globalImplicit)=ai):(gs.all fun p=>(gH scope cl C env).kindOf p.1==ac .globalImplicit)=ai:=by rw[aU] at h ⊢;intro p hp;have:=h p hp;rw[beq_iff_eq] at this ⊢;exact oF this
def VS(elt:bZ)(ifs:List bZ)(x:aV)(scope:Ro)(cl:List (aV×aW))(Q:DV->aP->Mu->Prop):DV->aP->Mu->Prop:=fun d Y Z=>At (CA G B E ifs elt x scope cl Q d Y Z)
theorem ij{cl:List (aV×aW)}(W:Wk G B gs ff)(F:m8 B scope cl)(hx:scope.names.lookup x=ac .local)(hs:qC iter=ak)(h:(wI G B E gs ff [] 100).ev iter Y Z (VS (B:=B) (E:=E) elt ifs x scope cl Q)):EV G B E (a9 (.ListComp elt [⟨.Name x px,iter,ifs,0⟩] scope pos) B.env) Y Z Q:=B9 W.O F hx (((W.ok _).ev h).mono fun zz zz zz h=>h.get) (zj hs _)
theorem pc{cl:List (aV×aW)}{Q:Fl->aP->Mu->Prop}(W:Wk G B gs ff)(F:m8 B scope cl)(hx:scope.names.lookup x=ac .local)(hs:qC iter=ak)(hsw:gO (.ListComp elt [⟨.Name x px,iter,ifs,0⟩] scope pos) (ac (.Name y py)) spos.line B.env=pure ai)(h:(wI G B E gs ff [] 100).ev iter Y Z (VS (B:=B) (E:=E) elt ifs x scope cl (Nn y Q))):EX G B E (fc (.Assign [.Name y py] (.ListComp elt [⟨.Name x px,iter,ifs,0⟩] scope pos) spos) B.env) Y Z Q:=by refine wi W.O F hx hsw (((W.ok _).ev h).mono fun d Y1 Z1 h=>?_) (zj hs _);refine qG h.get fun ds Z' hit hl I h0 st fin=>?_;refine⟨ds,Z',hit,hl,I,h0,st,fun out Z2 h=>?_⟩;have z:=fin out Z2 h;unfold Nn at z;cases e:oy Y1 y (.lst out) with|none=>rw[e] at z;exact z.get|some Y'=>rw[e] at z;exact Tm (cH e) z
def VF(out:List DV)(P:List DV->Mu->Prop):DV->aP->Mu->Prop:=fun d zz Z=>At (P (out++[d]) Z)
theorem fu{ds:List DV}(W:Wk G B gs ff)(hg:pU G gs')(hk:(gs'.all fun p=>scope.names.lookup p.1==ac .globalImplicit)=ai)(hit:qK G B E d ds Y Z Z')(hl:ds.length<=1000000)(I:Nat->List DV->Mu->Prop)(h0:I 0 [] Z')(step:∀B' P(i:Nat)d out Z2,ds[i]?=ac d->I i out Z2->Wk G B' gs' ff->B'.env=gH scope cl B'.L B.env->B'.k=B.k->B'.hd=B.hd->B'.m0=Z2.map (·.1)->(∀out Z,I (i+1) out Z->P out Z)->(wI G B' (fun zz zz=>False) gs' ff [] 100).ev elt [(x,d)] Z2 (VF out P))(fin:∀out Z,I ds.length out Z->Q (.lst out) Y Z):CA G B E [] elt x scope cl Q d Y Z:=by
 refine⟨ds,Z',hit,hl,I,h0,fun i d hd out Z2 hI B' O' he hk' hh hm=>?_,fin⟩;have W':Wk G B' gs' ff:=⟨O',fun h=>hh.trans (W.hf h),W.g,hg,by rw[he];exact Fm hk⟩
 unfold HH;refine F6 ?_;rw[if_pos rfl];exact((W'.ok _).ev (step B' _ i d out Z2 hd hI W' he hk' hh hm fun zz zz h=>h)).mono fun zz zz zz h=>h.get
def Zs(r:Wx)(elt:bZ)(out:List DV)(P:List DV->Mu->Prop):Bool->aP->Mu->Prop:=fun b Y Z=>Fw b (r.ev elt Y Z (VF out P)) (At (P out Z))
theorem yU(W:Wk G B gs ff)(hg:pU G gs')(hk:(gs'.all fun p=>scope.names.lookup p.1==ac .globalImplicit)=ai)(hit:qK G B E d ds Y Z Z')(hl:ds.length<=1000000)(I:Nat->List DV->Mu->Prop)(h0:I 0 [] Z')(step:∀B' P(i:Nat)d out Z2,ds[i]?=ac d->I i out Z2->Wk G B' gs' ff->B'.env=gH scope cl B'.L B.env->B'.k=B.k->B'.hd=B.hd->B'.m0=Z2.map (·.1)->(∀out Z,I (i+1) out Z->P out Z)->(wI G B' (fun zz zz=>False) gs' ff [] 100).eb test [(x,d)] Z2 (Zs (wI G B' (fun zz zz=>False) gs' ff [] 100) elt out P))(fin:∀out Z,I ds.length out Z->Q (.lst out) Y Z):CA G B E [test] elt x scope cl Q d Y Z:=by
 refine⟨ds,Z',hit,hl,I,h0,fun i d hd out Z2 hI B' O' he hk' hh hm=>?_,fin⟩;have W':Wk G B' gs' ff:=⟨O',fun h=>hh.trans (W.hf h),W.g,hg,by rw[he];exact Fm hk⟩
 unfold HH;refine F5 (((W'.ok _).eb (step B' _ i d out Z2 hd hI W' he hk' hh hm fun zz zz h=>h)).mono fun b Y1 Z1 h=>?_);cases b with
 |true=>rw[if_pos rfl];exact((W'.ok _).ev h).mono fun zz zz zz h=>h.get
 |false=>rw[if_neg (by decide)];exact At.get h
end
section
variable {ff : Bool}
theorem j5{P:α×β->Prop}(h:∀a b,P (a,b)):∀s,P s:=fun s=>h s.1 s.2
theorem to{P:α×β×γ->Prop}(h:∀a b c,P (a,b,c)):∀s,P s:=fun s=>h s.1 s.2.1 s.2.2
theorem Bq{P:α×β×γ×δ->Prop}(h:∀a b c d,P (a,b,c,d)):∀s,P s:=fun s=>h s.1 s.2.1 s.2.2.1 s.2.2.2
theorem NM{P:α1×α2×α3×α4×α5×α6×α7->Prop}(h:∀x1 x2 x3 x4 x5 x6 x7,P (x1,x2,x3,x4,x5,x6,x7)):∀s,P s:=fun s=>h s.1 s.2.1 s.2.2.1 s.2.2.2.1 s.2.2.2.2.1 s.2.2.2.2.2.1 s.2.2.2.2.2.2
theorem NL{P:α1×α2×α3×α4×α5×α6×α7×α8->Prop}(h:∀x1 x2 x3 x4 x5 x6 x7 x8,P (x1,x2,x3,x4,x5,x6,x7,x8)):∀s,P s:=fun s=>h s.1 s.2.1 s.2.2.1 s.2.2.2.1 s.2.2.2.2.1 s.2.2.2.2.2.1 s.2.2.2.2.2.2.1 s.2.2.2.2.2.2.2
theorem Nf{P R:Prop}(h:R)(h':b=ai->R->P):Fw b P R:=by cases b with|true=>exact h' rfl h|false=>exact h
theorem mw{c:Bool}{r:Wx}{Q:Fl->aP->Mu->Prop}(m:β->Mu)(a b)(rest:∀z,z=(bif c then b else a)->Q .next Y (m z))(ht:∀Q',c=ai->Q' .next Y (m b)->r.exs ss Y (m a) Q'):Fw c (r.exs ss Y (m a) Q) (Q .next Y (m a)):=by cases c with|true=>exact ht Q rfl (rest b rfl)|false=>exact rest a rfl
noncomputable def O7:DV->Option aV|.str x=>ac x|_=>aq
noncomputable def UO:DV->Option Int|.int i=>ac i|_=>aq
theorem EG(h:O7 d=ac k):d=DK.key k:=by cases d<;>first|(cases h;done)|((injection h with h;subst h);rfl)
theorem Mo{k:Int}(h:UO d=ac k):d=DK.key k:=by cases d<;>first|(cases h;done)|((injection h with h;subst h);rfl)
def ZL{K:Type}(key:K)(x:DV)(Q:List (K×DV)->aP->Mu->Prop):List (K×DV)->aP->Mu->Prop:=fun l Y Z=>Q ((key,x)::l) Y Z
noncomputable def U6{K:Type}(ok:DV->Option K)(r:Wx):List (Option bZ)->List bZ->aP->Mu->(List (K×DV)->aP->Mu->Prop)->Prop
 |[],[],Y,Z,Q=>Q [] Y Z|some k::ks,v::vs,Y,Z,Q=>r.ev k Y Z fun d Y Z=>match ok d with
  |some key=>r.ev v Y Z fun x Y Z=>U6 ok r ks vs Y Z (ZL key x Q)
  |none=>False
 |_,_,_,_,_=>False
theorem Ap{K:Type}[DecidableEq K][DK K]{ok:DV->Option K}(hok:∀{d k},ok d=ac k->d=DK.key k)(R:r.Ok G B E):∀{ks:List (Option bZ)}{vs:List bZ}{Y:aP}{Z:Mu}{Q:List (K×DV)->aP->Mu->Prop},U6 ok r ks vs Y Z Q->EP K G B E (s9 (s8 ks vs B.env pos)) Y Z Q|[],[],_,_,_,h=>QL h|some k::ks,v::vs,_,_,_,h=>MV ((R.ev h).mono fun d zz zz h=>by cases e:ok d with|none=>rw[e] at h;exact h.elim|some key=>rw[e] at h;exact(bq key (hok e) ((R.ev h).mono fun zz zz zz h=>Ap hok R h)))|none::_,_,_,_,_,h=>h.elim|some _::_,[],_,_,_,h=>h.elim|[],_::_,_,_,_,h=>h.elim
def FrK{K:Type}[DecidableEq K][DK K](a:aW)(Q:DV->aP->Mu->Prop):List (K×DV)->aP->Mu->Prop:=fun l Y Z=>∃Z',(l.map (·.1)).Nodup/\N8 a (DK.mo ([]:List (K×DV))) Z Z'/\Q (DK.dv l) Y Z'
def MuK{K:Type}[DecidableEq K][DK K](a:aW)(Q:DV->aP->Mu->Prop):List (K×DV)->aP->Mu->Prop:=fun l Y Z=>∃Z',(l.map (·.1)).Nodup/\fF a (DK.mo ([]:List (K×DV))) (DK.mo l) Z Z'/\Q (.ptr a) Y Z'
theorem jH(W:Wk G B gs ff)(hall:keys.all (·.isSome)=ai)(hl:keys.length=values.length)(h0:keys≠[])(hlen:keys.length<=15)(h:∀a,U6 O7 (wI G B E gs ff [] 100) keys values Y ((a,.sdic [])::Z) (tM (FrK (K:=aV) a Q))):EV G B E (a9 (.Dict keys values pos) B.env) Y Z Q:=Hl (K:=aV) W.O (fun a=>(Ap EG (W.ok _) (h a)).mono fun zz zz zz h=>h.get) hall hl h0 hlen
theorem A2(W:Wk G B gs ff)(hall:keys.all (·.isSome)=ai)(hl:keys.length=values.length)(h0:keys≠[])(hlen:keys.length<=15)(h:∀a,U6 O7 (wI G B E gs ff [] 100) keys values Y ((a,.sdic [])::Z) (tM (MuK (K:=aV) a Q))):EV G B E (a9 (.Dict keys values pos) B.env) Y Z Q:=yv (K:=aV) W.O (fun a=>(Ap EG (W.ok _) (h a)).mono fun zz zz zz h=>h.get) hall hl h0 hlen
theorem FY(W:Wk G B gs ff)(hall:keys.all (·.isSome)=ai)(hl:keys.length=values.length)(h0:keys≠[])(hlen:keys.length<=15)(h:∀a,U6 UO (wI G B E gs ff [] 100) keys values Y ((a,.idic [])::Z) (tM (MuK (K:=Int) a Q))):EV G B E (a9 (.Dict keys values pos) B.env) Y Z Q:=yv (K:=Int) W.O (fun a=>(Ap Mo (W.ok _) (h a)).mono fun zz zz zz h=>h.get) hall hl h0 hlen
theorem xu(W:Wk G B gs ff)(h:yY d=ac t)(hr:bw t=r)(q:Q (.bool r) Y Z):cI G B E (.builtin "isinstance") [d,.raw (.ref 254)] Y Z Q:=oK W.g W.O h hr q
theorem uu(W:Wk G B gs ff)(h:yY d=ac t)(hr:dp t=r)(q:Q (.bool r) Y Z):cI G B E (.builtin "isinstance") [d,.raw (.type "dict")] Y Z Q:=sH W.g W.O h hr q
theorem EZ(W:Wk G B gs ff)(h:yY d=ac t)(hr:fX t=r)(q:Q (.bool r) Y Z):cI G B E (.builtin "isinstance") [d,.raw (.type "list")] Y Z Q:=yi W.g W.O h hr q
theorem Dz(W:Wk G B gs ff)(h:yY d=ac t)(hr:gw t=r)(q:Q (.bool r) Y Z):cI G B E (.builtin "isinstance") [d,.raw (.type "int")] Y Z Q:=BO W.g W.O h hr q
theorem zS(W:Wk G B gs ff)(h:yY d=ac t)(hr:eT t=r)(q:Q (.bool r) Y Z):cI G B E (.builtin "isinstance") [d,.raw (.type "bool")] Y Z Q:=yj W.g W.O h hr q
theorem EY(W:Wk G B gs ff)(h:yY d=ac t)(hr:gJ t=r)(q:Q (.bool r) Y Z):cI G B E (.builtin "isinstance") [d,.raw (.ref 183)] Y Z Q:=yk W.g W.O h hr q
theorem vw{x:fz}{xs:List fz}(W:Wk G B gs ff)(P:pd d=ac x)(hl:Bt l=ac xs)(hx:a6 x=ai)(hxs:∀y∈xs,a6 y=ai)(e:(xs.any fun y=>a8 y x)=b)(q:Q (.bool b) Y Z):O2 G B E (Is G.prog G.w) (bi .In) d (.tup l) Y Z Q:=Gx W.O P hl hx hxs (by rw[e];exact q)
theorem l6{x y:fz}{b:Bool}(W:Wk G B gs ff)(P:PD Z d x)(P':PD Z d' y)(hx:a6 x=ai)(hy:a6 y=ai)(e:a8 x y=b)(q:Q (.bool b) Y Z):O2 G B E (Is G.prog G.w) (bi .Eq) d d' Y Z Q:=Bz W.O P P' hx hy (by rw[e];exact q)
theorem Dl{b:Bool}(W:Wk G B gs ff)(L:LS Z d l)(e:l.isEmpty=b)(q:Q (.bool b) Y Z):O2 G B E (Is G.prog G.w) (bi .Eq) d (.lst []) Y Z Q:=GB W.O L (by rw[e];exact q)
theorem It{Q:Bool->aP->Mu->Prop}(L:LS Z d l)(hl:l.length<=1000000)(e:(!l.isEmpty)=b)(q:Q b Y Z):Q3 G B E d Y Z Q:=by
 intro V s v S hi;refine bl (L.openX S hi) fun a vs n z15 ho hL=>?_;subst z15;have hsz:vs.size=l.length:=by rw[<-aF,bb hL]
 refine wpAny_truthy_list (dK _ ho rfl n rfl) (by rw[hsz];exact T3 hl) ?_;refine⟨b,Y,Z,V,S.sat_toks _,.refl _,?_,q⟩;rw[<-e];cases l with|nil=>simp only[List.length_nil] at hsz;simp[NF,hsz]|cons x r=>simp only[cK] at hsz;simp[NF,hsz]
theorem L5(W:Wk G B gs ff)(D:LS Z d l)(h:(wI G B E gs ff [] 100).el pos args Y Z (tM (AJ G B E (.builtin "list.pop") [d] Q))):nF G B E (aa "pop") pl pos args Q d Y Z:=kJ D F.slot_list_pop F.type_list_pop (ii W h)
theorem q8(W:Wk G B gs ff)(D:LS Z d l)(h:(wI G B E gs ff [] 100).el pos args Y Z (tM (AJ G B E (.builtin "list.append") [d] Q))):nF G B E (aa "append") pl pos args Q d Y Z:=kJ D F.slot_list_append F.type_list_append (ii W h)
theorem HC{l l0:List DV}{x:DV}(e:l0=l++[x])(R:fF a (.lst l0) (.lst l) Z Z')(hl:l.length<=1000000)(q:Q x Y Z'):cI G B E (.builtin "list.pop") ([.ptr a]++[]) Y Z Q:=by subst e;exact Ki R hl q
theorem mv{l l':List DV}{x:DV}(e:l++[x]=l')(R:fF a (.lst l) (.lst l') Z Z')(hl:l.length<=1000000)(q:Q .none Y Z'):cI G B E (.builtin "list.append") ([.ptr a]++[x]) Y Z Q:=by subst e;exact tJ R hl q
theorem jC{b:Bool}(W:Wk G B gs ff)(e:l.isEmpty=b)(q:Q (.bool b) Y Z):O2 G B E (Is G.prog G.w) (bi .Eq) (.tup l) (.tup []) Y Z Q:=zx W.O (by rw[e];exact q)
theorem q5{K:Type}[DecidableEq K][DK K]{l:List (K×DV)}{b:Bool}(W:Wk G B gs ff)(D:DS Z d l)(e:(!l.isEmpty)=b)(q:Q (.bool b) Y Z):O2 G B E (Is G.prog G.w) (bi .NotEq) d (DK.dv ([]:List (K×DV))) Y Z Q:=By W.O D (by rw[e];exact q)
theorem QQ{K:Type}[DecidableEq K][DK K]{l l':List (K×DV)}{k:K}{dflt:DV}(e:xj l k=l')(R:fF a (DK.mo l) (DK.mo l') Z Z')(hl:l.length<=1000000)(q:Q ((ku l k).getD dflt) Y Z'):cI G B E (.builtin "dict.pop") ([.ptr a]++[DK.key k,dflt]) Y Z Q:=by subst e;exact D9 R hl q
theorem zy{K:Type}[DecidableEq K][DK K]{l:List (K×DV)}(W:Wk G B gs ff)(D:DS Z d l)(e:l.isEmpty=b)(q:Q (.bool b) Y Z):O2 G B E (Is G.prog G.w) (bi .Eq) d (DK.dv ([]:List (K×DV))) Y Z Q:=BA W.O D (by rw[e];exact q)
theorem bD(W:Wk G B gs ff)(h:dg B.env x c)(hm:(c,MO.cell d)∈Z)(hn:d≠.any)(hd:(x==("__debug__" : aV))=ak)(q:Q d Y Z):EV G B E (a9 (.Name x pos) B.env) Y Z Q:=Ao W.O h hm hn hd q
theorem gz{c b:Bool}(h:pE d=ac c)(e:(!c)=b)(q:Q (.bool b) Y Z):O2 G B E (Is G.prog G.w) (bi .IsNot) d .none Y Z Q:=xl h (e▸q)
theorem g0{b:Bool}(h:pE d=ac b)(q:Q (.bool b) Y Z):O2 G B E (Is G.prog G.w) (bi .Is) d .none Y Z Q:=Dk h q
def Zz(res:Option α)(F:α->DV)(ν:Mu):DV->Mu->Prop:=fun d Z'=>∃x,res=ac x/\d=F x/\Z'=ν
abbrev mx(G:G0)(k:Nat)(f:aE)(ds:List DV)(Zc:Mu)(res:Option α)(F:α->DV):Prop:=jg G k f ds Zc (Zz res F Zc) (res.isSome=ai)
theorem jA(W:Wk G B gs ff)(w:qg B)(hm:B.m0=Z0.map (·.1))(H:mx G k f ds Zc res F)(hh:B.hd=ak)(P:nE Z Zc Zc Z)(hk:k<=B.k)(h0:∀p∈Z0,p∈Z)(no:res=aq->∀e s,XF G B.A B.V0 Z0 B.s0 B.L .none e s->E e s)(q:∀x,res=ac x->Q (F x) Y Z):cI G B E f ds Y Z Q:=by refine ar P.pick fun re a e=>?_;refine wC W.O w hm H hh a hk h0 (fun h=>no (by cases res with|none=>rfl|some x=>exact absurd rfl h)) fun zz d Z' h=>?_;refine bp h ?_;clear h;intro x e1 e2 e3;subst e2;subst e3;rw[e];exact q x e1
theorem mx.sure{res:Option α}{F:α->DV}{x:α}(H:mx G k f ds Zc res F)(e:res=ac x):iz G k f ds Zc (fun d Z'=>d=F x/\Z'=Zc):=by subst e;intro A V s vs a b c d e' h;refine dR (H A V s vs a b c d e' h) (o8.mono (fun r s' z16=>bl z16 fun d Z' V' T i y37=>Fi y37 fun zz y e1 e2 e3=>?_) fun e s' h=>absurd rfl h.1);(injection e1 with e1;subst e1);exact eB d Z' V' T i e2 e3
theorem pt{K:Type}[DecidableEq K][DK K]{l:List (K×DV)}{k:K}{b:Bool}(D:DS Z d l)(e:(ku l k).isSome=!b)(q:Q (.bool b) Y Z):O2 G B E (Is G.prog G.w) (bi .NotIn) (DK.key k) d Y Z Q:=IZ D (by rw[e,nQ];exact q)
theorem qw{K:Type}[DecidableEq K][DK K]{l:List (K×DV)}{k:K}{b:Bool}(D:DS Z d l)(e:(ku l k).isSome=b)(q:Q (.bool b) Y Z):O2 G B E (Is G.prog G.w) (bi .In) (DK.key k) d Y Z Q:=Tn D (by rw[e];exact q)
theorem DY{K:Type}[DecidableEq K][DK K]{l:List (K×DV)}{k:K}{dflt x:DV}(D:DS Z d l)(e:(ku l k).getD dflt=x)(q:Q x Y Z):cI G B E (.builtin "dict.get") ([d]++[DK.key k,dflt]) Y Z Q:=Eb D (e▸q)
theorem oU{K:Type}[DecidableEq K][DK K]{l:List (K×DV)}{k:K}{x:DV}(D:DS Z d l)(e:(ku l k).getD .none=x)(q:Q x Y Z):cI G B E (.builtin "dict.get") ([d]++[DK.key k]) Y Z Q:=Ec D (e▸q)
theorem pj{Q:Fl->aP->Mu->Prop}{k:Int}(e:jq l k d=l')(R:fF a (.idic l) (.idic l') Z Z')(hl:l.length<=1000000)(q:Q .next Y Z'):HI Q d (.ptr a) (.int k) Y Z:=by subst e;exact IF R hl q
theorem iO{Q:Fl->aP->Mu->Prop}{l l':List (aV×DV)}(e:jq l k d=l')(R:fF a (.sdic l) (.sdic l') Z Z')(hl:l.length<=1000000)(q:Q .next Y Z'):HI Q d (.ptr a) (.str k) Y Z:=by subst e;exact IE R hl q
theorem iW{K:Type}[DecidableEq K][DK K]{l:List (K×DV)}(W:Wk G B gs ff)(D:DS Z d l)(h:(wI G B E gs ff [] 100).el pos args Y Z (tM (AJ G B E (.builtin "dict.get") [d] Q))):nF G B E (aa "get") pl pos args Q d Y Z:=qy D F.slot_dict_get F.type_dict_get (ii W h)
theorem EO(h:∀C l,d≠.inst C l)(y:Yy):Mp d X Yy:=by cases d with|inst C l=>exact absurd rfl (h C l)|_=>exact y
theorem DS.notInst{K:Type}[DecidableEq K][DK K]{l:List (K×DV)}(h:DS Z d l)(hd:∀C l',DK.dv l≠.inst C l'):∀C l',d≠.inst C l':=by
 rcases h with rfl|⟨a,rfl,_⟩;.exact hd
 .intro C l' h;injection h
noncomputable def vU(q:Option (Int×PV)):Int:=(q.map fun p=>p.1).getD (-1)
noncomputable def uJ(q:Option (Int×PV)):PV:=(q.map fun p=>p.2).getD .null
theorem IB{k:Int}(hs:d6 lk tab)(h:lk k=ac q):(ku tab.d k).getD (.tup [.int (-1),.none])=.tup [.int (vU q),(uJ q).d]:=by rw[dG.lkD,hs k q h];cases q<;>rfl
end
set_option backward.match.sparseCases true
local macro_rules | `(tactic| walk_at "na") => `(tactic| first | (intro h; cases h; done) | assumption | exact PV.d_any _)
local macro_rules | `(tactic| walk_at "v") => `(tactic| first | apply At.mk | ((conv => whnf); try (first | apply At.mk | (apply Pr; walk_at "na"; walk_at "v"))))
local macro_rules | `(tactic| walk_at "w") => `(tactic| ((try (with_reducible (first | apply uI | apply Lq | apply Xh | apply Xg | apply ii); assumption)); walk_at "v"))
noncomputable def QC(t r:aW)(v:PV):PV×DV×DV×DV->aP|(v',h,gd,f)=>[(aa "self",bg t r),(aa "value",v.d),(aa "here",v'.d),(aa "hop",h),(aa "generation",gd),(aa "found",f)]
theorem QB{k g:Int}(h:cc lk (n+1) (.ref k g)=ac res):∃q,lk k=ac q/\(vU q≠g->res=.null)/\(vU q=g->cc lk n (uJ q)=ac res):=by(first|rw[yr] at h|rw[fetchP_e1] at h|unfold cc at h);cases e:lk k with|none=>rw[e] at h;injection h|some q=>rw[e] at h;refine bq q rfl ?_;cases q with|none=>exact⟨fun zz=>(aB h).symm,fun zz=>(m3 rfl).trans h⟩|some p=>exact⟨fun hg=>(aB ((if_pos hg).symm.trans h)).symm,fun hg=>(if_neg (fun x=>x hg)).symm.trans h⟩
theorem JE(hq:bw v.tg=ak)(h:cc lk n v=ac res):v.d=res.d:=congrArg PV.d (aB ((m3 hq).symm.trans h))
section
variable (g : dN G) {t r : aW} {lk : Lk}
include g
theorem kq(n gen):iz G 1 (.ref 251) [io n gen] [] (fun d Z'=>d=.tup [.int n,.int gen]/\Z'=[]):=by refine eA (ps:=[aa "self"]) (rest:=[]) g rfl rfl rfl rfl rfl rfl (gC fun zz=>rfl) rfl .nil (by kernel_rfl) fun B Q W hk hh zz hQ=>?_;walk_at "w";exact hQ _ _ _ (cT rfl ⟨rfl,rfl⟩)
theorem kE(hs:d6 lk tab)(v res)(hr:cc lk 30 v=ac res):iz G 1 (.ref 304) [bg t r,v.d] (bz t r tab tr) (fun d Z'=>d=res.d/\Z'=bz t r tab tr):=by
 refine eA (ps:=[aa "self",aa "value"]) (rest:=[aa "here",aa "hop",aa "generation",aa "found"]) g rfl rfl rfl rfl rfl rfl (jN fun zz zz=>rfl) rfl (.cons (rq g) (.cons (Ac g) (.cons (cU g) (.cons (dZ g) .nil)))) (by kernel_rfl) fun B Q W hk hh zz hQ=>?_;walk_at "w";refine m5 W.O fun a=>?_;walk_at "w";refine nj (ρf:=QC t r v) (Zf:=fun zz=>bz t r tab tr) W (mV W.O hh (by decide) (by decide)) (fun i s=>cc lk (30-i) s.1=ac res) (v,_,_,_) hr rfl rfl ?_ ?_
 .intro B' P R i d s hd
  have hi:i<30:=by simpa using kM hd
  revert s;refine Bq fun v' h gd f hI W' zz hk' hh' zz hP hR=>?_;walk_at "w";cases hq:bw v'.tg with|false=>refine xu W' (PV.tgd _) hq ?_;walk_at "w";refine hR _ _ _ ?_;walk_at "w";exact hQ _ _ _ (cT rfl ⟨JE hq hI,rfl⟩)|true=>
   refine xu W' (PV.tgd _) hq ?_;refine g7 (vi hq) fun n gn z1=>?_;subst z1;walk_at "w";refine iW (K:=Int) W' (.inr (bq _ rfl (.head _))) ?_;walk_at "w";refine bp (QB (ID hi▸hI)) fun q hl h1 h2=>?_;refine DY (K:=Int) (.inr (bq _ rfl (.head _))) (IB hs hl) ?_;walk_at "w";by_cases hg:vU q=gn
   .refine i0 (bne_eq_false_iff_eq.mpr hg) ?_
    walk_at "w";exact hP (uJ q,_,_,_) (h2 hg)
   .refine oY (bne_iff_ne.mpr hg) ?_
    walk_at "w";refine hR _ _ _ ?_;walk_at "w";exact hQ _ _ _ (cT rfl ⟨by rw[h1 hg];rfl,rfl⟩)
 .refine Bq fun v' h gd f hI=>?_
  walk_at "w";cases hq:bw v'.tg with|false=>refine xu W (PV.tgd _) hq ?_;walk_at "w";exact hQ _ _ _ (cT rfl ⟨JE hq hI,rfl⟩)|true=>refine xu W (PV.tgd _) hq ?_;walk_at "w";exact hQ _ _ _ (cT rfl ⟨by refine g7 (vi hq) fun n gn z2=>?_;subst z2;(injection hI with hI;subst hI);rfl,rfl⟩)
end
section
variable (g : dN G)
include g
theorem xe(x dx n gen):g8 G 1 (.ref 244) [.ptr x,.int n,.int gen] [(x,.obj (cn 254 dx)),(dx,.flds [])] (fun d Z'=>∃l Zr,d=.none/\Z'=(x,.obj (cn 254 dx))::(dx,.flds l)::Zr/\(DV.inst 254 l=io n gen/\Zr=[])):=by refine eA (ps:=[aa "self",aa "number",aa "generation"]) (rest:=[]) g rfl rfl rfl rfl rfl rfl (rM fun zz zz zz=>rfl) rfl .nil (by kernel_rfl) fun B Q W zz zz zz hQ=>?_;walk_at "w";refine pP (vc g) (by kernel_rfl) (aj rfl) ?_;walk_at "w";refine pP (qt g) (by kernel_rfl) (aj rfl) ?_;walk_at "w";exact hQ _ _ _ (gN rfl (dw _ _ rfl rfl rfl rfl))
theorem dP(n gen):g8 G 2 (.ref 254) [.int n,.int gen] [] (fun d Z'=>d=io n gen/\Z'=[]):=kt g.ok (Pu g) fun x dx=>xe g x dx n gen
theorem uW(x dx y):g8 G 1 (.ref 180) [.ptr x,.str y] [(x,.obj (cn 183 dx)),(dx,.flds [])] (fun d Z'=>∃l Zr,d=.none/\Z'=(x,.obj (cn 183 dx))::(dx,.flds l)::Zr/\(DV.inst 183 l=x9 y/\Zr=[])):=by refine eA (ps:=[aa "self",aa "text"]) (rest:=[]) g rfl rfl rfl rfl rfl rfl (jN fun zz zz=>rfl) rfl .nil (by kernel_rfl) fun B Q W zz zz zz hQ=>?_;walk_at "w";refine pP (zn g) (by kernel_rfl) (aj rfl) ?_;walk_at "w";exact hQ _ _ _ (gN rfl (dw _ _ rfl rfl rfl rfl))
theorem kr(y):g8 G 2 (.ref 183) [.str y] [] (fun d Z'=>d=x9 y/\Z'=[]):=kt g.ok (Pw g) fun x dx=>uW g x dx y
theorem se(x dx a b)(h1:a≠.any)(h2:b≠.any):g8 G 1 (.ref 223) [.ptr x,a,b] [(x,.obj (cn 226 dx)),(dx,.flds [])] (fun d Z'=>∃l Zr,d=.none/\Z'=(x,.obj (cn 226 dx))::(dx,.flds l)::Zr/\(DV.inst 226 l=pn a b/\Zr=[])):=by refine eA (ps:=[aa "self",aa "head",aa "octets"]) (rest:=[]) g rfl rfl rfl rfl rfl rfl (rM fun zz zz zz=>rfl) rfl .nil (by kernel_rfl) fun B Q W zz zz zz hQ=>?_;walk_at "w";refine pP (zm g) (by kernel_rfl) (aj rfl) ?_;walk_at "w";refine pP (vf g) (by kernel_rfl) (aj rfl) ?_;walk_at "w";exact hQ _ _ _ (gN rfl (dw _ _ rfl rfl rfl rfl))
theorem A9(a b)(h1:a≠.any)(h2:b≠.any):g8 G 2 (.ref 226) [a,b] [] (fun d Z'=>d=pn a b/\Z'=[]):=kt g.ok (Pv g) fun x dx=>se g x dx a b h1 h2
theorem uU(x dx a b)(h1:a≠.any)(h2:b≠.any):g8 G 1 (.ref 385) [.ptr x,a,b] [(x,.obj (cn 388 dx)),(dx,.flds [])] (fun d Z'=>∃l Zr,d=.none/\Z'=(x,.obj (cn 388 dx))::(dx,.flds l)::Zr/\(DV.inst 388 l=IY a b/\Zr=[])):=by refine eA (ps:=[aa "self",aa "reference",aa "fields"]) (rest:=[]) g rfl rfl rfl rfl rfl rfl (rM fun zz zz zz=>rfl) rfl .nil (by kernel_rfl) fun B Q W zz zz zz hQ=>?_;walk_at "w";refine pP (qX g) (by kernel_rfl) (aj rfl) ?_;walk_at "w";refine pP (u9 g) (by kernel_rfl) (aj rfl) ?_;walk_at "w";exact hQ _ _ _ (gN rfl (dw _ _ rfl rfl rfl rfl))
theorem Gd(a b)(h1:a≠.any)(h2:b≠.any):g8 G 2 (.ref 388) [a,b] [] (fun d Z'=>d=IY a b/\Z'=[]):=kt g.ok (Pt g) fun x dx=>uU g x dx a b h1 h2
theorem uT(x dx a b c i p)(h1:a≠.any)(h2:b≠.any)(h3:c≠.any)(h4:i≠.any)(h5:p≠.any):g8 G 1 (.ref 406) [.ptr x,a,b,c,i,p] [(x,.obj (cn 409 dx)),(dx,.flds [])] (fun d Z'=>∃l Zr,d=.none/\Z'=(x,.obj (cn 409 dx))::(dx,.flds l)::Zr/\(DV.inst 409 l=IJ a b c i p/\Zr=[])):=by refine eA (ps:=[aa "self",aa "reference",aa "head",aa "above",aa "inherited",aa "is_page"]) (rest:=[]) g rfl rfl rfl rfl rfl rfl (Vm fun zz zz zz zz zz zz=>rfl) rfl .nil (by kernel_rfl) fun B Q W zz zz zz hQ=>?_;walk_at "w";refine pP (qV g) (by kernel_rfl) (aj rfl) ?_;walk_at "w";refine pP (zl g) (by kernel_rfl) (aj rfl) ?_;walk_at "w";refine pP (xi g) (by kernel_rfl) (aj rfl) ?_;walk_at "w";refine pP (qW g) (by kernel_rfl) (aj rfl) ?_;walk_at "w";refine pP (tZ g) (by kernel_rfl) (aj rfl) ?_;walk_at "w";exact hQ _ _ _ (gN rfl (dw _ _ rfl rfl rfl rfl))
theorem Gc(a b c i p)(h1:a≠.any)(h2:b≠.any)(h3:c≠.any)(h4:i≠.any)(h5:p≠.any):g8 G 2 (.ref 409) [a,b,c,i,p] [] (fun d Z'=>d=IJ a b c i p/\Z'=[]):=kt g.ok (Ps g) fun x dx=>uT g x dx a b c i p h1 h2 h3 h4 h5
theorem xg(e t m):gj G ak 1 (.ref 36) [.ptr e,.str m] [(e,.obj (gb 59 t))] (fun d Z'=>d=.none/\∃t dx,Z'=[(e,.obj (wg 59 t dx))]) (fun zz zz zz zz zz=>False):=by
 refine Ff (Y0:=[(aa "self",.ptr e),(aa "what",.str m),(aa "at",.int (-1))]) g.ok (by rfl) rfl rfl rfl rfl rfl (by decide +kernel) rfl rfl (by rfl) ?_ (ns:=[aa "self",aa "what",aa "at"]) rfl (by decide +kernel) ?_
 .refine QX g.ok (ps:=[aa "self",aa "what",aa "at"]) (dds:=[.int (-1)]) (dvs:=[.int (-1) 209]) (rest:=[]) rfl ?_ (fun V=>aG.mpr (bO _ _ rfl (bA.mpr ⟨_,rfl⟩) (be.mpr rfl))) (by decide +kernel) (by decide +kernel)
  intro s vs h X;refine g7 (Pz h) fun v1 v2 z1=>?_;subst z1;exact binds_K X rfl (by rfl) rfl rfl rfl
 .intro B O hk hh henv hm
  have W:Wk G B _ ai:=⟨O,fun zz=>hh,g,.cons (Ad g) .nil,by rw[henv];kernel_rfl⟩
  clear henv;refine g6 ?_;walk_at "w";refine Do O (by kernel_rfl) (by kernel_rfl) (Ak g) (by decide +kernel) ?_;walk_at "w";refine Ax O (we g) fun t'=>?_;walk_at "w";refine g6 ?_;refine JH O ?_ rfl;walk_at "w";walk_at "w";refine eB _ _ _ rfl rfl (Bi g) (fun dx=>?_);refine g6 ?_;refine JG O ?_ rfl;walk_at "w";walk_at "w";refine⟨_,_,_,_,_,rfl,rfl,Gh g,by kernel_rfl,aj rfl,?_⟩;refine An ?_;exact eB [(dx,_)] [(e,_)] .none (.swap _ _ _) rfl ⟨rfl,_,_,rfl⟩ (.inr (.inl ⟨rfl,rfl⟩))
end
section
variable {ff : Bool}
theorem un{Q:Fl->aP->Mu->Prop}(W:Wk G B gs ff)(hE:∀e s,¬ok/\EF G B Z0 e s->E e s)(hh:B.hd=ak)(hg:p7 gs (aa "TreeFault")=ac d)(hok:¬ok)(hk:2<=B.k)(hZ:∀p∈Z0,p∈Z):EX G B E (fc (.Raise (ac (.Call (.Name (aa "TreeFault") p1) [.Constant (.str m) k p2] [] p3)) aq pos) B.env) Y Z Q:=by refine WP.exc (JI W.O (we W.g) hh hok ?_) hE;refine wl W.O (wk W.O (dY W.g) (by simpa using aU.mp W.hk _ (iF hg).mem) (by decide +kernel) (Km (NX W.g) (uy (JN (Aq ?_)) rfl))) rfl rfl;exact D8 W.O (we W.g) (fun e t=>xg W.g e t _) hh (T9 hk) fun e t dx=>(kj _ _ _ _ rfl rfl hZ)
end
theorem rp(l k):(ku (PV.dS l) k).getD .none=((fN l k).getD .null).d:=by rw[gy];cases fN l k<;>rfl
theorem DS.ne_any{K:Type}[DecidableEq K][DK K]{l:List (K×DV)}(h:DS Z d l)(hd:DK.dv l≠.any):d≠.any:=by
 rcases h with rfl|⟨a,rfl,_⟩;.exact hd
 .intro h;injection h
noncomputable def fP(lk:Lk):Nat->List Int->PV->Option (Option (Int×Int))
 |n+1,seen,.ref k g=>if k∈seen then ac aq else
  match lk k with
  |none=>aq|some aq=>if -1≠g then ac aq else ac (ac (k,g))
  |some (ac (g',v))=>if g'≠g then ac aq else match v with|.ref k' g''=>fP lk n (seen++[k]) (.ref k' g'')|_=>ac (ac (k,g))
 |0,_,.ref _ _=>aq|_,_,_=>ac aq
theorem Jw(lk){n seen k g}:fP lk (n+1) seen (.ref k g)=(if k∈seen then ac aq else
  match lk k with
  |none=>aq|some aq=>if -1≠g then ac aq else ac (ac (k,g))
  |some (ac (g',v))=>if g'≠g then ac aq else match v with|.ref k' g''=>fP lk n (seen++[k]) (.ref k' g'')|_=>ac (ac (k,g))):=rfl
noncomputable def kG(l:List Int):List (Int×DV):=l.map fun n=>(n,.bool ai)
theorem zH(k):∀l,(ku (kG l) k).isSome=decide (k∈l):=by
 intro p0_;induction p0_ with|nil=>exact rfl|cons n r ih=>
  have ih:=ih;unfold kG ku at *;rw[au,bh];by_cases h:n=k;.simp[h]
  .simp only[h,decide_false]
   rw[ih];simp[o9 h]
theorem Bo(k l)(h:k∉l):jq (kG l) k (.bool ai)=kG (l++[k]):=by
 have:((kG l).any fun kv=>kv.1=k)=ak:=by unfold kG;rw[fm,Ii];intro x hx;simp only[ey,decide_eq_true_eq];exact fun e=>h (e▸hx)
 unfold jq;rw[this];simp[kG]
noncomputable def NY(t r a:aW)(v:PV):PV×List Int×DV×DV->aP|(v',seen,gd,f)=>[(aa "shelf",bg t r),(aa "value",v.d),(aa "here",v'.d),(aa "seen",.ptr a),(aa "generation",gd),(aa "found",f)]
noncomputable def NZ(t r a:aW)(tab:dG)(tr:List (aV×PV)):PV×List Int×DV×DV->Mu|(_,seen,_,_)=>(a,.idic (kG seen))::bz t r tab tr
def UW(lk:Lk)(res:Option (Int×Int))(n:Nat):PV×List Int×DV×DV->Prop|(v',seen,_,_)=>fP lk n seen v'=ac res/\seen.length+n<=64
def UV(res:Option (Int×Int))(s:PV×List Int×DV×DV):Prop:=res=aq
inductive VK (lk:Lk) (n:Nat) (seen:List Int) (k g:Int) (res:Option (Int×Int)):Prop
 |seen (h:k∈seen) (e:res=aq)
 |new (h:k∉seen) (q:Option (Int×PV)) (e:lk k=ac q) (no:vU q≠g->res=aq) (fin:vU q=g->bw (uJ q).tg=ak->res=ac (k,g))
  (on:vU q=g->bw (uJ q).tg=ai->∃m,m<n/\fP lk m (seen++[k]) (uJ q)=ac res/\(seen++[k]).length+m<=seen.length+n)
noncomputable def Fa(lk:Lk)(n:Nat)(seen:List Int)(k g:Int):Option (Option (Int×PV))->Option (Option (Int×Int))
 |none=>aq|some aq=>if -1≠g then ac aq else ac (ac (k,g))
 |some (ac (g',v))=>if g'≠g then ac aq else match v with|.ref k' g''=>fP lk n (seen++[k]) (.ref k' g'')|_=>ac (ac (k,g))
theorem Jz{seen:List Int}{k g:Int}:fP lk (n+1) seen (.ref k g)=if k∈seen then ac aq else Fa lk n seen k g (lk k):=rfl
theorem Jy{seen:List Int}{k g:Int}(hg:vU q≠g):Fa lk n seen k g (ac q)=ac aq:=by cases q with|none=>exact if_pos hg|some p=>exact if_pos hg
theorem G8{seen:List Int}{k g:Int}(hg:vU q=g)(hv:bw (uJ q).tg=ak):Fa lk n seen k g (ac q)=ac (ac (k,g)):=by
 cases q with
 |none=>exact if_neg fun x=>x hg
 |some p=>obtain⟨g',v⟩:=p;refine(if_neg fun x=>x hg).trans ?_;cases v<;>first|rfl|injection hv
theorem Jx{seen:List Int}{k g:Int}(hg:vU q=g)(hv:bw (uJ q).tg=ai):Fa lk n seen k g (ac q)=fP lk n (seen++[k]) (uJ q):=by cases q with|none=>injection hv|some p=>obtain⟨g',v⟩:=p;refine(if_neg fun x=>x hg).trans ?_;refine g7 (vi hv) fun a b z1=>?_;subst z1;rfl
theorem UT{seen:List Int}{k g:Int}(h:fP lk n seen (.ref k g)=ac res):VK lk n seen k g res:=by
 cases n with|zero=>injection h|succ n=>
  by_cases hk:k∈seen;.exact .seen hk (aB ((if_pos hk).symm.trans h)).symm
  .have h:=(if_neg hk).symm.trans (Jz.symm.trans h)
   cases hl:lk k with|none=>rw[hl] at h;injection h|some q=>rw[hl] at h;exact .new hk q hl (fun hg=>(aB ((Jy hg).symm.trans h)).symm) (fun hg hv=>(aB ((G8 hg hv).symm.trans h)).symm) fun hg hv=>(cB n (c9 _) ((Jx hg hv).symm.trans h) (by rw[aS,bQ];exact bv (f9 ..)))
theorem BV{seen:List Int}:∀{v:PV},bw v.tg=ak->fP lk n seen v=ac aq
 |.null,_=>by cases n<;>rfl
 |.bool _,_=>by cases n<;>rfl
 |.int _,_=>by cases n<;>rfl
 |.name _,_=>by cases n<;>rfl
 |.arr _,_=>by cases n<;>rfl
 |.dict _,_=>by cases n<;>rfl
 |.stream _,_=>by cases n<;>rfl
theorem UU{seen:List Int}(hq:bw v.tg=ak)(h:fP lk n seen v=ac res):res=aq:=(aB ((BV hq).symm.trans h)).symm
section
variable (g : dN G) {t r : aW} {lk : Lk}
include g
theorem iR(hs:d6 lk tab)(D:DS (bz t r tab tr) hd (PV.dS l))(key res)(hr:cc lk 30 ((fN l key).getD .null)=ac res):iz G 2 (.ref 311) [bg t r,hd,.str key] (bz t r tab tr) (fun d Z'=>d=res.d/\Z'=bz t r tab tr):=by have hne:=D.ne_any (by intro h;injection h);refine eA (ps:=[aa "self",aa "head",aa "key"]) (rest:=[]) g rfl rfl rfl rfl rfl rfl (rM fun zz zz zz=>rfl) rfl .nil (by kernel_rfl) fun B Q W hk hh zz hQ=>?_;walk_at "w";refine EO (D.notInst fun zz zz h=>by injection h) ?_;walk_at "v";refine iW (K:=aV) W D ?_;walk_at "w";refine oU (K:=aV) D (rp l key) ?_;walk_at "w";refine aw W.O (kE g hs _ res hr) (.inr hh) (.take (.take .nil)) (cO hk rfl) ?_;walk_at "w";exact hQ _ _ _ (cT rfl ⟨rfl,rfl⟩)
theorem j8(hs:d6 lk tab)(v res)(hr:fP lk 64 [] v=ac res):mx G 3 (.ref 427) [bg t r,v.d] (bz t r tab tr) res (fun p=>io p.1 p.2):=by
 refine kh (ps:=[aa "shelf",aa "value"]) (rest:=[aa "here",aa "seen",aa "generation",aa "found"]) g rfl rfl rfl rfl rfl rfl (jN fun zz zz=>rfl) rfl (.cons (cU g) (.cons (dZ g) (.cons (dY g) .nil))) (by kernel_rfl) fun B E Q W w hk hh zz hE hQ=>?_;walk_at "w";refine oR (K:=Int) W.O fun a=>?_;walk_at "w";refine yS (ρf:=NY t r a v) (Zf:=NZ t r a tab tr) (Yj:=NY t r a v) (Zj:=NZ t r a tab tr) W (UW lk res) (UV res) 64 (v,[],_,_) ⟨hr,aI _⟩ ?_ ?_
 .refine fun P R n=>Bq fun v' seen gd f h hP hJ hR=>?_
  walk_at "w";cases hq:bw v'.tg with|false=>refine xu W (PV.tgd _) hq ?_;walk_at "w";exact hJ (v',seen,gd,f) (UU hq h.1)|true=>
   refine xu W (PV.tgd _) hq ?_;refine g7 (vi hq) fun k gg z2=>?_;subst z2;walk_at "w";cases UT h.1 with|seen hs e=>refine pt (K:=Int) (l:=kG seen) (b:=ak) (.inr (bq _ rfl (.head _))) ((zH _ _).trans (decide_eq_true hs)) ?_;walk_at "w";exact hJ (PV.ref k gg,seen,gd,f) e|new hk' q hl no fin on=>
    refine pt (K:=Int) (l:=kG seen) (b:=ai) (.inr (bq _ rfl (.head _))) ((zH _ _).trans (decide_eq_false hk')) ?_;walk_at "w";refine pj (Bo k seen hk') .head (by rw[kG,af];exact ae (ae (cg _ _) h.2) (by decide)) ?_;walk_at "w";refine iW (K:=Int) W (.inr (bq _ rfl (.tail _ (.head _)))) ?_;walk_at "w";refine DY (K:=Int) (.inr (bq _ rfl (.tail _ (.head _)))) (IB hs hl) ?_;walk_at "w";by_cases hg:vU q=gg
    .refine i0 (bne_eq_false_iff_eq.mpr hg) ?_
     walk_at "w";cases hq2:bw (uJ q).tg with|false=>refine xu W (PV.tgd _) hq2 ?_;walk_at "w";refine hR _ _ _ ?_;walk_at "w";refine hQ _ _ _ (kO rfl ?_);exact nH (by rw[fin hg hq2];rfl) _ (fin hg hq2) rfl rfl|true=>refine xu W (PV.tgd _) hq2 ?_;walk_at "w";refine bp (on hg hq2) fun m hm h1 h2=>?_;exact hP m (uJ q,seen++[k],_,_) hm ⟨h1,ae h2 h.2⟩
    .refine oY (bne_iff_ne.mpr hg) ?_
     walk_at "w";exact hJ (PV.ref k gg,seen++[k],_,_) (no hg)
 .intro s hj
  walk_at "w";exact un W hE hh rfl (by rw[show res=aq from hj];intro h;injection h) (cO hk rfl) fun p hp=>.tail _ hp
end
noncomputable def dD(l:List (aV×PV))(k:aV):PV:=(fN l k).getD .null
noncomputable def PV.isNull:PV->Bool|.null=>ai|_=>ak
noncomputable def lj(lk:Lk)(l:List (aV×PV)):Option Bool:=
 match cc lk 30 (dD l (aa "Type")) with
 |none=>aq|some (.name x)=>if x=aa "Pages" then ac ai else if x=aa "Page" then ac ak else aq
 |some _=>(cc lk 30 (dD l (aa "Kids"))).map fun v=>!v.isNull
noncomputable def tx(lk:Lk)(l:List (aV×PV)):Option (Option (List PV)):=(cc lk 30 (dD l (aa "Kids"))).map fun v=>match v with|.arr k=>ac k|_=>aq
theorem fC(v:PV):pE v.d=ac v.isNull:=by cases v<;>rfl
theorem tA{v:PV}(h:v.isNull=ai):v=.null:=by cases v<;>first|rfl|injection h
noncomputable def xY(b:Bool):aV:=aa (if b then "Pages" else "Page")
inductive VH (lk:Lk) (l:List (aV×PV)) (res:Bool):Prop
 |name (h:cc lk 30 (dD l (aa "Type"))=ac (.name (xY res)))
 |kids (kd kv:PV) (h:cc lk 30 (dD l (aa "Type"))=ac kd) (hn:gJ kd.tg=ak) (hk:cc lk 30 (dD l (aa "Kids"))=ac kv) (e:(!kv.isNull)=res)
theorem Uw(h:lj lk l=ac res):VH lk l res:=by
 unfold lj at h;cases hf:cc lk 30 (dD l (aa "Type")) with|none=>rw[hf] at h;cases h|some kd=>
  rw[hf] at h;by_cases hq:gJ kd.tg=ak
  .have h:(cc lk 30 (dD l (aa "Kids"))).map (fun v=>!v.isNull)=ac res:=by cases kd<;>first|exact h|cases hq
   refine ar (aD.mp h) fun kv hk e=>?_;exact .kids kd kv hf hq hk e
  .cases kd with
   |name x=>
    refine .name (hf.trans (congrArg (fun y=>ac (PV.name y)) ?_));by_cases h1:x=aa "Pages";.cases(if_pos h1).symm.trans h;exact h1
    .by_cases h2:x=aa "Page"
     .cases(if_pos h2).symm.trans ((if_neg h1).symm.trans h);exact h2
     .cases(if_neg h2).symm.trans ((if_neg h1).symm.trans h)
   |_=>exact absurd rfl hq
theorem zs(b):a6 (.str (xY b))=ai:=by cases b<;>kernel_rfl
theorem LP(b):([PyData.str (aa "Pages"),.str (aa "Page")].any fun y=>a8 y (.str (xY b)))=ai:=by cases b<;>decide +kernel
theorem LQ(b):a8 (.str (xY b)) (.str (aa "Pages"))=b:=by cases b<;>decide +kernel
section
variable (g : dN G) {t r : aW} {lk : Lk}
include g
theorem zc(hs:d6 lk tab)(l res)(hr:lj lk l=ac res):iz G 3 (.ref 434) [bg t r,.sdic (PV.dS l)] (bz t r tab tr) (fun d Z'=>d=.bool res/\Z'=bz t r tab tr):=by refine eA (ps:=[aa "shelf",aa "head"]) (rest:=[aa "kind"]) g rfl rfl rfl rfl rfl rfl (jN fun zz zz=>rfl) rfl (.cons (cU g) (.cons (mY g) .nil)) (by kernel_rfl) fun B Q W hk hh zz hQ=>?_;walk_at "w";cases Uw hr with|name h=>refine aw W.O (iR g hs (.inl rfl) (aa "Type") _ h) (.inr hh) (.take (.take .nil)) (cO hk rfl) ?_;walk_at "w";refine EY W rfl rfl ?_;walk_at "w";refine vw W (x:=.str (xY res)) (xs:=[.str (aa "Pages"),.str (aa "Page")]) rfl rfl (zs res) (by decide +kernel) (LP res) ?_;walk_at "w";refine l6 W (x:=.str (xY res)) (y:=.str (aa "Pages")) (.inl rfl) (.inl rfl) (zs res) (zs ai) (LQ res) ?_;walk_at "w";exact hQ _ _ _ (cT rfl ⟨rfl,rfl⟩)|kids kd kv h hn hkv e=>refine aw W.O (iR g hs (.inl rfl) (aa "Type") _ h) (.inr hh) (.take (.take .nil)) (cO hk rfl) ?_;walk_at "w";refine EY W (PV.tgd _) hn ?_;walk_at "w";refine aw W.O (iR g hs (.inl rfl) (aa "Kids") kv hkv) (.inr hh) (.take (.take .nil)) (cO hk rfl) ?_;walk_at "w";refine gz (fC kv) e ?_;walk_at "w";exact hQ _ _ _ (cT rfl ⟨rfl,rfl⟩)
end
noncomputable def eJ(l:List (aV×PV))(k:aV)(v:PV):List (aV×PV):=if l.any (fun kv=>kv.1=k) then l.map (fun kv=>if kv.1=k then(kv.1,v) else kv) else l++[(k,v)]
theorem mR(k v l):jq (PV.dS l) k v.d=PV.dS (eJ l k v):=by
 unfold jq eJ;rw[PV.dS_map,fm];have e:(l.any ((fun kv:aV×DV=>decide (kv.1=k))∘fun p=>(p.1,p.2.d)))=l.any fun kv=>kv.1=k:=rfl;rw[e];split
 .rw[PV.dS_map,bS,bS]
  refine bM fun p zz=>?_;simp only[ey];split<;>rfl
 .rw[PV.dS_map,aA];rfl
noncomputable def iU(l:List (Int×Int)):List DV:=l.map fun p=>io p.1 p.2
structure bk where
 n:Int
 k:Int
 head:List (aV×PV)
 above:List (Int×Int)
 inh:List (aV×PV)
 page:Bool
@[reducible] noncomputable def bk.d(s:bk):DV:=IJ (io s.n s.k) (.sdic (PV.dS s.head)) (.tup (iU s.above)) (.sdic (PV.dS s.inh)) (.bool s.page)
noncomputable def eY:List aV:=[aa "Resources",aa "MediaBox",aa "CropBox",aa "Rotate"]
noncomputable def pR(lk:Lk)(l:List (aV×PV)):List aV->List (aV×PV)->Option (List (aV×PV))|[],i=>ac i|k::r,i=>match cc lk 30 (dD l k) with|none=>aq|some .null=>pR lk l r i|some _=>match fN l k with|none=>aq|some v=>pR lk l r (eJ i k v)
theorem E8(lk l){k r i}:pR lk l (k::r) i=(match cc lk 30 (dD l k) with|none=>aq|some .null=>pR lk l r i|some _=>match fN l k with|none=>aq|some v=>pR lk l r (eJ i k v)):=rfl
noncomputable def ub(lk:Lk)(v:PV)(above:List (Int×Int))(inh:List (aV×PV)):Option (Option bk):=
 match fP lk 64 [] v with|none=>aq|some aq=>ac aq|some (ac (n,k))=>match cc lk 30 (.ref n k) with
  |none=>aq|some (.dict l)=>match pR lk l eY inh,lj lk l with|some i,ac b=>ac (ac ⟨n,k,l,above,i,!b⟩)|_,_=>aq
  |some _=>ac aq
theorem jZ(l):(PV.dS l).length=l.length:=by rw[PV.dS_map,af]
theorem l5(l k v):(eJ l k v).length<=l.length+1:=by
 unfold eJ;split;.rw[af];exact cD _
 .rw[aS];exact aI _
theorem yZ{ks:List aV}(h:(ks.map DV.str)[i]?=ac d):∃x,d=.str x/\ks.drop i=x::ks.drop (i+1):=by rw[bj] at h;cases hk:ks[i]? with|none=>rw[hk] at h;injection h|some x=>rw[hk] at h;(injection h with h;subst h);obtain⟨hi,rfl⟩:=cq.mp hk;exact bq _ rfl (yR hi)
theorem L9{v:PV}(h:fX v.tg=ai):∃x,v=.arr x:=by cases v<;>first|((first|(injection h;done)|cases h);done)|exact⟨_,rfl⟩
theorem uz{v:PV}(h:dp v.tg=ai):∃x,v=.dict x:=by cases v<;>first|((first|(injection h;done)|cases h);done)|exact⟨_,rfl⟩
theorem UL(h:tx lk l=ac res):∃kv,cc lk 30 (dD l (aa "Kids"))=ac kv/\(fX kv.tg=ak->res=aq)/\∀k,kv=.arr k->res=ac k:=by refine ar (aD.mp h) fun kv hk e=>?_;refine cB kv hk (fun hq=>?_) (fun k hk=>by subst hk;exact e.symm);cases kv<;>first|exact e.symm|injection hq
inductive ZF (lk:Lk) (v:PV) (above:List (Int×Int)) (inh:List (aV×PV)) (res:Option bk):Prop
 |noHome (h:fP lk 64 [] v=ac aq) (e:res=aq)
 |noDict (n k:Int) (hd:PV) (h:fP lk 64 [] v=ac (ac (n,k))) (hf:cc lk 30 (.ref n k)=ac hd) (hq:dp hd.tg=ak) (e:res=aq)
 |spot (n k:Int) (l i:List (aV×PV)) (b:Bool) (h:fP lk 64 [] v=ac (ac (n,k))) (hf:cc lk 30 (.ref n k)=ac (.dict l)) (hi:pR lk l eY inh=ac i) (hn:lj lk l=ac b) (e:res=ac ⟨n,k,l,above,i,!b⟩)
theorem UC(h:ub lk v above inh=ac res):ZF lk v above inh res:=by
 unfold ub at h;cases hh:fP lk 64 [] v with|none=>rw[hh] at h;injection h|some ho=>
  rw[hh] at h;cases ho with|none=>exact .noHome hh (aB h).symm|some p=>
   obtain⟨n,k⟩:=p;dsimp only at h;cases hf:cc lk 30 (.ref n k) with|none=>rw[hf] at h;injection h|some hd=>
    rw[hf] at h;by_cases hq:dp hd.tg=ak;.exact .noDict n k hd hh hf hq (by cases hd<;>first|exact(aB h).symm|injection hq)
    .refine aY (uz (Bool.of_not_eq_false hq)) fun l z1=>?_
     subst z1;dsimp only at h;cases h1:pR lk l eY inh with|none=>rw[h1] at h;injection h|some i=>cases h2:lj lk l with|none=>rw[h1,h2] at h;injection h|some b=>rw[h1,h2] at h;exact .spot n k l i b hh hf h1 h2 (aB h).symm
theorem YZ(h:pR lk l (x::r) i'=ac i):∃fv,cc lk 30 (dD l x)=ac fv/\(fv.isNull=ai->pR lk l r i'=ac i)/\(fv.isNull=ak->∃vx,fN l x=ac vx/\pR lk l r (eJ i' x vx)=ac i):=by
 (first|rw[inhP_e0] at h|rw[E8] at h|unfold pR at h);cases hf:cc lk 30 (dD l x) with|none=>rw[hf] at h;injection h|some fv=>
  rw[hf] at h;refine cB fv rfl (fun hn=>?_) (fun hn=>?_);.rw[tA hn] at h;exact h
  .have h2:(match fN l x with|none=>aq|some v=>pR lk l r (eJ i' x v))=ac i:=by cases fv<;>first|exact h|injection hn
   cases hx:fN l x with|none=>rw[hx] at h2;injection h2|some vx=>rw[hx] at h2;exact bq vx rfl h2
noncomputable def YT(t r:aW)(v:PV)(above:List (Int×Int))(inh:List (aV×PV))(n k:Int)(l:List (aV×PV))(a:aW):List (aV×PV)×DV->aP|(_,key)=>[(aa "shelf",bg t r),(aa "value",v.d),(aa "above",.tup (iU above)),(aa "inherited",.sdic (PV.dS inh)),(aa "reference",io n k),(aa "head",.sdic (PV.dS l)),(aa "given",.ptr a),(aa "key",key)]
noncomputable def UD(t r:aW)(tab:dG)(tr:List (aV×PV))(a:aW):List (aV×PV)×DV->Mu|(i,_)=>(a,.sdic (PV.dS i))::bz t r tab tr
section
variable (g : dN G) {t r : aW} {lk : Lk}
include g
theorem zb(hs:d6 lk tab)(l res)(hr:tx lk l=ac res):mx G 3 (.ref 441) [bg t r,.sdic (PV.dS l)] (bz t r tab tr) res (fun k=>.lst (PV.dL k)):=by
 refine kh (ps:=[aa "shelf",aa "head"]) (rest:=[aa "kids"]) g rfl rfl rfl rfl rfl rfl (jN fun zz zz=>rfl) rfl (.cons (cU g) (.cons (z0 g) (.cons (dY g) .nil))) (by kernel_rfl) fun B E Q W w hk hh zz hE hQ=>?_;refine bp (UL hr) fun kv hkv h1 h2=>?_;walk_at "w";refine aw W.O (iR g hs (.inl rfl) (aa "Kids") kv hkv) (.inr hh) (.take (.take .nil)) (cO hk rfl) ?_;walk_at "w";cases hq:fX kv.tg with
 |true=>refine EZ W (PV.tgd _) hq ?_;walk_at "w";refine aY (L9 hq) fun x e=>?_;refine hQ _ _ _ (cT rfl ?_);exact nH (by rw[h2 x e];rfl) x (h2 x e) (by rw[e];simp only[PV.d]) rfl
 |false=>refine EZ W (PV.tgd _) hq ?_;walk_at "w";exact un W hE hh rfl (by rw[h1 hq];intro h;injection h) (cO hk rfl) fun p hp=>hp
theorem uX(hs:d6 lk tab)(v above inh)(hi:inh.length<=900)(res)(hr:ub lk v above inh=ac res):mx G 4 (.ref 448) [bg t r,v.d,.tup (iU above),.sdic (PV.dS inh)] (bz t r tab tr) res bk.d:=by
 refine Cb (ps:=[aa "shelf",aa "value",aa "above",aa "inherited"]) (rest:=[aa "reference",aa "head",aa "given",aa "key"]) g rfl rfl rfl rfl rfl rfl (N4 fun zz zz zz zz=>rfl) rfl (.cons (vY g) (.cons (cU g) (.cons (jD g) (.cons (dY g) (.cons (rz g) (.cons (Mw g) (.cons (DM g) .nil))))))) (by kernel_rfl) [241] fun B E Q W w hk hh hm hE hQ=>?_;walk_at "w";cases UC hr with
 |noHome h e=>refine jA W w hm (j8 g hs v _ h) hh (.take (.take .nil)) (cO hk rfl) (fun p hp=>hp) (fun zz e' s' x=>hE e' s' ⟨(by rw[e];intro h;injection h),.fly x⟩) fun x h=>by injection h
 |noDict n k hd h hf hq e=>refine jA W w hm (j8 g hs v _ h) hh (.take (.take .nil)) (cO hk rfl) (fun p hp=>hp) (fun h=>by injection h) fun x h=>?_;(injection h with h;subst h);walk_at "w";refine aw W.O (kE g hs (.ref n k) hd hf) (.inr hh) (.take (.take .nil)) (cO hk rfl) ?_;walk_at "w";refine uu W (PV.tgd _) hq ?_;walk_at "w";exact un W hE hh rfl (by rw[e];intro h;injection h) (cO hk rfl) fun p hp=>hp
 |spot n k l i b h hf hinh hnode e=>
  refine jA W w hm (j8 g hs v _ h) hh (.take (.take .nil)) (cO hk rfl) (fun p hp=>hp) (fun h=>by injection h) fun x h=>?_;(injection h with h;subst h);walk_at "w";refine aw W.O (kE g hs (.ref n k) (.dict l) hf) (.inr hh) (.take (.take .nil)) (cO hk rfl) ?_;walk_at "w";refine uu W (PV.tgd _) rfl ?_;walk_at "w";refine lJ (K:=aV) W.O (.inl rfl) (by rw[jZ];exact ae hi (by decide)) fun a=>?_;walk_at "w";refine nj (ρf:=YT t r v above inh n k l a) (Zf:=UD t r tab tr a) W (qB W.O hh) (fun j s=>pR lk l (eY.drop j) s.1=ac i/\s.1.length<=inh.length+j) (inh,_) ⟨hinh,aI _⟩ rfl rfl ?_ ?_
  .intro B' P R j d s hd
   have hj:j<4:=kM hd;refine ar (yZ (ks:=eY) hd) fun x z2 hx=>?_;subst z2;revert s;refine j5 fun i' key hI W' zz hk' hh' zz hP hR=>?_;refine bp (YZ (hx▸hI.1)) fun fv hf2 h1 h2=>?_;walk_at "w";refine aw W'.O (iR g hs (.inl rfl) x fv hf2) (.inr (hh'.trans hh)) (.skip (.take (.take .nil))) (cO (hk'.trans hk) rfl) ?_;walk_at "w";cases hn:fv.isNull with|true=>refine gz (fC fv) (congrArg not hn) ?_;walk_at "w";exact hP (i',_) ⟨h1 hn,ae hI.2 (bn (cD j) _)⟩|false=>refine gz (fC fv) (congrArg not hn) ?_;refine ar (h2 hn) fun vx hlx h3=>?_;walk_at "w";refine cw (K:=aV) (l:=PV.dS l) (x:=vx.d) (.inl rfl) (by rw[gy,hlx];rfl) ?_ (fun zz zz=>rfl);walk_at "w";refine iO (mR x vx i') .head (by rw[jZ];have:=hI.2;dsimp only at this;exact TD hi hj this) ?_;walk_at "w";exact hP (eJ i' x vx,_) ⟨h3,ae (l5 i' x vx) (b6 hI.2)⟩
  .refine j5 fun i' key hI=>?_
   cases aB hI.1;walk_at "w";refine WP.freeze1 (x:=aa "given") .head rfl (iF rfl) (cH rfl) 0 hm ?_;refine yT W ?_;walk_at "v";refine aw W.O (zc g hs l b hnode) (.inr hh) (.take (.take .nil)) (cO hk rfl) ?_;walk_at "w";refine aw W.O (Gc g _ _ _ _ _ (by intro h;injection h) (by intro h;injection h) (by intro h;injection h) (by intro h;injection h) (by intro h;injection h)) (.inl rfl) .nil (cO hk rfl) ?_;walk_at "w";refine hQ _ _ _ (cT rfl ?_);exact nH (by rw[e];rfl) _ e rfl rfl
end
noncomputable def vg(lk:Lk)(tr:List (aV×PV)):Option (List (aV×PV)):=(cc lk 30 (dD tr (aa "Root"))).map fun v=>match v with|.dict l=>l|_=>[]
noncomputable abbrev nG:=PV×List (Int×Int)×List (aV×PV)
@[reducible] noncomputable def rf(x:nG):DV:=.tup [x.1.d,.tup (iU x.2.1),.sdic (PV.dS x.2.2)]
noncomputable def iP(lk:Lk):Nat->List nG->List bk->List Int->Option (Option (List bk))
 |0,_,_,_=>aq
 |_+1,[],found,_=>ac (ac found)
 |n+1,(v,a,i)::rest,found,seen=>
  if 900<i.length\/900<rest.length\/900<a.length then aq else
  match ub lk v a i with
  |none=>aq
  |some aq=>ac aq
  |some (ac s)=>if s.n∈seen\/(found.isEmpty&&s.page)=ai then aq else
   if s.page then iP lk n rest (found++[s]) (seen++[s.n]) else
   match tx lk s.head with
   |some (ac ks)=>if 900<ks.length then aq else iP lk n (ks.map (fun k=>(k,a++[(s.n,s.k)],s.inh))++rest) (found++[s]) (seen++[s.n])
   |_=>aq
theorem xO(lk){n v a i rest found seen}:iP lk (n+1) ((v,a,i)::rest) found seen=(
  if 900<i.length\/900<rest.length\/900<a.length then aq else
  match ub lk v a i with
  |none=>aq
  |some aq=>ac aq
  |some (ac s)=>if s.n∈seen\/(found.isEmpty&&s.page)=ai then aq else
   if s.page then iP lk n rest (found++[s]) (seen++[s.n]) else
   match tx lk s.head with
   |some (ac ks)=>if 900<ks.length then aq else iP lk n (ks.map (fun k=>(k,a++[(s.n,s.k)],s.inh))++rest) (found++[s]) (seen++[s.n])
   |_=>aq):=rfl
noncomputable def cE(lk:Lk)(tr:List (aV×PV)):Option (Option (List bk)):=(vg lk tr).bind fun l=>iP lk 100 [(dD l (aa "Pages"),[],[])] [] []
theorem oV:(l:List PV)->PV.dL l=l.map PV.d:=by intro p0_;induction p0_ with|nil=>simp[PV.dL]|cons x r ih=>simp[PV.dL,ih]
theorem QR(l):(PV.dL l).length=l.length:=by rw[oV,af]
theorem Ht{i:Nat}(h:(PV.dL l).reverse[i]?=ac d):∃x,d=x.d/\l.reverse[i]?=ac x:=by rw[oV,<-m9,bj] at h;refine ar (aD.mp h) fun x hx e=>?_;exact bq x e.symm hx
theorem Dr{a:List (Int×Int)}{s:bk}(h:ub lk v a i=ac (ac s)):s.above=a:=by cases UC h with|noHome _ e=>injection e|noDict _ _ _ _ _ _ e=>injection e|spot _ _ _ _ _ _ _ _ _ e=>(injection e with e;subst e);rfl
theorem Tj(h:vg lk tr=ac l):∃v,cc lk 30 (dD tr (aa "Root"))=ac v/\(dp v.tg=ai->v=.dict l)/\(dp v.tg=ak->l=[]):=by
 refine ar (aD.mp h) fun v hv e=>?_;refine cB v hv (fun hq=>?_) (fun hq=>?_)
 .refine aY (uz hq) fun x z1=>?_
  subst z1;exact congrArg PV.dict e
 .cases v<;>first|exact e.symm|injection hq
structure Q4 (lk:Lk) (n:Nat) (v:PV) (a:List (Int×Int)) (i:List (aV×PV)) (rest:List nG) (found:List bk) (seen:List Int) (res:Option (List bk)) (m:Option bk):Prop where
 li:i.length<=900
 lr:rest.length<=900
 la:a.length<=900
 met:ub lk v a i=ac m
 no:m=aq->res=aq
 new:∀s,m=ac s->s.n∉seen/\(found.isEmpty=ai->s.page=ak)
 page:∀s,m=ac s->s.page=ai->iP lk n rest (found++[s]) (seen++[s.n])=ac res
 node:∀s,m=ac s->s.page=ak->∃ks,tx lk s.head=ac (ac ks)/\ks.length<=900/\iP lk n (ks.map (fun k=>(k,a++[(s.n,s.k)],s.inh))++rest) (found++[s]) (seen++[s.n])=ac res
theorem C7{a:List (Int×Int)}{seen:List Int}(h:iP lk (n+1) ((v,a,i)::rest) found seen=ac res):∃m,Q4 lk n v a i rest found seen res m:=by
 by_cases hg:900<i.length\/900<rest.length\/900<a.length;.injection (if_pos hg).symm.trans h
 have h:=(if_neg hg).symm.trans h;have hl:i.length<=900/\rest.length<=900/\a.length<=900:=by exact TC hg
 cases hm:ub lk v a i with|none=>rw[hm] at h;injection h|some m=>
  rw[hm] at h;cases m with|none=>exact⟨aq,hl.1,hl.2.1,hl.2.2,hm,fun zz=>(aB h).symm,fun zz h=>by(injection h),fun zz h=>by(injection h),fun zz h=>by(injection h)⟩|some s=>
   dsimp only at h;by_cases hc:s.n∈seen\/(found.isEmpty&&s.page)=ai;.injection (if_pos hc).symm.trans h
   have h:=(if_neg hc).symm.trans h;refine⟨ac s,hl.1,hl.2.1,hl.2.2,hm,fun h=>by(injection h),fun x e=>?_,fun x e hp=>?_,fun x e hp=>?_⟩<;>cases aB e
   .refine⟨fun z=>hc (.inl z),fun z=>?_⟩
    cases hp:s.page with|false=>rfl|true=>exact absurd (.inr (by rw[z,hp];rfl)) hc
   .exact(if_pos hp).symm.trans h
   .have h:=(if_neg (by rw[hp];decide)).symm.trans h
    cases hk:tx lk s.head with|none=>rw[hk] at h;injection h|some kd=>
     rw[hk] at h;cases kd with|none=>injection h|some ks=>
      by_cases hl:900<ks.length;.injection (if_pos hl).symm.trans h
      .exact cB ks rfl (b7 hl) ((if_neg hl).symm.trans h)
noncomputable abbrev FC:=List nG×List bk×List Int×DV×DV×DV×DV×DV
noncomputable def NK(t r fa sa la:aW):FC->aP|(_,_,_,a1,a2,a3,a4,a5)=>[(aa "shelf",bg t r),(aa "found",.ptr fa),(aa "seen",.ptr sa),(aa "line",.ptr la),(aa "value",a1),(aa "above",a2),(aa "inherited",a3),(aa "spot",a4),(aa "kid",a5)]
noncomputable def II(t r fa sa la:aW)(tab:dG)(tr:List (aV×PV)):FC->Mu|(stk,found,seen,_,_,_,_,_)=>(la,.lst (stk.reverse.map rf))::(sa,.idic (kG seen))::(fa,.lst (found.map bk.d))::bz t r tab tr
noncomputable def YW(t r fa sa la:aW)(v:PV)(ab:List (Int×Int))(ih:List (aV×PV))(sp:bk):Nat×DV->aP|(_,a5)=>[(aa "shelf",bg t r),(aa "found",.ptr fa),(aa "seen",.ptr sa),(aa "line",.ptr la),(aa "value",v.d),(aa "above",.tup (iU ab)),(aa "inherited",.sdic (PV.dS ih)),(aa "spot",sp.d),(aa "kid",a5)]
noncomputable def rh(ab:List (Int×Int))(sp:bk)(ks:List PV):List nG:=ks.map fun k=>(k,ab++[(sp.n,sp.k)],sp.inh)
noncomputable def Qp(t r fa sa la:aW)(tab:dG)(tr:List (aV×PV))(ks:List PV)(ab:List (Int×Int))(sp:bk)(rest:List nG)(found:List bk)(seen:List Int):Nat×DV->Mu|(i,_)=>(la,.lst (kU rf (rest.reverse++rh ab sp (ks.reverse.take i))))::(sa,.idic (kG seen))::(fa,.lst (found.map bk.d))::bz t r tab tr
theorem Jh{rest:List nG}{ks:List PV}{x:PV}(hx:ks.reverse[i]?=ac x):kU rf (rest.reverse++rh ab sp (ks.reverse.take i))++[.tup [x.d,.tup (iU ab++[io sp.n sp.k]),.sdic (PV.dS sp.inh)]]=kU rf (rest.reverse++rh ab sp (ks.reverse.take (i+1))):=by rw[ci,hx,ct,rh,rh,aA (f:=fun k=>((k,ab++[(sp.n,sp.k)],sp.inh):nG)),<-gu,aA (f:=rf)];simp only[au,bI,rf,iU,aA]
theorem Me{seen:List Int}:Qp t r fa sa la tab tr ks ab sp rest found seen ((PV.dL ks).reverse.length,a5)=II t r fa sa la tab tr (rh ab sp ks++rest,found,seen,a1,a2,a3,a4,a5):=by rw[eC,QR];show(la,MO.lst (kU rf (rest.reverse++rh ab sp (ks.reverse.take ks.length))))::_=(la,MO.lst (kU rf (rh ab sp ks++rest).reverse))::_;rw[bt (by simp),List.reverse_append,rh,rh,m9]
def Tc(lk:Lk)(res:Option (List bk))(n:Nat):FC->Prop|(stk,found,seen,_,_,_,_,_)=>iP lk n stk found seen=ac res/\seen.length+n<=100/\found.length+n<=100/\stk.length<=2000
def Tb(res:Option (List bk)):FC->Prop|(_,found,_,_,_,_,_,_)=>res=ac found
section
variable (g : dN G) {t r : aW} {lk : Lk}
include g
theorem lX(hs:d6 lk tab)(l)(hr:vg lk tr=ac l):iz G 3 (.ref 360) [bg t r] (bz t r tab tr) (fun d Z'=>d=.sdic (PV.dS l)/\Z'=bz t r tab tr):=by refine eA (ps:=[aa "self"]) (rest:=[aa "found"]) g rfl rfl rfl rfl rfl rfl (gC fun zz=>rfl) rfl (.cons (cU g) (.cons (jD g) .nil)) (by kernel_rfl) fun B Q W hk hh zz hQ=>?_;refine bp (Tj hr) fun v hv h1 h2=>?_;walk_at "w";refine aw W.O (iR g hs (.inr (bq r rfl (.tail _ (.head _)))) (aa "Root") v hv) (.inr hh) (.take (.take .nil)) (cO hk rfl) ?_;walk_at "w";cases hq:dp v.tg with|true=>refine uu W (PV.tgd _) hq ?_;walk_at "w";exact hQ _ _ _ (cT rfl ⟨by rw[h1 hq];simp only[PV.d],rfl⟩)|false=>refine uu W (PV.tgd _) hq ?_;walk_at "w";refine jt (K:=aV) W.O ?_;walk_at "w";exact hQ _ _ _ (cT rfl ⟨by rw[h2 hq];rfl,rfl⟩)
theorem qq(hs:d6 lk tab)(res)(hr:cE lk tr=ac res):mx G 5 (.ref 455) [bg t r] (bz t r tab tr) res (fun k=>.lst (k.map bk.d)):=by
 refine ar (cC.mp hr) ?_;clear hr;intro rl hrl hr;refine kh (ps:=[aa "shelf"]) (rest:=[aa "found",aa "seen",aa "line",aa "value",aa "above",aa "inherited",aa "spot",aa "kid"]) g rfl rfl rfl rfl rfl rfl (gC fun zz=>rfl) rfl (.cons (DI g) (.cons (dY g) (.cons (BX g) (.cons (DL g) .nil)))) (by kernel_rfl) fun B E Q W w hk hh hm hE hQ=>?_;walk_at "w";refine pG W.O (ii W ?_);walk_at "w";refine⟨by decide,fun fa=>?_⟩;walk_at "w";refine oR (K:=Int) W.O fun sa=>?_;walk_at "w";refine pG W.O (ii W ?_);walk_at "w";refine aw W.O (lX g hs rl hrl) (.inr hh) (.skip (.skip (.take (.take .nil)))) (cO hk rfl) ?_;walk_at "w";refine iW (K:=aV) W (.inl rfl) ?_;walk_at "w";refine oU (K:=aV) (.inl rfl) (rp rl _) ?_;walk_at "w";refine jt (K:=aV) W.O ?_;walk_at "w";refine⟨aj rfl,fun la=>?_⟩;walk_at "w";refine Im (ρf:=NK t r fa sa la) (Zf:=II t r fa sa la tab tr) (Yj:=NK t r fa sa la) (Zj:=II t r fa sa la tab tr) W w hE (Tc lk res) (Tb res) 100 (_,[],[],_,_,_,_,_) (o7 hr (aI _) (aI _) (aj rfl)) ?_ ?_
 .refine fun P R E' n=>NL fun stk found seen a1 a2 a3 a4 a5 hI hP hJ hR hE'=>?_
  refine jY hI ?_;clear hI;intro hf b1 b2 b3;walk_at "w";refine It (.inr (bq la rfl (.head _))) (by rw[af,eC];exact ae b3 (by decide)) rfl ?_;cases n with|zero=>injection hf|succ n=>
  cases stk with|nil=>walk_at "w";exact hJ ([],found,seen,_,_,_,_,_) (aB hf).symm|cons x rest=>
   obtain⟨v,ab,ih⟩:=x;refine aY (C7 hf) fun m S=>?_;refine oY (by simp) ?_;walk_at "w";refine wh ?_ rfl rfl;walk_at "w";refine L5 W (.inr (bq la rfl (.head _))) ?_;walk_at "w";refine HC (l:=rest.reverse.map rf) (x:=.tup [v.d,.tup (iU ab),.sdic (PV.dS ih)]) (by simp) .head (by rw[af,eC];exact ae S.lr (by decide)) ?_;walk_at "w";refine Nl W.O hh (cH rfl) (cH rfl) (cH rfl) ?_;walk_at "v";refine jA W w hm (uX g hs v ab ih S.li m S.met) hh (.skip (.skip (.skip (.take (.take .nil))))) (cO hk rfl) (fun p hp=>.tail _ (.tail _ (.tail _ hp))) (fun h e s x=>hE' e s ⟨(by rw[S.no h];intro h;injection h),x⟩) fun sp hsp=>?_;refine aZ (S.new sp hsp) fun n1 n2=>?_;walk_at "w";refine qw (K:=Int) (l:=kG seen) (b:=ak) (.inr (bq sa rfl (.tail _ (.head _)))) ((zH _ _).trans (decide_eq_false n1)) ?_;walk_at "w";refine eN W.O (ii W ?_);walk_at "w";refine⟨by decide,?_⟩;walk_at "w";refine Dl W (b:=found.isEmpty) (.inr (bq fa rfl (.tail _ (.tail _ (.head _))))) (by cases found<;>rfl) ?_;walk_at "w";refine Nf ?_ fun hfe hR=>?_;rotate_left
   .walk_at "w"
    exact i0 (n2 hfe) hR
   walk_at "w";refine pj (Bo _ _ n1) (.tail .head) (by unfold kG;rw[af];exact NQ b1) ?_;walk_at "w";refine q8 W (.inr (bq fa rfl (.tail _ (.tail _ (.head _))))) ?_;walk_at "w";refine mv (l':=(found++[sp]).map bk.d) (by rw[aA];rfl) (.tail (.tail .head)) (by rw[af];exact NQ b2) ?_;walk_at "w";cases hpage:sp.page with|true=>walk_at "w";exact hP n (rest,found++[sp],seen++[sp.n],_,_,_,_,_) (c9 n) (o7 (S.page sp hsp hpage) (by rw[aS,bQ];exact EN b1) (by rw[aS,bQ];exact EN b2) (ae S.lr (by decide)))|false=>
    refine bp (S.node sp hsp hpage) fun ks hkd hkl hf2=>?_;walk_at "w";refine aw W.O ((zb g hs sp.head _ hkd).sure rfl) (.inr hh) (.skip (.skip (.skip (.take (.take .nil))))) (cO hk rfl) ?_;walk_at "w";refine xB W.O fun ra=>?_;walk_at "w";refine nj (ρf:=YW t r fa sa la v ab ih sp) (Zf:=Qp t r fa sa la tab tr ks ab sp rest (found++[sp]) (seen++[sp.n])) W (Jj W.O hh) (fun i s=>s.1=i) (0,_) rfl rfl (by simp[Qp,rh]) ?_ ?_
    .intro B' P' R' i d s hd
     refine ar (Ht hd) fun x z2 hx=>?_;subst z2;revert s;refine j5 fun i' a5 e W' zz hk' hh' zz hP' hR'=>?_;subst e;walk_at "w";refine q8 W' (.inr (bq la rfl (.head _))) ?_;walk_at "w";refine qx W'.O (by rw[iU,af];have:=S.la;exact ae (b6 this) (by decide)) ?_;walk_at "w";refine mv (Jh hx) .head (by rw[af,aS,eC,rh,af,List.length_take];exact TB hkl S.lr eC) ?_;walk_at "w";exact hP' (i'+1,_) rfl
    .refine j5 fun i a5 e=>?_
     subst e;walk_at "w";rw[Me];exact hP n (rh ab sp ks++rest,found++[sp],seen++[sp.n],_,_,_,_,_) (c9 n) (o7 hf2 (by rw[aS,bQ];exact EN b1) (by rw[aS,bQ];exact EN b2) (by rw[aS,rh,af];have:=S.lr;exact TA hkl this))
 .refine NL fun stk found seen a1 a2 a3 a4 a5 hI=>?_
  walk_at "w";refine hQ _ _ _ (U8 rfl rfl ?_);exact nH (by rw[show res=_ from hI];rfl) _ hI rfl rfl
end
noncomputable def jK(lk:Lk)(s:bk):Bool:=decide (s.head.length<=900)&&eY.all fun k=>(cc lk 30 (dD s.head k)).isSome
noncomputable def eK(lk:Lk)(s:bk):List aV->List (aV×PV)->List (aV×PV)|[],i=>i|k::r,i=>match fN s.inh k with|none=>eK lk s r i|some v=>if((cc lk 30 (dD s.head k)).getD .null).isNull then eK lk s r (eJ i k v) else eK lk s r i
noncomputable def Am(lk:Lk)(s:bk):List (aV×PV):=eK lk s eY s.head
theorem MB{s:bk}(h:jK lk s=ai):s.head.length<=900/\∀x∈eY,∃fv,cc lk 30 (dD s.head x)=ac fv:=by unfold jK at h;rw[aO,decide_eq_true_eq] at h;exact⟨h.1,fun x hx=>cu.mp (aU.mp h.2 x hx)⟩
theorem goV{s:bk}{r:List aV}{i:List (aV×PV)}(h:cc lk 30 (dD s.head x)=ac fv):(fN s.inh x=aq->eK lk s (x::r) i=eK lk s r i)/\∀vx,fN s.inh x=ac vx->(fv.isNull=ak->eK lk s (x::r) i=eK lk s r i)/\(fv.isNull=ai->eK lk s (x::r) i=eK lk s r (eJ i x vx)):=by
 have e:eK lk s (x::r) i=match fN s.inh x with|none=>eK lk s r i|some v=>if((cc lk 30 (dD s.head x)).getD .null).isNull then eK lk s r (eJ i x v) else eK lk s r i:=rfl
 rw[h,eH] at e;refine⟨fun hx=>?_,fun vx hx=>?_⟩<;>rw[hx] at e;.exact e
 .exact⟨fun hn=>e.trans (if_neg (by rw[hn];decide)),fun hn=>e.trans (if_pos hn)⟩
noncomputable def Ze(t r a:aW)(sp:bk):List (aV×PV)×DV->aP|(_,key)=>[(aa "shelf",bg t r),(aa "spot",sp.d),(aa "found",.ptr a),(aa "key",key)]
section
variable (g : dN G) {t r : aW} {lk : Lk}
include g
theorem uY(hs:d6 lk tab)(sp)(hok:jK lk sp=ai):iz G 3 (.ref 462) [bg t r,sp.d] (bz t r tab tr) (fun d Z'=>d=.sdic (PV.dS (Am lk sp))/\Z'=bz t r tab tr):=by
 refine aZ (MB hok) ?_;clear hok;intro hlen hok;refine eA (ps:=[aa "shelf",aa "spot"]) (rest:=[aa "found",aa "key"]) g rfl rfl rfl rfl rfl rfl (jN fun zz zz=>rfl) rfl (.cons (jD g) (.cons (rz g) .nil)) (by kernel_rfl) fun B Q W hk hh hm hQ=>?_;walk_at "w";refine lJ (K:=aV) W.O (.inl rfl) (by rw[jZ];exact ae hlen (by decide)) fun a=>?_;walk_at "w";refine nj (ρf:=Ze t r a sp) (Zf:=UD t r tab tr a) W (qB W.O hh) (fun j s=>eK lk sp (eY.drop j) s.1=Am lk sp/\s.1.length<=sp.head.length+j) (sp.head,_) ⟨rfl,aI _⟩ rfl rfl ?_ ?_
 .intro B' P R j d s hd
  have hj:j<4:=kM hd;refine ar (yZ (ks:=eY) hd) fun x z1 hx=>?_;subst z1;refine aY (hok x (Et (hx▸bo))) fun fv hfv=>?_;revert s;refine j5 fun i key hI W' zz hk' hh' zz hP hR=>?_;refine aZ (goV (r:=eY.drop (j+1)) (i:=i) hfv) fun h1 h2=>?_;have hgo:=hx▸hI.1;have hl:i.length<=sp.head.length+(j+1):=ae hI.2 (bn (cD j) _);walk_at "w";cases hlx:fN sp.inh x with|none=>refine qw (K:=aV) (l:=PV.dS sp.inh) (b:=ak) (.inl rfl) (by rw[gy,hlx];rfl) ?_;walk_at "w";exact hP (i,_) ⟨(h1 hlx).symm.trans hgo,hl⟩|some vx=>refine qw (K:=aV) (l:=PV.dS sp.inh) (b:=ai) (.inl rfl) (by rw[gy,hlx];rfl) ?_;refine aZ (h2 vx hlx) fun h3 h4=>?_;walk_at "w";refine aw W'.O (iR g hs (.inl rfl) x fv hfv) (.inr (hh'.trans hh)) (.skip (.take (.take .nil))) (cO (hk'.trans hk) rfl) ?_;walk_at "w";refine g0 (fC fv) ?_;cases hn:fv.isNull with|false=>walk_at "w";exact hP (i,_) ⟨(h3 hn).symm.trans hgo,hl⟩|true=>walk_at "w";refine cw (K:=aV) (l:=PV.dS sp.inh) (x:=vx.d) (.inl rfl) (by rw[gy,hlx];rfl) ?_ (fun zz zz=>rfl);walk_at "w";refine iO (mR x vx i) .head (by rw[jZ];exact Tz hlen hj hl) ?_;walk_at "w";exact hP (eJ i x vx,_) ⟨(h4 hn).symm.trans hgo,ae (l5 i x vx) (b6 hI.2)⟩
 .refine j5 fun i key hI=>?_
  walk_at "w";exact hQ _ _ _ (Cd rfl rfl ⟨by rw[show i=_ from hI.1],rfl⟩)
end
theorem qp:∀(n:Nat)stk found seen k,iP lk n stk found seen=ac (ac k)->k.length<=found.length+n
 |0,_,_,_,_,h=>by injection h
 |n+1,[],found,_,k,h=>by(injection h with h;injection h with h;subst h);exact cg _ _
 |n+1,(v,a,i)::rest,found,seen,k,h=>by refine aY (C7 h) fun m S=>?_;cases m with|none=>cases S.no rfl|some s=>cases hp:s.page with|true=>have:=qp n _ _ _ _ (S.page s rfl hp);rw[aS,bQ] at this;exact NP this|false=>refine bp (S.node s rfl hp) fun ks zz zz h=>?_;have:=qp n _ _ _ _ h;rw[aS,bQ] at this;exact NP this
theorem fk(h:cE lk tr=ac (ac k)):k.length<=100:=by refine ar (cC.mp h) ?_;clear h;intro rl zz h;simpa using qp 100 _ _ _ _ h
theorem dM{l:List α}{i:Nat}(h:(l.map f)[i]?=ac d):∃x,d=f x/\l[i]?=ac x:=by rw[bj] at h;refine ar (aD.mp h) fun x hx e=>?_;exact bq x e.symm hx
theorem yq{k:List bk}{x:bk}(hx:k[i]?=ac x):((k.take (i+1)).filter (·.page)).map bk.d=((k.take i).filter (·.page)).map bk.d++(if x.page then[x.d] else[]):=by rw[ci,hx,ct,rT,aA];cases hp:x.page<;>simp[hp]
theorem oa{k:List α}:k.take (k.map f).length=k:=bt (by rw[af];exact aI _)
section
variable (g : dN G) {t r : aW} {lk : Lk}
include g
theorem np(hs:d6 lk tab)(res)(hr:cE lk tr=ac res):mx G 6 (.ref 467) [bg t r] (bz t r tab tr) res (fun k=>.lst ((k.filter (·.page)).map bk.d)):=by
 refine kh (ps:=[aa "shelf"]) (rest:=[]) g rfl rfl rfl rfl rfl rfl (gC fun zz=>rfl) rfl (.cons (vW g) .nil) (by kernel_rfl) fun B E Q W w hk hh hm hE hQ=>?_;walk_at "w";refine ij (cl:=[]) W ⟨rfl,by decide +kernel,rfl,by decide +kernel⟩ rfl rfl ?_;walk_at "w";refine jA W w hm (qq g hs res hr) hh (.take (.take .nil)) (cO hk rfl) (fun p hp=>hp) (fun h e s x=>hE e s ⟨(by rw[h];intro h;injection h),.fly x⟩) fun k e=>?_;subst e;walk_at "w";refine yU W .nil (by kernel_rfl) (cA W.O) (by rw[af];exact ae (fk hr) (by decide)) (fun i out Z=>out=((k.take i).filter (·.page)).map bk.d/\Z=bz t r tab tr) ⟨rfl,rfl⟩ ?_ ?_
 .intro B' P i d out Z2 hd hI W' zz hk' hh' zz hP
  refine aZ hI ?_;clear hI;intro e1 e2;subst e1;subst e2;refine ar (dM hd) fun x z1 hx=>?_;subst z1;walk_at "w";cases hp:x.page with|true=>walk_at "w";exact hP _ _ ⟨by rw[yq hx,hp];rfl,rfl⟩|false=>walk_at "w";exact hP _ _ ⟨by rw[yq hx,hp];exact(bR _).symm,rfl⟩
 .intro out Z hI
  refine aZ hI ?_;clear hI;intro e1 e2;subst e1;subst e2;walk_at "w";exact hQ _ _ _ (cT rfl (nH rfl k rfl (by rw[oa]) rfl))
end
@[reducible] noncomputable def NO(lk:Lk)(s:bk):DV:=IY (io s.n s.k) (.sdic (PV.dS (Am lk s)))
theorem iX{k:List α}{f:α->DV}{x:α}(hx:k[i]?=ac x):(k.take i).map f++[f x]=(k.take (i+1)).map f:=by rw[ci,hx,ct,aA];rfl
section
variable (g : dN G) {t r : aW} {lk : Lk}
include g
theorem qr(hs:d6 lk tab)(res)(hr:cE lk tr=ac res)(hf:∀k,res=ac k->∀s∈k,s.page=ai->jK lk s=ai):mx G 7 (.ref 472) [bg t r] (bz t r tab tr) res (fun k=>.lst ((k.filter (·.page)).map (NO lk))):=by
 refine JZ (Y0:=[]) (Yc:=[bg t r]) (ps:=[aa "shelf"]) (Z1:=fun L=>(L+1,.cell (bg t r))::bz t r tab tr) g rfl rfl rfl rfl rfl (gC fun zz=>rfl) (.cons (qb g) .nil) (.inr (by kernel_rfl)) (by decide +kernel) ⟨rfl,fun n x hx=>(by cases ap.mp hx;exact .inr ⟨rfl,rfl⟩),fun p hp=>(by cases hp),fun n p hp=>(by cases ap.mp hp;exact(jT rfl rfl (fun zz=>bo))),by decide⟩ (fun zz=>rfl) fun B E Q W w hk hh hm henv hE hQ=>?_;have hcs:dg B.env (aa "shelf") (B.L+1):=by rw[henv];exact⟨rfl,rfl⟩
 walk_at "w";refine ij (cl:=[(aa "shelf",B.L+1)]) W ⟨by rw[henv];rfl,by decide +kernel,rfl,by decide +kernel⟩ rfl rfl ?_;walk_at "w";refine Ao W.O hcs (.head _) (by intro h;injection h) (by decide +kernel) ?_;walk_at "w";refine jA W w hm (np g hs res hr) hh (.skip (.take (.take .nil))) (cO hk rfl) (fun p hp=>.tail _ hp) (fun h e s x=>hE e s ⟨(by rw[h];intro h;injection h),.fly x⟩) fun k e=>?_;subst e;walk_at "w";refine fu W (.cons (Mx g) (.cons (Aa g) .nil)) (by kernel_rfl) (cA W.O) (by rw[af];exact ae (dW _ _) (ae (fk hr) (by decide))) (fun i out Z=>out=((k.filter (·.page)).take i).map (NO lk)/\Z=(B.L+1,.cell (bg t r))::bz t r tab tr) ⟨rfl,rfl⟩ ?_ ?_
 .intro B' P i d out Z2 hd hI W' hec hk' hh' zz hP
  refine aZ hI ?_;clear hI;intro e1 e2;subst e1;subst e2;refine ar (dM hd) fun x z1 hx=>?_;subst z1;have hcc:dg B'.env (aa "shelf") (B.L+1):=by rw[hec,henv];exact⟨rfl,rfl⟩
  clear hec henv;refine aZ (iI.mp (cF hx)) fun hx1 hx2=>?_;walk_at "w";refine Ao W'.O hcc (.head _) (by intro h;injection h) (by decide +kernel) ?_;walk_at "w";refine aw W'.O (uY g hs x (hf k rfl x hx1 hx2)) (.inr (hh'.trans hh)) (.skip (.take (.take .nil))) (cO (hk'.trans hk) rfl) ?_;walk_at "w";refine aw W'.O (Gd g _ _ (by intro h;injection h) (by intro h;injection h)) (.inl rfl) .nil (cO (hk'.trans hk) rfl) ?_;walk_at "w";exact hP _ _ ⟨iX hx,rfl⟩
 .intro out Z hI
  refine aZ hI ?_;clear hI;intro e1 e2;subst e1;subst e2;walk_at "w";exact hQ _ _ _ (kO rfl (nH rfl k rfl (by rw[oa]) rfl))
end
noncomputable def fV:PV->Bool|.int i=>decide (0<=i)|_=>ak
theorem Qr{v:PV}(h:gw v.tg=ai)(h2:eT v.tg=ak):∃i,v=.int i:=by cases v<;>first|((first|(injection h;done)|cases h);done)|(cases h2;done)|exact⟨_,rfl⟩
theorem ER(h:gw v.tg=ak\/eT v.tg=ai):fV v=ak:=by cases v<;>first|rfl|(rcases h with h|h<;>injection h)
section
variable (g : dN G)
include g
theorem pZ(v):iz G 1 (.ref 486) [v.d] [] (fun d Z'=>d=.bool (fV v)/\Z'=[]):=by refine eA (ps:=[aa "value"]) (rest:=[]) g rfl rfl rfl rfl rfl rfl (gC fun zz=>rfl) rfl (.cons (cU g) (.cons (vX g) (.cons (uv g) .nil))) (by kernel_rfl) fun B Q W hk hh hm hQ=>?_;walk_at "w";cases hq:gw v.tg with|false=>refine Dz W (PV.tgd _) hq ?_;walk_at "w";exact hQ _ _ _ (cT rfl ⟨by rw[ER (.inl hq)],rfl⟩)|true=>refine Dz W (PV.tgd _) hq ?_;walk_at "w";cases hb:eT v.tg with|true=>refine zS W (PV.tgd _) hb ?_;walk_at "w";exact hQ _ _ _ (cT rfl ⟨by rw[ER (.inr hb)];rfl,rfl⟩)|false=>refine zS W (PV.tgd _) hb ?_;refine aY (Qr hq hb) fun i z1=>?_;subst z1;walk_at "w";exact hQ _ _ _ (cT rfl ⟨rfl,rfl⟩)
end
noncomputable def l8(lk:Lk)(tr:List (aV×PV)):Option (Option bk):=(vg lk tr).bind fun l=>ub lk (dD l (aa "Pages")) [] []
noncomputable def fg(lk:Lk)(tr:List (aV×PV)):Option (Option Int):=match l8 lk tr with|none=>aq|some aq=>ac aq|some (ac s)=>(cc lk 30 (dD s.head (aa "Count"))).map fun v=>match v with|.int i=>if 0<=i then ac i else aq|_=>aq
theorem Di(h:fg lk tr=ac res):∃rl mr,vg lk tr=ac rl/\ub lk (dD rl (aa "Pages")) [] []=ac mr/\(mr=aq->res=aq)/\∀s,mr=ac s->∃v,cc lk 30 (dD s.head (aa "Count"))=ac v/\(fV v=ai->∃i,v=.int i/\res=ac i)/\(fV v=ak->res=aq):=by
 unfold fg at h;cases hm:l8 lk tr with|none=>rw[hm] at h;injection h|some mr=>
  refine ar (cC.mp hm) fun rl hrl hmet=>?_;rw[hm] at h;refine(dw rl mr hrl hmet (fun e=>?_) (fun s e=>?_))<;>subst e;.exact(aB h).symm
  .refine ar (aD.mp h) fun v hv e=>?_
   refine bq v hv ?_;cases v with|int i=>exact⟨fun hc=>(bq i rfl (e.symm.trans (if_pos (of_decide_eq_true hc)))),fun hc=>e.symm.trans (if_neg (of_decide_eq_false hc))⟩|_=>exact⟨fun hc=>(nomatch hc),fun zz=>e.symm⟩
section
variable (g : dN G) {t r : aW} {lk : Lk}
include g
theorem g9(hs:d6 lk tab)(res)(hr:fg lk tr=ac res):mx G 5 (.ref 479) [bg t r] (bz t r tab tr) res DV.int:=by
 refine kh (ps:=[aa "shelf"]) (rest:=[aa "count"]) g rfl rfl rfl rfl rfl rfl (gC fun zz=>rfl) rfl (.cons (DI g) (.cons (tD g) (.cons (dY g) .nil))) (by kernel_rfl) fun B E Q W w hk hh hm hE hQ=>?_;refine bB (Di hr) fun rl mr hrl hmet h1 h2=>?_;walk_at "w";refine aw W.O (lX g hs rl hrl) (.inr hh) (.take (.take .nil)) (cO hk rfl) ?_;walk_at "w";refine iW (K:=aV) W (.inl rfl) ?_;walk_at "w";refine oU (K:=aV) (.inl rfl) (rp rl _) ?_;walk_at "w";refine jt (K:=aV) W.O ?_;walk_at "w";refine jA W w hm (uX g hs _ [] [] (a7 _) mr hmet) hh (.take (.take .nil)) (cO hk rfl) (fun p hp=>hp) (fun h e s x=>hE e s ⟨(by rw[h1 h];intro h;injection h),.fly x⟩) fun sp hsp=>?_;refine bp (h2 sp hsp) fun v hv h3 h4=>?_;walk_at "w";refine aw W.O (iR g hs (.inl rfl) (aa "Count") v hv) (.inr hh) (.take (.take .nil)) (cO hk rfl) ?_;walk_at "w";refine aw W.O (pZ g v) (.inr hh) .nil (cO hk rfl) ?_;cases hc:fV v with
 |true=>walk_at "w";refine ar (h3 hc) fun i e1 e2=>?_;exact hQ _ _ _ (cT rfl (nH (by rw[e2];rfl) i e2 (by rw[e1];simp only[PV.d]) rfl))
 |false=>walk_at "w";exact un W hE hh rfl (by rw[h4 hc];intro h;injection h) (cO hk rfl) fun p hp=>hp
theorem za(hs:d6 lk tab)(i)(hr:l8 lk tr=ac aq):jg G 5 (.ref 493) [bg t r,.int i] (bz t r tab tr) (fun zz zz=>True) False:=by refine ar (cC.mp hr) fun rl hrl hmet=>?_;refine kh (ps:=[aa "shelf",aa "at"]) (rest:=[aa "spot",aa "left"]) g rfl rfl rfl rfl rfl rfl (jN fun zz zz=>rfl) rfl (.cons (DI g) .nil) (by kernel_rfl) fun B E Q W w hk hh hm hE hQ=>?_;walk_at "w";refine aw W.O (lX g hs rl hrl) (.inr hh) (.take (.take .nil)) (cO hk rfl) ?_;walk_at "w";refine iW (K:=aV) W (.inl rfl) ?_;walk_at "w";refine oU (K:=aV) (.inl rfl) (rp rl _) ?_;walk_at "w";refine jt (K:=aV) W.O ?_;walk_at "w";exact jA W w hm (uX g hs _ [] [] (a7 _) aq hmet) hh (.take (.take .nil)) (cO hk rfl) (fun p hp=>hp) (fun h e s x=>hE e s ⟨id,.fly x⟩) fun sp hsp=>by injection hsp
end
noncomputable abbrev wV:=List (Int×Int)
noncomputable def pS(l:wV)(k:Int):Option Int:=(l.find? fun kv=>kv.1=k).map (·.2)
noncomputable def sw(l:wV)(k v:Int):wV:=if l.any (fun kv=>kv.1=k) then l.map (fun kv=>if kv.1=k then(kv.1,v) else kv) else l++[(k,v)]
noncomputable def rJ(l:wV):List (Int×DV):=l.map fun p=>(p.1,.int p.2)
theorem zJ(k):∀l,ku (rJ l) k=(pS l k).map DV.int:=by
 intro p0_;induction p0_ with|nil=>exact rfl|cons p_ r ih=>
  rcases p_ with⟨n,v⟩
  have ih:=ih;unfold rJ ku pS at *;rw[au,bh,bh];by_cases h:n=k;.simp[h]
  .simp only[h,decide_false];exact ih
theorem zr(k v l):jq (rJ l) k (.int v)=rJ (sw l k v):=by
 unfold jq sw rJ;rw[fm];have e:(l.any ((fun kv:Int×DV=>decide (kv.1=k))∘fun p=>(p.1,DV.int p.2)))=l.any fun kv=>kv.1=k:=rfl;rw[e];split
 .rw[bS,bS]
  refine bM fun p zz=>?_;simp only[ey];split<;>rfl
 .rw[aA];rfl
theorem IW(l k v):(sw l k v).length<=l.length+1:=by
 unfold sw;split;.rw[af];exact cD _
 .rw[aS];exact aI _
theorem Bp{k v w:Int}(h:pS l k=ac w):(sw l k v).length=l.length:=by
 unfold sw;have:(l.any fun kv=>kv.1=k)=ai:=by unfold pS at h;refine ar (aD.mp h) fun p hp zz=>?_;rw[dA];exact bq p (yQ hp) (by simpa using Le hp)
 rw[if_pos this,af]
theorem wz(l):(rJ l).length=l.length:=af ..
noncomputable def Av:List bk->wV->wV|[],c=>c|s::r,c=>Av r (sw c s.n (if s.page then 1 else 0))
theorem Fp{s r c}:Av (s::r) c=(Av r (sw c s.n (if s.page then 1 else 0))):=rfl
noncomputable def Cj:List (Int×Int)->wV->Option wV|[],c=>ac c|a::r,c=>match pS c a.1 with|none=>aq|some v=>Cj r (sw c a.1 (v+1))
noncomputable def uh:List bk->wV->Option wV|[],c=>ac c|s::r,c=>if s.page then(Cj s.above c).bind fun c'=>uh r c' else uh r c
theorem Fo{s r c}:uh (s::r) c=(if s.page then(Cj s.above c).bind fun c'=>uh r c' else uh r c):=rfl
noncomputable def fU(k:List bk):Option wV:=uh k (Av k [])
theorem m4{l:List α}{x:α}(h:l[i]?=ac x):l.drop i=x::l.drop (i+1):=by obtain⟨hi,rfl⟩:=cq.mp h;exact yR hi
theorem Ve{s:bk}(h:uh (s::r) c=ac res):(s.page=ak->uh r c=ac res)/\(s.page=ai->∃c',Cj s.above c=ac c'/\uh r c'=ac res):=⟨fun e=>(if_neg (by rw[e];decide)).symm.trans h,fun e=>cC.mp ((if_pos e).symm.trans h)⟩
theorem Vd{a:Int×Int}(h:Cj (a::r) c=ac res):∃v,pS c a.1=ac v/\Cj r (sw c a.1 (v+1))=ac res:=by have h:(match pS c a.1 with|none=>aq|some v=>Cj r (sw c a.1 (v+1)))=ac res:=h;cases e:pS c a.1 with|none=>rw[e] at h;injection h|some v=>rw[e] at h;exact bq v rfl h
noncomputable def M5(k:List bk)(a:aW):wV×DV×DV->aP|(_,x1,x2)=>[(aa "found",.lst (k.map bk.d)),(aa "counts",.ptr a),(aa "spot",x1),(aa "node",x2)]
noncomputable def M6(a:aW):wV×DV×DV->Mu|(c,_,_)=>[(a,.idic (rJ c))]
section
variable (g : dN G)
include g
theorem oq(k)(hk9:k.length<=900)(res)(hr:fU k=ac res):iz G 1 (.ref 512) [.lst (k.map bk.d)] [] (fun d Z'=>d=.idic (rJ res)/\Z'=[]):=by
 refine eA (ps:=[aa "found"]) (rest:=[aa "counts",aa "spot",aa "node"]) g rfl rfl rfl rfl rfl rfl (gC fun zz=>rfl) rfl .nil (by kernel_rfl) fun B Q W hk hh hm hQ=>?_;walk_at "w";refine oR (K:=Int) W.O fun a=>?_;walk_at "w";refine nj (ρf:=M5 k a) (Zf:=M6 a) W (cA W.O) (fun i s=>Av (k.drop i) s.1=Av k []/\s.1.length<=i/\i<=k.length) ([],_,_) (jT rfl (a7 _) (a7 _)) rfl rfl ?_ ?_
 .intro B' P R i d s hd
  refine ar (dM hd) fun x z1 hx=>?_;subst z1;revert s;refine to fun c x1 x2 hI W' zz hk' hh' zz hP hR=>?_;have hI1:=m4 hx▸hI.1;have hl:c.length<=1000000:=ae hI.2.1 (ae hI.2.2 (ae hk9 (by decide)));have go:∀v:Int,(if x.page then 1 else 0)=v->P (M5 k a (sw c x.n v,x.d,x2)) (M6 a (sw c x.n v,x.d,x2)):=fun v e=>hP _ (jT (by subst e;exact hI1) (ae (IW _ _ _) (b6 hI.2.1)) (kM hx));walk_at "w";cases hp:x.page with|true=>walk_at "w";refine pj (zr _ _ _) .head (by rw[wz];exact hl) ?_;walk_at "w";exact go 1 (if_pos hp)|false=>walk_at "w";refine pj (zr _ _ _) .head (by rw[wz];exact hl) ?_;walk_at "w";exact go 0 (if_neg (by rw[hp];decide))
 .refine to fun c x1 x2 hI=>?_
  have e:c=Av k []:=by have:=hI.1;rw[eI (by rw[af];exact aI _)] at this;exact this
  have hl:c.length<=900:=ae hI.2.1 (by rw[af];exact hk9);walk_at "w";refine nj (ρf:=M5 k a) (Zf:=M6 a) W (cA W.O) (fun i s=>uh (k.drop i) s.1=ac res/\s.1.length<=900) (c,_,_) ⟨by rw[e];exact hr,hl⟩ rfl rfl ?_ ?_
  .intro B' P R i d s hd
   refine ar (dM hd) fun x z2 hx=>?_;subst z2;revert s;refine to fun c x1 x2 hI W' zz hk' hh' zz hP hR=>?_;refine aZ (Ve (m4 hx▸hI.1)) fun h1 h2=>?_;walk_at "w";cases hp:x.page with|false=>walk_at "w";exact hP (c,_,_) ⟨h1 hp,hI.2⟩|true=>
    refine ar (h2 hp) fun c' h3 h4=>?_;walk_at "w";refine nj (ρf:=fun s=>M5 k a (s.1,x.d,s.2.2)) (Zf:=M6 a) W' (qB W'.O (hh'.trans hh)) (fun j s=>Cj (x.above.drop j) s.1=ac c'/\s.1.length<=900) (c,x1,_) ⟨h3,hI.2⟩ rfl rfl ?_ ?_
    .intro B2 P2 R2 j d s hd
     refine ar (dM hd) fun y z3 hy=>?_;subst z3;revert s;refine to fun c1 y1 y2 hI2 W2 zz zz zz zz hP2 hR2=>?_;refine ar (Vd (m4 hy▸hI2.1)) fun v hv h5=>?_;walk_at "w";refine cw (K:=Int) (l:=rJ c1) (x:=.int v) (.inr (bq a rfl (.head _))) (by rw[zJ,hv];rfl) ?_ (fun zz zz=>rfl);walk_at "w";refine pj (zr _ _ _) .head (by rw[wz];exact ae hI2.2 (by decide)) ?_;walk_at "w";exact hP2 (_,y1,_) ⟨h5,by rw[Bp hv];exact hI2.2⟩
    .refine to fun c1 y1 y2 hI2=>?_
     have e:c1=c':=by have:=hI2.1;rw[eI (by rw[iU,af];exact aI _)] at this;exact aB this
     walk_at "w";exact hP (c1,_,y2) ⟨by rw[e];exact h4,hI2.2⟩
  .refine to fun c x1 x2 hI=>?_
   have e:c=res:=by have:=hI.1;rw[eI (by rw[af];exact aI _)] at this;exact aB this
   walk_at "w";exact hQ _ _ _ (Cd rfl rfl ⟨by rw[e],rfl⟩)
end
noncomputable def iV(lk:Lk)(s:bk):Option Bool:=match s.above.reverse with|[]=>(cc lk 30 (dD s.head (aa "Parent"))).map PV.isNull|a::_=>match dD s.head (aa "Parent") with|.ref n k=>ac (n==a.1&&k==a.2)|_=>ac ak
noncomputable def lE(lk:Lk)(s:bk)(c:Int):Option Bool:=(cc lk 30 (dD s.head (aa "Count"))).map fun v=>s.page||(match v with|.int i=>decide (0<=i)&&i==c|_=>ak)
noncomputable abbrev eM:=List (Int×aV)
noncomputable def gA(p:Int×aV):DV:=.tup [.int p.1,.str p.2]
noncomputable def fD(lk:Lk)(c:wV):List bk->eM->Option eM|[],f=>ac f|s::r,f=>match iV lk s with|none=>aq|some p=>match pS c s.n with|none=>aq|some n=>match lE lk s n with|none=>aq|some q=>fD lk c r (((f++(if p then[] else[(s.n,aa "Parent")]))++(if q then[] else[(s.n,aa "Count")]))++(if s.page&&(fN s.inh (aa "MediaBox")).isNone then[(s.n,aa "MediaBox")] else[]))
theorem B7(lk c){s r f}:fD lk c (s::r) f=(match iV lk s with|none=>aq|some p=>match pS c s.n with|none=>aq|some n=>match lE lk s n with|none=>aq|some q=>fD lk c r (((f++(if p then[] else[(s.n,aa "Parent")]))++(if q then[] else[(s.n,aa "Count")]))++(if s.page&&(fN s.inh (aa "MediaBox")).isNone then[(s.n,aa "MediaBox")] else[]))):=rfl
noncomputable def faultsP(lk:Lk)(tr:List (aV×PV)):Option (Option eM):=match cE lk tr with|none=>aq|some aq=>ac aq|some (ac k)=>match fU k with|none=>aq|some c=>(fD lk c k []).map ac
noncomputable def sP(b:Bool)(y:Int×aV)(f:eM):eM:=bif b then f++[y] else f
theorem rF(b y f):(sP b y f).length<=f.length+1:=by cases b with|true=>exact bv (by show(f++[y]).length=_;rw[aS,bQ])|false=>exact cD _
theorem Fb(p y f):f++(if p then[] else[y])=sP (!p) y f:=by cases p with|true=>exact bR _|false=>rfl
theorem wf(p y f):f++(if p then[y] else[])=sP p y f:=by cases p with|true=>rfl|false=>exact bR _
theorem MC{s:bk}(h:fD lk c (s::r) f=ac f'):∃p n q,iV lk s=ac p/\pS c s.n=ac n/\lE lk s n=ac q/\fD lk c r (sP (s.page&&(fN s.inh (aa "MediaBox")).isNone) (s.n,aa "MediaBox") (sP (!q) (s.n,aa "Count") (sP (!p) (s.n,aa "Parent") f)))=ac f':=by(first|rw[faultsGo_e0] at h|rw[B7] at h|unfold fD at h);cases h1:iV lk s with|none=>rw[h1] at h;injection h|some p=>rw[h1] at h;dsimp only at h;cases h2:pS c s.n with|none=>rw[h2] at h;injection h|some n=>rw[h2] at h;dsimp only at h;cases h3:lE lk s n with|none=>rw[h3] at h;injection h|some q=>rw[h3] at h;dsimp only at h;rw[Fb,Fb,wf] at h;exact eB p n q rfl rfl h3 h
inductive Zy (lk:Lk) (s:bk) (res:Bool):Prop
 |root (e:s.above=[]) (v:PV) (h:cc lk 30 (dD s.head (aa "Parent"))=ac v) (er:v.isNull=res)
 |deep (as:List (Int×Int)) (a:Int×Int) (e:s.above=as++[a]) (no:bw (dD s.head (aa "Parent")).tg=ak->res=ak) (yes:∀n k,dD s.head (aa "Parent")=.ref n k->(n==a.1&&k==a.2)=res)
theorem Xs{s:bk}(h:iV lk s=ac res):Zy lk s res:=by
 unfold iV at h;cases hr:s.above.reverse with
 |nil=>rw[hr] at h;refine ar (aD.mp h) fun v hv er=>?_;exact .root (AY.mp hr) v hv er
 |cons a as=>
  rw[hr] at h;have e:s.above=as.reverse++[a]:=by rw[<-Er s.above,hr,Ie]
  dsimp only at h;refine .deep as.reverse a e (fun hq=>?_) fun n k hp=>?_;.cases hp:dD s.head (aa "Parent")<;>rw[hp] at h hq<;>first|exact(aB h).symm|injection hq
  .rw[hp] at h;exact aB h
theorem Pe{s:bk}{c:Int}(h:lE lk s c=ac res):∃v,cc lk 30 (dD s.head (aa "Count"))=ac v/\(s.page=ai->res=ai)/\(s.page=ak->(fV v=ak->res=ak)/\(fV v=ai->∃i,v=.int i/\(i==c)=res)):=by
 refine ar (aD.mp h) fun v hv er=>?_;refine cB v hv (fun hp=>?_) (fun hp=>?_);.rw[hp] at er;exact er.symm
 .rw[hp,AR] at er
  cases v with
  |int i=>
   refine⟨fun hc=>?_,fun hc=>(bq i rfl ?_)⟩
   .have hc:decide (0<=i)=ak:=hc
    dsimp only at er;rw[hc] at er;exact er.symm
   .have hc:decide (0<=i)=ai:=hc
    dsimp only at er;rw[hc,Ov] at er;exact er
  |_=>exact⟨fun zz=>er.symm,fun hc=>(nomatch hc)⟩
theorem mQ(l):(iU l).isEmpty=l.isEmpty:=by cases l<;>rfl
theorem IU(as a):mz (-1) (iU (as++[a])).length=ac as.length:=by rw[iU,af,aS,bQ];unfold mz;simp;exact Yu
theorem Gm(as a):(iU (as++[a]))[as.length]?=ac (io a.1 a.2):=by rw[iU,aA,xK (by simp)];simp
theorem IX(n k a b):a8 (.tuple [.int n,.int k]) (.tuple [.int a,.int b])=(n==a&&k==b):=by simp[a8,f7]
section
variable (g : dN G) {t r : aW} {lk : Lk}
include g
theorem oo(hs:d6 lk tab)(sp)(hl:sp.above.length<=900)(res)(hr:iV lk sp=ac res):iz G 3 (.ref 519) [bg t r,sp.d] (bz t r tab tr) (fun d Z'=>d=.bool res/\Z'=bz t r tab tr):=by refine eA (ps:=[aa "shelf",aa "spot"]) (rest:=[aa "parent"]) g rfl rfl rfl rfl rfl rfl (jN fun zz zz=>rfl) rfl (.cons (cU g) (.cons (dZ g) .nil)) (by kernel_rfl) fun B Q W hk hh hm hQ=>?_;walk_at "w";refine iW (K:=aV) W (.inl rfl) ?_;walk_at "w";refine oU (K:=aV) (x:=(dD sp.head (aa "Parent")).d) (.inl rfl) (rp sp.head _) ?_;walk_at "w";cases Xs hr with|root e v hv er=>refine jC W (b:=ai) (by rw[mQ,e];rfl) ?_;walk_at "w";refine aw W.O (kE g hs _ v hv) (.inr hh) (.take (.take .nil)) (cO hk rfl) ?_;walk_at "w";refine g0 (fC v) ?_;walk_at "w";exact hQ _ _ _ (cT rfl ⟨by rw[er],rfl⟩)|deep as a e no yes=>refine jC W (b:=ak) (by rw[mQ,e];simp) ?_;walk_at "w";cases hq:bw (dD sp.head (aa "Parent")).tg with|false=>refine xu W (PV.tgd _) hq ?_;walk_at "w";exact hQ _ _ _ (cT rfl ⟨by rw[no hq],rfl⟩)|true=>refine xu W (PV.tgd _) hq ?_;refine g7 (vi hq) fun n k hp=>?_;have yes:=yes n k hp;generalize dD sp.head (aa "Parent")=pa at hp;subst hp;walk_at "w";refine aw W.O (kq g n k) (.inr hh) .nil (cO hk rfl) ?_;walk_at "w";refine ej (j:=as.length) (x:=io a.1 a.2) (by decide) (by decide) (by rw[e];exact IU as a) (by rw[e];exact Gm as a) ?_ (fun zz zz=>rfl);walk_at "w";refine aw W.O (kq g a.1 a.2) (.inr hh) .nil (cO hk rfl) ?_;walk_at "w";refine l6 W (x:=.tuple [.int n,.int k]) (y:=.tuple [.int a.1,.int a.2]) (.inl rfl) (.inl rfl) rfl rfl ((IX _ _ _ _).trans yes) ?_;walk_at "w";exact hQ _ _ _ (cT rfl ⟨rfl,rfl⟩)
theorem pY(hs:d6 lk tab)(sp c res)(hr:lE lk sp c=ac res):iz G 3 (.ref 526) [bg t r,sp.d,.int c] (bz t r tab tr) (fun d Z'=>d=.bool res/\Z'=bz t r tab tr):=by
 refine eA (ps:=[aa "shelf",aa "spot",aa "count"]) (rest:=[aa "value"]) g rfl rfl rfl rfl rfl rfl (rM fun zz zz zz=>rfl) rfl (.cons (tD g) .nil) (by kernel_rfl) fun B Q W hk hh hm hQ=>?_;refine bp (Pe hr) fun v hv h1 h2=>?_;walk_at "w";refine aw W.O (iR g hs (.inl rfl) (aa "Count") v hv) (.inr hh) (.take (.take .nil)) (cO hk rfl) ?_;walk_at "w";cases hp:sp.page with|true=>walk_at "w";exact hQ _ _ _ (cT rfl ⟨by rw[h1 hp],rfl⟩)|false=>
  refine aZ (h2 hp) fun h3 h4=>?_;walk_at "w";refine aw W.O (pZ g v) (.inr hh) .nil (cO hk rfl) ?_;cases hc:fV v with
  |true=>refine ar (h4 hc) fun i e er=>?_;subst e;walk_at "w";exact hQ _ _ _ (cT rfl ⟨congrArg DV.bool er,rfl⟩)
  |false=>walk_at "w";exact hQ _ _ _ (cT rfl ⟨by rw[h3 hc],rfl⟩)
end
theorem mO:∀(n:Nat)stk found seen k,iP lk n stk found seen=ac (ac k)->(∀s∈found,s.above.length<=900)->∀s∈k,s.above.length<=900
 |0,_,_,_,_,h,_=>by injection h
 |n+1,[],found,_,k,h,hf=>by(injection h with h;injection h with h;subst h);exact hf
 |n+1,(v,a,i)::rest,found,seen,k,h,hf=>by
  refine aY (C7 h) fun m S=>?_;cases m with|none=>cases S.no rfl|some s=>
   have hf':∀x∈found++[s],x.above.length<=900:=fun x hx=>(aJ.mp hx).elim (hf x) fun hx=>by rw[ap.mp hx,Dr S.met];exact S.la
   cases hp:s.page with|true=>exact mO n _ _ _ _ (S.page s rfl hp) hf'|false=>refine bp (S.node s rfl hp) fun ks zz zz h=>?_;exact mO n _ _ _ _ h hf'
theorem nB(h:cE lk tr=ac (ac k)):∀s∈k,s.above.length<=900:=by refine ar (cC.mp h) ?_;clear h;intro rl zz h;exact mO 100 _ _ _ _ h (fun zz h=>nomatch h)
theorem Eg(h:faultsP lk tr=ac res):∃m,cE lk tr=ac m/\(m=aq->res=aq)/\∀k,m=ac k->∃c f,fU k=ac c/\fD lk c k []=ac f/\res=ac f:=by
 unfold faultsP at h;cases hm:cE lk tr with|none=>rw[hm] at h;injection h|some m=>
  rw[hm] at h;refine(cB m rfl (fun e=>?_) (fun k e=>?_))<;>subst e;.exact(aB h).symm
  .dsimp only at h
   cases hc:fU k with|none=>rw[hc] at h;injection h|some c=>rw[hc] at h;refine ar (aD.mp h) fun f hf e=>?_;exact bO c f rfl hf e.symm
theorem sO(f n y):f.map gA++[.tup [.int n,.str y]]=(f++[(n,y)]).map gA:=by rw[aA];rfl
noncomputable def Zg(t r fa:aW)(k:List bk)(c:wV):eM×DV×DV->aP|(_,x1,x2)=>[(aa "shelf",bg t r),(aa "found",.lst (k.map bk.d)),(aa "counts",.idic (rJ c)),(aa "faults",.ptr fa),(aa "spot",x1),(aa "number",x2)]
noncomputable def QD(t r fa:aW)(tab:dG)(tr:List (aV×PV)):eM×DV×DV->Mu|(f,_,_)=>(fa,.lst (f.map gA))::bz t r tab tr
section
variable (g : dN G) {t r : aW} {lk : Lk}
include g
theorem jp(hs:d6 lk tab)(res)(hr:faultsP lk tr=ac res):mx G 6 (.ref 533) [bg t r] (bz t r tab tr) res (fun f=>.lst (f.map gA)):=by
 refine bp (Eg hr) fun m hsp h1 h2=>?_;refine kh (ps:=[aa "shelf"]) (rest:=[aa "found",aa "counts",aa "faults",aa "spot",aa "number"]) g rfl rfl rfl rfl rfl rfl (gC fun zz=>rfl) rfl (.cons (vW g) (.cons (ry g) (.cons (rx g) (.cons (lx g) .nil)))) (by kernel_rfl) fun B E Q W w hk hh hm hE hQ=>?_;walk_at "w";refine jA W w hm (qq g hs m hsp) hh (.take (.take .nil)) (cO hk rfl) (fun p hp=>hp) (fun h e s x=>hE e s ⟨(by rw[h1 h];intro h;injection h),.fly x⟩) fun k e=>?_;refine aM (h2 k e) fun c f hc hf er=>?_;subst e;have hkl:=fk hsp;walk_at "w";refine aw W.O (oq g k (ae hkl (by decide)) c hc) (.inr hh) .nil (cO hk rfl) ?_;walk_at "w";refine pG W.O (ii W ?_);walk_at "w";refine⟨by decide,fun fa=>?_⟩;walk_at "w";refine nj (ρf:=Zg t r fa k c) (Zf:=QD t r fa tab tr) W (cA W.O) (fun i s=>fD lk c (k.drop i) s.1=ac f/\s.1.length<=3*i/\i<=k.length) ([],_,_) (jT hf (a7 _) (a7 _)) rfl rfl ?_ ?_
 .intro B' P R i d s hd
  refine ar (dM hd) fun x z1 hx=>?_;subst z1;have hxm:x∈k:=cF hx;have hik:=kM hx;revert s;refine to fun f1 x1 x2 hI W' zz hk' hh' zz hP hR=>?_;refine eD (MC (m4 hx▸hI.1)) fun p n q e1 e2 e3 hgo=>?_;have hh2:=hh'.trans hh;have hk2:=hk'.trans hk;have l1:f1.length<=300:=by have:=hI.2.1;dsimp only at this;exact Yt hkl hik this
  have m1:=hI.2.1;clear hI;dsimp only at m1;walk_at "w";refine aw W'.O (oo g hs x (nB hsp x hxm) p e1) (.inr hh2) (.skip (.take (.take .nil))) (cO hk2 rfl) ?_;walk_at "w";refine mw (c:=!p) (fun f=>QD t r fa tab tr (f,.none,.none)) f1 (f1++[(x.n,aa "Parent")]) ?_ fun Q' zz hz=>?_;rotate_left
  .walk_at "w"
   refine q8 W' (.inr (bq fa rfl (.head _))) ?_;walk_at "w";refine mv (sO f1 _ _) .head (by rw[af];exact ae l1 (by decide)) ?_;walk_at "w";exact hz
  intro f2 e4;have l2:f2.length<=f1.length+1:=by rw[e4];exact rF _ _ _
  walk_at "w";refine cw (K:=Int) (l:=rJ c) (x:=.int n) (.inl rfl) (by rw[zJ,e2];rfl) ?_ (fun zz zz=>rfl);walk_at "w";refine aw W'.O (pY g hs x n q e3) (.inr hh2) (.skip (.take (.take .nil))) (cO hk2 rfl) ?_;walk_at "w";refine mw (c:=!q) (fun f=>QD t r fa tab tr (f,.none,.none)) f2 (f2++[(x.n,aa "Count")]) ?_ fun Q' zz hz=>?_;rotate_left
  .walk_at "w"
   refine q8 W' (.inr (bq fa rfl (.head _))) ?_;walk_at "w";refine mv (sO f2 _ _) .head (by rw[af];exact Ys l1 l2) ?_;walk_at "w";exact hz
  intro f3 e5;have l3:f3.length<=f2.length+1:=by rw[e5];exact rF _ _ _
  have fin:∀b,(x.page&&(fN x.inh (aa "MediaBox")).isNone)=b->fD lk c (k.drop (i+1)) (sP b (x.n,aa "MediaBox") f3)=ac f/\(sP b (x.n,aa "MediaBox") f3).length<=3*(i+1)/\i+1<=k.length:=fun b eb=>(jT (by rw[<-eb,e5,e4];exact hgo) (by have:=rF b (x.n,aa "MediaBox") f3;exact Yr m1 l2 l3 this) hik)
  walk_at "w";cases hp:x.page with|false=>walk_at "w";exact hP (f3,_,_) (fin ak (by rw[hp];rfl))|true=>walk_at "w";cases hmb:fN x.inh (aa "MediaBox") with|some v=>refine pt (K:=aV) (l:=PV.dS x.inh) (b:=ak) (.inl rfl) (by rw[gy,hmb];rfl) ?_;walk_at "w";exact hP (f3,_,_) (fin ak (by rw[hp,hmb];rfl))|none=>refine pt (K:=aV) (l:=PV.dS x.inh) (b:=ai) (.inl rfl) (by rw[gy,hmb];rfl) ?_;walk_at "w";refine q8 W' (.inr (bq fa rfl (.head _))) ?_;walk_at "w";refine mv (sO f3 _ _) .head (by rw[af];exact Yq l1 l2 l3) ?_;walk_at "w";exact hP (f3++[(x.n,aa "MediaBox")],_,_) (fin ai (by rw[hp,hmb];rfl))
 .refine to fun f1 x1 x2 hI=>?_
  have e:f1=f:=by have:=hI.1;rw[eI (by rw[af];exact aI _)] at this;exact aB this
  walk_at "w";refine hQ _ _ _ (Cd rfl rfl ?_);exact nH (by rw[er];rfl) _ er (by rw[e]) rfl
end
noncomputable def cR(tab:dG)(k g:Int)(v:PV):dG:=if tab.any (fun r=>r.1=k) then tab.map (fun r=>if r.1=k then(r.1,g,v) else r) else tab++[(k,g,v)]
theorem qZ(tab k g v):jq tab.d k (.tup [.int g,v.d])=(cR tab k g v).d:=by
 unfold jq cR dG.d;rw[fm];have e:(tab.any ((fun kv:Int×DV=>decide (kv.1=k))∘LL))=tab.any fun r=>r.1=k:=rfl;rw[e];split
 .rw[bS,bS]
  refine bM fun p zz=>?_;simp only[ey,LL];by_cases hp:p.1=k<;>simp[hp]
 .rw[aA];rfl
theorem kH(tab k g v):(cR tab k g v).length<=tab.length+1:=by
 unfold cR;split;.rw[af];exact cD _
 .rw[aS];exact aI _
theorem mS(tab k g v j):(cR tab k g v).lk j=if j=k then ac (g,v) else tab.lk j:=by
 unfold cR dG.lk;by_cases h:(tab.any fun r=>decide (r.1=k))=ai
 .rw[if_pos h]
  induction tab with|nil=>injection h|cons p r ih=>
   rw[au,bh,bh];by_cases hp:p.1=k
   .rw[if_pos hp]
    by_cases hj:j=k;.subst hj;simp[hp]
    .have hne:¬p.1=j:=fun e=>hj (e▸hp)
     rw[if_neg hj];simp only[hne,decide_false];have:=fun h'=>ih h';by_cases h':(r.any fun r=>decide (r.1=k))=ai;.have:=ih h';rw[if_neg hj] at this;exact this
     .have:(kU (fun r=>if r.1=k then(r.1,g,v) else r) r)=r:=by
       conv=>rhs;rw[<-lP r]
       refine bM fun x hx=>?_;have:¬x.1=k:=fun e=>h' (dA.mpr (bq x hx (by simpa using e)));rw[if_neg this];rfl
      rw[this]
   .rw[if_neg hp]
    have h':(r.any fun r=>decide (r.1=k))=ai:=by rw[dF,decide_eq_false hp,AR] at h;exact h
    by_cases hpj:p.1=j
    .have hj:¬j=k:=fun e=>hp (hpj.trans e)
     simp[hpj,hj]
    .simp only[hpj,decide_false];exact ih h'
 .rw[if_neg h]
  have hn:∀x∈tab,¬x.1=k:=fun x hx e=>h (dA.mpr (bq x hx (by simpa using e)));rw[te];by_cases hj:j=k
  .subst hj
   have:tab.find? (fun kv=>decide (kv.1=j))=aq:=kX.mpr fun x hx=>by simpa using hn x hx
   rw[this];simp
  .rw[if_neg hj]
   have:List.find? (fun kv:Int×Int×PV=>decide (kv.1=j)) [(k,g,v)]=aq:=by simp[o9 hj]
   rw[this,Option.or_none]
noncomputable def sv(l:List (aV×PV))(k:aV):List (aV×PV):=l.filter fun kv=>decide (kv.1≠k)
theorem IS(k):∀l,xj (PV.dS l) k=PV.dS (sv l k):=by
 intro p0_;induction p0_ with|nil=>exact rfl|cons p_ r ih=>
  rcases p_ with⟨x,v⟩
  have ih:=ih;unfold xj sv at *;rw[PV.dS,d4,d4];try dsimp only
  by_cases h:x≠k;.rw[decide_eq_true h];simp only[if_true];rw[ih,PV.dS]
  .rw[decide_eq_false h];simp only[rW,if_false];exact ih
theorem IT(l k):(sv l k).length<=l.length:=dW _ _
noncomputable def eX(ch:List (aV×PV)):List aV->List (aV×PV)->Option (List (aV×PV))|[],f=>ac f|k::r,f=>match fN ch k with|none=>aq|some v=>if v.isNull then eX ch r (sv f k) else eX ch r (eJ f k v)
theorem A3(ch){k r f}:eX ch (k::r) f=(match fN ch k with|none=>aq|some v=>if v.isNull then eX ch r (sv f k) else eX ch r (eJ f k v)):=rfl
noncomputable def gI(head ch:List (aV×PV)):Option (List (aV×PV)):=eX ch (ch.map (·.1)) head
theorem M3(l):(PV.dS l).map (fun p=>DV.str p.1)=(l.map (·.1)).map DV.str:=by rw[PV.dS_map,bS,bS];rfl
theorem R4(h:eX ch (x::r) f=ac res):∃v,fN ch x=ac v/\(v.isNull=ai->eX ch r (sv f x)=ac res)/\(v.isNull=ak->eX ch r (eJ f x v)=ac res):=by have h:(match fN ch x with|none=>aq|some v=>if v.isNull then eX ch r (sv f x) else eX ch r (eJ f x v))=ac res:=h;cases e:fN ch x with|none=>rw[e] at h;injection h|some v=>rw[e] at h;exact cB v rfl (fun hn=>(if_pos hn).symm.trans h) (fun hn=>(if_neg (by rw[hn];decide)).symm.trans h)
noncomputable def Xi(head ch:List (aV×PV))(a:aW):List (aV×PV)×DV->aP|(_,key)=>[(aa "head",.sdic (PV.dS head)),(aa "changes",.sdic (PV.dS ch)),(aa "found",.ptr a),(aa "key",key)]
noncomputable def Xj(a:aW):List (aV×PV)×DV->Mu|(f,_)=>[(a,.sdic (PV.dS f))]
section
variable (g : dN G) {t r : aW}
include g
theorem jn(k gen v)(hv:v≠.any)(hl:rows.length<=2000):iz G 1 (.ref 332) [bg t r,.int k,.int gen,v] [(t,.idic rows),(r,mo)] (fun d Z'=>d=.none/\Z'=[(t,.idic (jq rows k (.tup [.int gen,v]))),(r,mo)]):=by refine eA (ps:=[aa "self",aa "number",aa "generation",aa "value"]) (rest:=[]) g rfl rfl rfl rfl rfl rfl (N4 fun zz zz zz zz=>rfl) rfl .nil (by kernel_rfl) fun B Q W hk hh hm hQ=>?_;walk_at "w";refine IF .head (ae hl (by decide)) ?_;walk_at "w";exact hQ _ _ _ (gN rfl ⟨rfl,rfl⟩)
theorem Ge(k gen v)(hv:v≠.any)(hl:rows.length<=2000):iz G 2 (.ref 547) [bg t r,io k gen,v] [(t,.idic rows),(r,mo)] (fun d Z'=>d=.none/\Z'=[(t,.idic (jq rows k (.tup [.int gen,v]))),(r,mo)]):=by refine eA (ps:=[aa "shelf",aa "reference",aa "head"]) (rest:=[]) g rfl rfl rfl rfl rfl rfl (rM fun zz zz zz=>rfl) rfl .nil (by kernel_rfl) fun B Q W hk hh hm hQ=>?_;walk_at "w";refine aw W.O (jn g k gen v hv hl) (.inr hh) (.take (.take .nil)) (cO hk rfl) ?_;walk_at "w";exact hQ _ _ _ (gN rfl ⟨rfl,rfl⟩)
theorem oh(head ch)(hl:head.length<=900)(hc:ch.length<=900)(res)(hr:gI head ch=ac res):iz G 1 (.ref 420) [.sdic (PV.dS head),.sdic (PV.dS ch)] [] (fun d Z'=>d=.sdic (PV.dS res)/\Z'=[]):=by
 refine eA (ps:=[aa "head",aa "changes"]) (rest:=[aa "found",aa "key"]) g rfl rfl rfl rfl rfl rfl (jN fun zz zz=>rfl) rfl (.cons (jD g) .nil) (by kernel_rfl) fun B Q W hk hh hm hQ=>?_;walk_at "w";refine lJ (K:=aV) W.O (.inl rfl) (by rw[jZ];exact ae hl (by decide)) fun a=>?_;walk_at "w";refine nj (ρf:=Xi head ch a) (Zf:=Xj a) W (yh W.O hh) (fun j s=>eX ch ((ch.map (·.1)).drop j) s.1=ac res/\s.1.length<=head.length+j) (head,_) ⟨hr,aI _⟩ rfl rfl ?_ ?_
 .intro B' P R j d s hd
  have hj:j<ch.length:=by have:=kM hd;rwa[af,jZ] at this
  rw[M3] at hd;refine ar (yZ hd) fun x z1 hx=>?_;subst z1;revert s;refine j5 fun f key hI W' zz hk' hh' zz hP hR=>?_;refine bp (R4 (hx▸hI.1)) fun vx hlx h1 h2=>?_;have hf:(PV.dS f).length<=1000000:=by rw[jZ];have:=hI.2;dsimp only at this;exact Yp hl hc hj this
  walk_at "w";refine cw (K:=aV) (l:=PV.dS ch) (x:=vx.d) (.inl rfl) (by rw[gy,hlx];rfl) ?_ (fun zz zz=>rfl);walk_at "w";refine g0 (fC vx) ?_;cases hn:vx.isNull with|true=>walk_at "w";refine qy (K:=aV) (l:=PV.dS f) (.inr (bq a rfl (.head _))) Ru Rt (ii W' ?_);walk_at "w";refine QQ (K:=aV) (IS x f) .head hf ?_;walk_at "w";exact hP (sv f x,_) ⟨h1 hn,ae (IT f x) (ae hI.2 (cD _))⟩|false=>walk_at "w";refine cw (K:=aV) (l:=PV.dS ch) (x:=vx.d) (.inl rfl) (by rw[gy,hlx];rfl) ?_ (fun zz zz=>rfl);walk_at "w";refine iO (mR x vx f) .head hf ?_;walk_at "w";exact hP (eJ f x vx,_) ⟨h2 hn,ae (l5 f x vx) (b6 hI.2)⟩
 .refine j5 fun f key hI=>?_
  have e:f=res:=by have:=hI.1;rw[eI (by rw[af,af,jZ];exact aI _)] at this;exact aB this
  walk_at "w";exact hQ _ _ _ (Cd rfl rfl ⟨by rw[e],rfl⟩)
end
noncomputable abbrev Wr:=List (Int×Int×PV)
noncomputable def bW(tab:dG)(ws:Wr):dG:=ws.foldl (fun t w=>cR t w.1 w.2.1 w.2.2) tab
noncomputable def j4(lk:Lk)(k g:Int)(v:PV):Lk:=fun j=>if j=k then ac (ac (g,v)) else lk j
theorem xQ(h:d6 lk tab)(k g v):d6 (j4 lk k g v) (cR tab k g v):=by
 intro j r e;unfold j4 at e;rw[mS];by_cases hj:j=k;.rw[if_pos hj] at e ⊢;exact aB e
 .rw[if_neg hj] at e ⊢;exact h j r e
theorem vo(tab ws k g v):bW tab (ws++[(k,g,v)])=cR (bW tab ws) k g v:=by unfold bW;rw[lQ];rfl
theorem l4(tab):∀ws,(bW tab ws).length<=tab.length+ws.length:=by intro ws;induction ws generalizing tab with|nil=>exact aI _|cons w r ih=>show(bW (cR tab w.1 w.2.1 w.2.2) r).length<=_;exact Yo (ih _) (kH tab w.1 w.2.1 w.2.2)
noncomputable def p8(l:List (Int×Int)):PV:=match l.reverse with|[]=>.null|a::_=>.ref a.1 a.2
noncomputable def fW(s:bk)(p q:Bool)(n:Int):List (aV×PV):=(if p then[] else[(aa "Parent",p8 s.above)])++(if q then[] else[(aa "Count",.int n)])
noncomputable def dQ(c:wV):Lk->List bk->Wr->Option Wr|_,[],ws=>ac ws|lk,s::r,ws=>match iV lk s with|none=>aq|some p=>match pS c s.n with|none=>aq|some n=>match lE lk s n with|none=>aq|some q=>match fW s p q n with|[]=>dQ c lk r ws|ch=>if 900<s.head.length then aq else match gI s.head ch with|none=>aq|some h=>dQ c (j4 lk s.n s.k (.dict h)) r (ws++[(s.n,s.k,.dict h)])
theorem ow(c){q1_ ws}:dQ c q1_ [] ws=(ac ws):=rfl
theorem ou(c){lk s r ws}:dQ c lk (s::r) ws=(match iV lk s with|none=>aq|some p=>match pS c s.n with|none=>aq|some n=>match lE lk s n with|none=>aq|some q=>match fW s p q n with|[]=>dQ c lk r ws|ch=>if 900<s.head.length then aq else match gI s.head ch with|none=>aq|some h=>dQ c (j4 lk s.n s.k (.dict h)) r (ws++[(s.n,s.k,.dict h)])):=rfl
noncomputable def iS(lk:Lk)(tr:List (aV×PV)):Option (Option Wr):=match cE lk tr with|none=>aq|some aq=>ac aq|some (ac k)=>match fU k with|none=>aq|some c=>(dQ c lk k []).map ac
theorem GU(h:l.isEmpty=ai):p8 l=.null:=by cases l<;>first|rfl|injection h
theorem Ja(h:l.isEmpty=ak):∃a b,p8 l=.ref a b/\(iU l)[l.length-1]?=ac (io a b)/\mz (-1) (iU l).length=ac (l.length-1):=by
 have hp:0<l.length:=by cases l<;>simp_all
 obtain⟨a,as,hra⟩:∃a as,l.reverse=a::as:=by cases e:l.reverse with|nil=>rw[AY.mp e] at h;injection h|cons a as=>exact⟨a,as,rfl⟩
 have e:l=as.reverse++[a]:=by rw[<-Er l,hra,Ie]
 refine bO a.1 a.2 (by unfold p8;rw[hra]) ?_ ?_
 .rw[iU,e,aA,xK (by simp)]
  simp
 .rw[iU,af]
  unfold mz;simp;exact Yn hp
noncomputable def Kg(p:Bool)(v:PV):List (aV×PV):=if p then[] else[(aa "Parent",v)]
theorem M8(p v n):jq (PV.dS (Kg p v)) (aa "Count") (.int n)=PV.dS (Kg p v++[(aa "Count",.int n)]):=by
 have:eJ (Kg p v) (aa "Count") (.int n)=Kg p v++[(aa "Count",.int n)]:=by cases p with|true=>rfl|false=>unfold Kg eJ;simp only[rW,if_false];rw[if_neg];intro h;simp only[dF,List.any_nil,qR,decide_eq_true_eq] at h;exact absurd h (by decide +kernel)
 rw[<-this,<-mR,PV.d]
theorem LG{s:bk}(h:dQ c lk (s::r) ws=ac res):∃p n q,iV lk s=ac p/\pS c s.n=ac n/\lE lk s n=ac q/\(fW s p q n=[]->dQ c lk r ws=ac res)/\(fW s p q n≠[]->s.head.length<=900/\∃h,gI s.head (fW s p q n)=ac h/\dQ c (j4 lk s.n s.k (.dict h)) r (ws++[(s.n,s.k,.dict h)])=ac res):=by
 (first|rw[ow] at h|rw[ou] at h|unfold dQ at h);cases h1:iV lk s with|none=>rw[h1] at h;injection h|some p=>
  rw[h1] at h;dsimp only at h;cases h2:pS c s.n with|none=>rw[h2] at h;injection h|some n=>
   rw[h2] at h;dsimp only at h;cases h3:lE lk s n with|none=>rw[h3] at h;injection h|some q=>
    rw[h3] at h;dsimp only at h;refine c7 p n q rfl rfl h3 (fun e=>?_) (fun e=>?_);.rw[e] at h;exact h
    .cases hc:fW s p q n with
     |nil=>exact absurd hc e|cons c0 cr=>
      rw[hc] at h;by_cases hl:900<s.head.length;.injection (if_pos hl).symm.trans h
      .have h:=(if_neg hl).symm.trans h
       cases ht:gI s.head (c0::cr) with|none=>rw[ht] at h;injection h|some x=>rw[ht] at h;exact⟨b7 hl,x,rfl,h⟩
theorem Ef(h:iS lk tr=ac res):∃m,cE lk tr=ac m/\(m=aq->res=aq)/\∀k,m=ac k->∃c f,fU k=ac c/\dQ c lk k []=ac f/\res=ac f:=by
 unfold iS at h;cases hm:cE lk tr with|none=>rw[hm] at h;injection h|some m=>
  rw[hm] at h;refine(cB m rfl (fun e=>?_) (fun k e=>?_))<;>subst e;.exact(aB h).symm
  .dsimp only at h
   cases hc:fU k with|none=>rw[hc] at h;injection h|some c=>rw[hc] at h;refine ar (aD.mp h) fun f hf e=>?_;exact bO c f rfl hf e.symm
theorem QS(s p q n):(bif !q then Kg p (p8 s.above)++[(aa "Count",.int n)] else Kg p (p8 s.above))=fW s p q n:=by cases q with|true=>exact(bR _).symm|false=>rfl
theorem Vg(s p q n):(fW s p q n).length<=2:=by cases p<;>cases q<;>exact aj rfl
noncomputable def Xn(t r:aW)(k:List bk)(c:wV):Lk×Wr×DV×DV->aP|(_,_,x1,x2)=>[(aa "shelf",bg t r),(aa "found",.lst (k.map bk.d)),(aa "counts",.idic (rJ c)),(aa "spot",x1),(aa "changes",x2)]
noncomputable def Xo(t r:aW)(tab:dG)(tr:List (aV×PV)):Lk×Wr×DV×DV->Mu|(_,ws,_,_)=>bz t r (bW tab ws) tr
section
variable (g : dN G) {t r : aW} {lk : Lk}
include g
theorem om(hs:d6 lk tab)(hl:tab.length<=900)(res)(hr:iS lk tr=ac res):jg G 6 (.ref 540) [bg t r] (bz t r tab tr) (fun d Z'=>∃ws,d=.none/\res=ac ws/\Z'=bz t r (bW tab ws) tr) (res.isSome=ai):=by
 refine bp (Ef hr) fun m hsp h1 h2=>?_;refine kh (ps:=[aa "shelf"]) (rest:=[aa "found",aa "counts",aa "spot",aa "changes"]) g rfl rfl rfl rfl rfl rfl (gC fun zz=>rfl) rfl (.cons (vW g) (.cons (ry g) (.cons (rx g) (.cons (lx g) (.cons (Qy g) (.cons (sJ g) .nil)))))) (by kernel_rfl) fun B E Q W w hk hh hm hE hQ=>?_;walk_at "w";refine jA W w hm (qq g hs m hsp) hh (.take (.take .nil)) (cO hk rfl) (fun p hp=>hp) (fun h e s x=>hE e s ⟨(by rw[h1 h];intro h;injection h),.fly x⟩) fun k e=>?_;refine aM (h2 k e) fun c wres hc hf er=>?_;subst e;have hkl:=fk hsp;walk_at "w";refine aw W.O (oq g k (ae hkl (by decide)) c hc) (.inr hh) .nil (cO hk rfl) ?_;walk_at "w";refine Io [341] (ρf:=Xn t r k c) (Zf:=Xo t r tab tr) W (cA W.O) (fun i s=>d6 s.1 (bW tab s.2.1)/\dQ c s.1 (k.drop i) s.2.1=ac wres/\s.2.1.length<=i/\i<=k.length) (lk,[],_,_) (o7 hs hf (a7 _) (a7 _)) rfl rfl ?_ ?_
 .intro B' P R i d s hd
  refine ar (dM hd) fun x z1 hx=>?_;subst z1;have hxm:x∈k:=cF hx;have hik:=kM hx;revert s;refine Bq fun lk1 ws x1 x2 hI W' zz hk' hh' hm' hP hR=>?_;refine jY hI ?_;clear hI;intro hs1 hgo hlen zz;refine bU (LG (m4 hx▸hgo)) fun p n q e1 e2 e3 h4 h5=>?_;have hh2:=hh'.trans hh;have hk2:=hk'.trans hk;have htl:(bW tab ws).d.length<=2000:=by have:=l4 tab ws;rw[dG.d,af];dsimp only at hlen;exact Ym hl hkl hik hlen this
  clear hgo;walk_at "w";refine oR (K:=aV) W'.O fun ca=>?_;walk_at "w";refine aw W'.O (oo g hs1 x (nB hsp x hxm) p e1) (.inr hh2) (.skip (.take (.take .nil))) (cO hk2 rfl) ?_;walk_at "w";refine mw (c:=!p) (fun l=>(ca,.sdic (PV.dS l))::bz t r (bW tab ws) tr) [] [(aa "Parent",p8 x.above)] ?_ fun Q' zz hz=>?_;rotate_left
  .walk_at "w"
   cases hae:x.above.isEmpty with|true=>refine jC W' (b:=ai) (by rw[mQ,hae]) ?_;walk_at "w";refine iO (mR _ .null []) .head (a7 _) ?_;walk_at "w";rw[GU hae] at hz;exact hz|false=>refine aM (Ja hae) fun a1 a2 f1 f2 f3=>?_;refine jC W' (b:=ak) (by rw[mQ,hae]) ?_;walk_at "w";refine ej (by decide) (by decide) f3 f2 ?_ (fun zz zz=>rfl);walk_at "w";refine iO (mR _ (.ref a1 a2) []) .head (a7 _) ?_;walk_at "w";rw[f1] at hz;exact hz
  intro ch1 e6;have e6:ch1=Kg p (p8 x.above):=by rw[e6];cases p<;>rfl
  subst e6;walk_at "w";refine cw (K:=Int) (l:=rJ c) (x:=.int n) (.inl rfl) (by rw[zJ,e2];rfl) ?_ (fun zz zz=>rfl);walk_at "w";refine aw W'.O (pY g hs1 x n q e3) (.inr hh2) (.skip (.take (.take .nil))) (cO hk2 rfl) ?_;walk_at "w";refine mw (c:=!q) (fun l=>(ca,.sdic (PV.dS l))::bz t r (bW tab ws) tr) (Kg p (p8 x.above)) (Kg p (p8 x.above)++[(aa "Count",.int n)]) ?_ fun Q' zz hz=>?_;rotate_left
  .walk_at "w"
   refine cw (K:=Int) (l:=rJ c) (x:=.int n) (.inl rfl) (by rw[zJ,e2];rfl) ?_ (fun zz zz=>rfl);walk_at "w";refine iO (M8 _ _ _) .head (by rw[jZ];unfold Kg;cases p<;>exact aj rfl) ?_;walk_at "w";exact hz
  intro ch e7;obtain rfl:ch=fW x p q n:=e7.trans (QS x p q n);have hcl:=Vg x p q n;walk_at "w";refine jt (K:=aV) W'.O ?_;walk_at "w";generalize fW x p q n=ch at h4 h5 hcl ⊢;cases ch with|nil=>refine q5 (K:=aV) W' (l:=PV.dS []) (b:=ak) (.inr (bq ca rfl (.head _))) rfl ?_;walk_at "w";exact hP [_] (lk1,ws,_,_) (o7 hs1 (h4 rfl) (mA hlen) hik)|cons ch0 chr=>refine q5 (K:=aV) W' (l:=PV.dS (ch0::chr)) (b:=ai) (.inr (bq ca rfl (.head _))) rfl ?_;refine sS (h5 (by intro h;injection h)) ?_;(try clear h);intro hhl h ht h6;walk_at "w";refine WP.freeze1 (x:=aa "changes") .head rfl (iF rfl) (cH rfl) 0 (by rw[hm'];rfl) ?_;refine yT W' ?_;walk_at "v";refine aw W'.O (oh g x.head (ch0::chr) hhl (ae hcl (by decide)) h ht) (.inr hh2) .nil (cO hk2 rfl) ?_;walk_at "w";refine aw W'.O (Ge g x.n x.k (.sdic (PV.dS h)) (by intro h;injection h) htl) (.inr hh2) (.take (.take .nil)) (cO hk2 rfl) ?_;walk_at "w";rw[show jq (bW tab ws).d x.n (.tup [.int x.k,.sdic (PV.dS h)])=(bW tab (ws++[(x.n,x.k,.dict h)])).d from by rw[vo,<-qZ,PV.d]];exact hP [] (j4 lk1 x.n x.k (.dict h),ws++[(x.n,x.k,.dict h)],_,_) (o7 (by rw[vo];exact xQ hs1 _ _ _) h6 (by rw[aS,bQ];exact b6 hlen) hik)
 .refine Bq fun lk1 ws x1 x2 hI=>?_
  have e:ws=wres:=by have:=hI.2.1;rw[eI (by rw[af];exact aI _)] at this;exact aB this
  walk_at "w";refine hQ _ _ _ (gN rfl ?_);exact nH (by rw[er];rfl) ws rfl (by rw[er,e]) rfl
end
noncomputable def fB(k:List bk):List (Int×Int):=(k.filter (·.page)).map fun s=>(s.n,s.k)
@[reducible] noncomputable def EK(p:Int×Int):DV:=.tup [.int p.1,.int p.2]
noncomputable def k9(p:Int×Int):fz:=.tuple [.int p.1,.int p.2]
noncomputable def Za(l:List (Int×Int))(p:Int×Int):Int:=if p∈l then(l.idxOf p:Nat) else -1
noncomputable def lG(k:List bk)(h:Option (Int×Int)):Int:=match h with|none=>-1|some p=>Za (fB k) p
theorem Bv(a b):a8 (k9 a) (k9 b)=decide (a=b):=by obtain⟨a1,a2⟩:=a;obtain⟨b1,b2⟩:=b;unfold k9;by_cases h1:a1=b1<;>by_cases h2:a2=b2<;>simp[a8,f7,h1,h2]
theorem vt:∀l:List (Int×Int),Bt (l.map EK)=ac (l.map k9):=by intro p0_;induction p0_ with|nil=>exact rfl|cons p r ih=>rw[au,Bt,ih];rfl
theorem Mq{l:List (Int×Int)}(h:p∈l):(l.map fun y=>decide (y=p))[l.idxOf p]?=ac ai/\∀m,m<l.idxOf p->(l.map fun y=>decide (y=p))[m]?=ac ak:=by
 induction l with|nil=>cases h|cons x r ih=>
  rw[List.idxOf_cons,au];by_cases e:x=p
  .subst e
   simp
  .have hm:p∈r:=(ao.mp h).resolve_left fun q=>e q.symm
   refine aZ (ih hm) fun h1 h2=>?_;have eb:(x==p)=ak:=by simpa using e
   rw[eb];simp only[cond_false];refine⟨by simpa using h1,fun m hm=>?_⟩;cases m with|zero=>simp[e]|succ m=>simpa using h2 m (Yl hm)
theorem Gp(k):(fB k).length<=k.length:=by unfold fB;rw[af];exact dW _ _
theorem xX(k p):(((fB k).map k9).any fun y=>a8 y (k9 p))=decide (p∈fB k):=by rw[fm];have:(fun y=>a8 y (k9 p))∘k9=fun y=>decide (y=p):=funext fun y=>Bv y p;rw[this,wT];simp
theorem xW(k p):((fB k).map k9).map (fun y=>a8 y (k9 p))=(fB k).map fun y=>decide (y=p):=by rw[bS];exact bM fun y zz=>Bv y p
theorem vr(k):∀y∈(fB k).map k9,a6 y=ai:=fun y hy=>by refine ar (az.mp hy) fun q zz z1=>?_;subst z1;rfl
theorem Jt(h:p∈fB k):lG k (ac p)=((fB k).idxOf p:Nat):=if_pos h
theorem Js(h:p∉fB k):lG k (ac p)=-1:=if_neg h
section
variable {ff : Bool}
theorem Lu(W:Wk G B gs ff)(H:mx G k f ds Zc res F)(hh:B.hd=ak)(P:nE Z Zc Zc Z)(hk:k<=B.k)(no:res=aq->∀e s,CE G B Y Z e s->E e s)(q:∀x,res=ac x->Q (F x) Y Z):cI G B E f ds Y Z Q:=by refine ar P.pick fun re a e=>?_;refine wE W.O H hh a hk (fun h=>no (by cases res with|none=>rfl|some x=>exact absurd rfl h)) fun zz d Z' h=>?_;refine bp h ?_;clear h;intro x e1 e2 e3;subst e2;subst e3;rw[e];exact q x e1
theorem vy{x:fz}(W:Wk G B gs ff)(P:pd d=ac x)(L:LS Z d' l)(hl:Bt l=ac xs)(hx:a6 x=ai)(hxs:∀y∈xs,a6 y=ai)(e:(xs.any fun y=>a8 y x)=b)(q:Q (.bool b) Y Z):O2 G B E (Is G.prog G.w) (bi .In) d d' Y Z Q:=Gy W.O P L hl hx hxs (by rw[e];exact q)
theorem RX{P:Prop}{Y':aP}{Z':Mu}{Q:Fl->aP->Mu->Prop}(W:Wk G B gs ff)(w:qg B)(hg:p7 gs (aa "TreeFault")=ac d)(h:∀B_1 E_1,Wk G B_1 gs ff->B_1.k=B.k->B_1.hd=B.hd->B_1.m0=Z.map (·.1)->(∀e s,P/\CE G B_1 Y' Z' e s->E_1 e s)->(wI G B_1 E_1 gs ff [] 100).exs body Y Z Q)(hc:P->∀B',Wk G B' gs ak->B'.k=B.k->B'.hd=ai->B'.m0=Z'.map (·.1)->(wI G B' (fun zz zz=>False) gs ak [] 100).exs (b_0::suite) Y' Z' Q):EX G B E (fc (.Try body [.ExceptHandler (ac (.Name (aa "TreeFault") xp)) aq (b_0::suite) hp] [] [] pos) B.env) Y Z Q:=by
 refine MD (P:=P) (Y':=Y') (Z':=Z') W.O w (we W.g).cls (dY W.g) (by simpa using aU.mp W.hk _ (iF hg).mem) (by decide +kernel) (fun B_1 O_1 he hk hh hm=>?_) fun hP B' O' he hk hh hm=>?_
 .have W_1:Wk G B_1 gs ff:=⟨O_1,fun h=>hh.trans (W.hf h),W.g,W.hg,he▸W.hk⟩
  exact(W_1.ok _).exs (h B_1 _ W_1 hk hh hm fun zz zz h=>h)
 .have W_1:Wk G B' gs ak:=⟨O',fun h=>by(injection h),W.g,W.hg,he▸W.hk⟩
  exact(W_1.ok _).exs (hc hP B' W_1 hk hh hm)
theorem L6(W:Wk G B gs ff)(D:LS Z d l)(h:(wI G B E gs ff [] 100).el pos args Y Z (tM (AJ G B E (.builtin "list.index") [d] Q))):nF G B E (aa "index") pl pos args Q d Y Z:=kJ D F.slot_list_index F.type_list_index (ii W h)
end
section
variable (g : dN G) {t r : aW} {lk : Lk}
include g
theorem kD(hs:d6 lk tab)(v k)(hk:cE lk tr=ac (ac k))(hres)(hh:fP lk 64 [] v=ac hres):iz G 7 (.ref 505) [bg t r,v.d] (bz t r tab tr) (fun d Z'=>d=.int (lG k hres)/\Z'=bz t r tab tr):=by
 refine mx.sure (res:=ac (lG k hres)) (F:=DV.int) ?_ rfl;have hkl:=fk hk;refine JX (ps:=[aa "shelf",aa "reference"]) (rest:=[aa "pairs",aa "pair"]) g rfl rfl rfl rfl rfl rfl (jN fun zz zz=>rfl) rfl (.cons (qb g) (.cons (vY g) (.cons (dY g) .nil))) (by kernel_rfl) fun B E Q W w hkk hh0 hm henv hE hQ=>?_;walk_at "w";refine pc (cl:=[]) W ⟨rfl,by decide +kernel,rfl,by decide +kernel⟩ rfl rfl (by rw[henv];kernel_rfl) ?_;clear henv;walk_at "w";refine aw W.O ((np g hs (ac k) hk).sure rfl) (.inr hh0) (.take (.take .nil)) (cO hkk rfl) ?_;walk_at "w";refine fu W .nil (by kernel_rfl) (cA W.O) (by rw[af];exact ae (dW _ _) (ae hkl (by decide))) (fun i out Z=>out=((fB k).take i).map EK/\Z=bz t r tab tr) ⟨rfl,rfl⟩ ?_ ?_
 .intro B' P i d out Z2 hd hI W' hec hk' hh' zz hP
  refine aZ hI ?_;clear hI;intro e1 e2;subst e1;subst e2;refine ar (dM hd) fun x z2 hx=>?_;subst z2;walk_at "w";refine aw W'.O (kq g x.n x.k) (.inr (hh'.trans hh0)) .nil (cO (hk'.trans hkk) rfl) ?_;walk_at "w";exact hP _ _ ⟨iX (k:=fB k) (f:=EK) (x:=(x.n,x.k)) (by unfold fB;rw[bj,hx];rfl),rfl⟩
 .intro out Z hI
  refine aZ hI ?_;clear hI;intro e1 e2;subst e1;subst e2;walk_at "w";rw[show(fB k).take ((k.filter (·.page)).map bk.d).length=fB k from bt (by unfold fB;rw[af,af];exact aI _)];refine RX (P:=hres=aq) (Y':=(aa "shelf",bg t r)::(aa "reference",v.d)::(aa "pairs",.lst ((fB k).map EK))::[(aa "pair",.any)]) (Z':=bz t r tab tr) W w rfl ?_ ?_
  .intro B1 E1 W1 hk1 hh1 hm1 hE1
   have hh2:=hh1.trans hh0;walk_at "w";refine Lu W1 (j8 g hs v hres hh) hh2 (.take (.take .nil)) (cO (hk1.trans hkk) rfl) (fun h e s x=>hE1 e s ⟨h,x⟩) fun p hp=>?_;obtain⟨n,m⟩:=p;subst hp;walk_at "w";refine aw W1.O (kq g n m) (.inr hh2) .nil (cO (hk1.trans hkk) rfl) ?_;walk_at "w";by_cases hmem:(n,m)∈fB k
   .refine vy W (x:=k9 (n,m)) rfl (.inl rfl) (vt _) rfl (vr k) ((xX k (n,m)).trans (decide_eq_true hmem)) ?_
    walk_at "w";refine L6 W (.inl rfl) ?_;walk_at "w";refine aZ (Mq hmem) fun h1 h2=>?_;refine D7 W.O (.inl rfl) (x:=k9 (n,m)) rfl (vt _) rfl (vr k) (j:=(fB k).idxOf (n,m)) (Yk hkl (List.idxOf_lt_length_of_mem hmem) (Gp k)) (by rw[xW];exact h1) (fun i hi=>by rw[xW];exact h2 i hi) ?_;walk_at "w";refine hQ _ _ _ (cT rfl ?_);exact nH rfl _ rfl (by rw[Jt hmem]) rfl
   .refine vy W (x:=k9 (n,m)) rfl (.inl rfl) (vt _) rfl (vr k) ((xX k (n,m)).trans (decide_eq_false hmem)) ?_
    walk_at "w";refine hQ _ _ _ (cT rfl ?_);exact nH rfl _ rfl (by rw[Js hmem]) rfl
  .intro e B1 W1 hk1 hh1 hm1
   subst e;walk_at "w";refine hQ _ _ _ (cT rfl ?_);exact nH rfl _ rfl rfl rfl
end
noncomputable def mh:PV->aV|.null=>aa "null"|.bool _=>aa "truth"|.int _=>aa "int"|.name _=>aa "name"|.ref _ _=>aa "ref"|.arr _=>aa "array"|.dict _=>aa "dict"|.stream _=>aa "stream"
noncomputable def UK:Tg->aV|.none=>aa "null"|.bool=>aa "truth"|.int=>aa "int"|.name=>aa "name"|.ref=>aa "ref"|.lst=>aa "array"|.dic=>aa "dict"|.stream=>aa "stream"|_=>aa "null"
theorem mU(v):mh v=UK v.tg:=by cases v<;>rfl
theorem GG(v:PV):mM v.tg=ak:=by cases v<;>rfl
theorem I1(v:PV):n9 v.tg=ak:=by cases v<;>rfl
theorem Iz(h:eT t=ai):t=.bool:=by cases t<;>first|rfl|injection h
theorem LA(h:gw t=ai)(h0:eT t=ak):t=.int:=by cases t<;>first|rfl|((first|(injection h;done)|cases h);done)|injection h0
theorem IA(h:gJ t=ai):t=.name:=by cases t<;>first|rfl|injection h
theorem Ix(h:fX t=ai):t=.lst:=by cases t<;>first|rfl|injection h
theorem Iy(h:dp t=ai):t=.dic:=by cases t<;>first|rfl|injection h
theorem C4(h:iD t=ai):t=.stream:=by cases t<;>first|rfl|injection h
theorem xd(h:bw t=ai):t=.ref:=by cases t<;>first|rfl|injection h
theorem Iw{v:PV}(h0:eT v.tg=ak)(h1:gw v.tg=ak)(h3:gJ v.tg=ak)(h5:fX v.tg=ak)(h6:dp v.tg=ak)(h7:iD v.tg=ak)(h8:bw v.tg=ak):¬v.isNull=ak:=by cases v<;>first|(intro h;cases h;done)|(cases h0;done)|(cases h1;done)|(cases h3;done)|(cases h5;done)|(cases h6;done)|(cases h7;done)|(injection h8;done)
noncomputable def iw(tab:dG):Nat->Int->Option Int|0,_=>aq|n+1,k=>if(tab.lk k).isSome then iw tab n (k+1) else ac k
theorem UZ{k m:Int}(h:iw tab (n+1) k=ac m):((tab.lk k).isSome=ai->iw tab n (k+1)=ac m)/\((tab.lk k).isSome=ak->k=m):=⟨fun e=>(if_pos e).symm.trans h,fun e=>aB ((if_neg (by rw[e];decide)).symm.trans h)⟩
noncomputable def Vr(t r:aW)(v:PV)(k:Int):aP:=[(aa "self",bg t r),(aa "value",v.d),(aa "number",.int k)]
section
variable {ff : Bool}
theorem ri{b:Bool}(W:Wk G B gs ff)(h:yY d=ac t)(hc:(c=.type "bool"/\eT t=b)\/(c=.type "int"/\gw t=b)\/(c=.ref 155/\mM t=b)\/(c=.ref 183/\gJ t=b)\/(c=.ref 205/\n9 t=b)\/(c=.type "list"/\fX t=b)\/(c=.type "dict"/\dp t=b)\/(c=.ref 226/\iD t=b)\/(c=.ref 254/\bw t=b))(q:Q (.bool b) Y Z):cI G B E (.builtin "isinstance") [d,.raw c] Y Z Q:=by
 rcases hc with⟨rfl,e⟩|⟨rfl,e⟩|⟨rfl,e⟩|⟨rfl,e⟩|⟨rfl,e⟩|⟨rfl,e⟩|⟨rfl,e⟩|⟨rfl,e⟩|⟨rfl,e⟩;.exact yj W.g W.O h e q
 .exact BO W.g W.O h e q
 .exact zQ W.g W.O h e q
 .exact yk W.g W.O h e q
 .exact BP W.g W.O h e q
 .exact yi W.g W.O h e q
 .exact sH W.g W.O h e q
 .exact BQ W.g W.O h e q
 .exact oK W.g W.O h e q
end
section
variable (g : dN G)
include g
theorem iQ(v):g8 G 1 (.ref 265) [v.d] [] (fun d Z'=>d=.str (mh v)/\Z'=[]):=by refine eA (ps:=[aa "value"]) (rest:=[]) g rfl rfl rfl rfl rfl rfl (gC fun zz=>rfl) rfl (.cons (cU g) (.cons (uv g) (.cons (vX g) (.cons (v8 g) (.cons (mY g) (.cons (yp g) (.cons (z0 g) (.cons (jD g) (.cons (sN g) (.cons (dZ g) .nil)))))))))) (by kernel_rfl) fun B Q W hk hh hm hQ=>?_;walk_at "w";refine g0 (fC v) ?_;cases hn:v.isNull with|true=>walk_at "w";exact hQ _ _ _ (cT rfl ⟨by rw[tA hn];rfl,rfl⟩)|false=>walk_at "w";refine ri W (PV.tgd v) (b:=eT v.tg) (.inl ⟨rfl,rfl⟩) ?_;cases h0:eT v.tg with|true=>walk_at "w";exact hQ _ _ _ (cT rfl ⟨by rw[mU,Iz h0];rfl,rfl⟩)|false=>walk_at "w";refine ri W (PV.tgd v) (b:=gw v.tg) (.inr (.inl ⟨rfl,rfl⟩)) ?_;cases h1:gw v.tg with|true=>walk_at "w";exact hQ _ _ _ (cT rfl ⟨by rw[mU,LA h1 h0];rfl,rfl⟩)|false=>walk_at "w";refine ri W (PV.tgd v) (b:=ak) (.inr (.inr (.inl ⟨rfl,GG v⟩))) ?_;walk_at "w";refine ri W (PV.tgd v) (b:=gJ v.tg) (.inr (.inr (.inr (.inl ⟨rfl,rfl⟩)))) ?_;cases h3:gJ v.tg with|true=>walk_at "w";exact hQ _ _ _ (cT rfl ⟨by rw[mU,IA h3];rfl,rfl⟩)|false=>walk_at "w";refine ri W (PV.tgd v) (b:=ak) (.inr (.inr (.inr (.inr (.inl ⟨rfl,I1 v⟩))))) ?_;walk_at "w";refine ri W (PV.tgd v) (b:=fX v.tg) (.inr (.inr (.inr (.inr (.inr (.inl ⟨rfl,rfl⟩)))))) ?_;cases h5:fX v.tg with|true=>walk_at "w";exact hQ _ _ _ (cT rfl ⟨by rw[mU,Ix h5];rfl,rfl⟩)|false=>walk_at "w";refine ri W (PV.tgd v) (b:=dp v.tg) (.inr (.inr (.inr (.inr (.inr (.inr (.inl ⟨rfl,rfl⟩))))))) ?_;cases h6:dp v.tg with|true=>walk_at "w";exact hQ _ _ _ (cT rfl ⟨by rw[mU,Iy h6];rfl,rfl⟩)|false=>walk_at "w";refine ri W (PV.tgd v) (b:=iD v.tg) (.inr (.inr (.inr (.inr (.inr (.inr (.inr (.inl ⟨rfl,rfl⟩)))))))) ?_;cases h7:iD v.tg with|true=>walk_at "w";exact hQ _ _ _ (cT rfl ⟨by rw[mU,C4 h7];rfl,rfl⟩)|false=>walk_at "w";refine ri W (PV.tgd v) (b:=bw v.tg) (.inr (.inr (.inr (.inr (.inr (.inr (.inr (.inr (⟨rfl,rfl⟩))))))))) ?_;cases h8:bw v.tg with|true=>walk_at "w";exact hQ _ _ _ (cT rfl ⟨by rw[mU,xd h8];rfl,rfl⟩)|false=>exact absurd hn (Iw h0 h1 h3 h5 h6 h7 h8)
theorem qU(v n)(hn:iw tab 64 1=ac n)(hl:tab.length<=900):iz G 3 (.ref 339) [bg t r,v.d] (bz t r tab tr) (fun d Z'=>d=io n 0/\Z'=bz t r (cR tab n 0 v) tr):=by
 refine eA (ps:=[aa "self",aa "value"]) (rest:=[aa "number"]) g rfl rfl rfl rfl rfl rfl (jN fun zz zz=>rfl) rfl (.cons (dZ g) .nil) (by kernel_rfl) fun B Q W hk hh hm hQ=>?_;walk_at "w";refine yS (ρf:=Vr t r v) (Zf:=fun zz=>bz t r tab tr) (Yj:=Vr t r v) (Zj:=fun zz=>bz t r tab tr) W (fun m k=>iw tab m k=ac n) (fun k=>k=n) 64 1 hn ?_ ?_
 .intro P R m k hf hP hJ hR
  cases m with|zero=>injection hf|succ m=>refine aZ (UZ hf) fun h1 h2=>?_;walk_at "w";refine qw (K:=Int) (l:=tab.d) (b:=(tab.lk k).isSome) (.inr (bq t rfl (.head _))) (by rw[dG.lkD,FM]) ?_;cases hc:(tab.lk k).isSome with|true=>walk_at "w";exact hP m (k+1) (c9 _) (h1 hc)|false=>walk_at "w";exact hJ k (h2 hc)
 .intro k e
  subst e;walk_at "w";refine pj (qZ tab k 0 v) .head (by rw[dG.d,af];exact ae hl (by decide)) ?_;walk_at "w";refine aw W.O (dP g k 0) (.inl rfl) .nil (cO hk rfl) ?_;walk_at "w";exact hQ _ _ _ (cT rfl ⟨rfl,rfl⟩)
end
noncomputable def yf:PV->Bool|.arr _=>ak|.dict _=>ak|.stream _=>ak|_=>ai
theorem dq{a b:aV}(O:B.Ok G)(ha:a6 (.str a)=ai)(hb:a6 (.str b)=ai)(r)(hr:decide (a=b)=r)(q:Q (.bool r) Y Z):O2 G B E (Is G.prog G.w) (bi .Eq) (.str a) (.str b) Y Z Q:=by
 refine Bz O (x:=.str a) (y:=.str b) (.inl rfl) (.inl rfl) ha hb ?_;have e:a8 (.str a) (.str b)=decide (a=b):=by
  by_cases h:a=b;.simp[a8,h]
  .simp[a8,h]
 rw[e,hr];exact q
theorem cS(v):a6 (.str (mh v))=ai:=by cases v<;>(dsimp only[mh];decide +kernel)
theorem zL(v):decide (mh v=aa "array")=(match v with|.arr _=>ai|_=>ak)/\decide (mh v=aa "dict")=(match v with|.dict _=>ai|_=>ak)/\decide (mh v=aa "stream")=(match v with|.stream _=>ai|_=>ak):=by
 cases v;.exact(by decide +kernel:decide (aa "null" = aa "array")=ak/\decide (aa "null" = aa "dict")=ak/\decide (aa "null" = aa "stream")=ak)
 .exact(by decide +kernel:decide (aa "truth" = aa "array")=ak/\decide (aa "truth" = aa "dict")=ak/\decide (aa "truth" = aa "stream")=ak)
 .exact(by decide +kernel:decide (aa "int" = aa "array")=ak/\decide (aa "int" = aa "dict")=ak/\decide (aa "int" = aa "stream")=ak)
 .exact(by decide +kernel:decide (aa "name" = aa "array")=ak/\decide (aa "name" = aa "dict")=ak/\decide (aa "name" = aa "stream")=ak)
 .exact(by decide +kernel:decide (aa "ref" = aa "array")=ak/\decide (aa "ref" = aa "dict")=ak/\decide (aa "ref" = aa "stream")=ak)
 .exact(by decide +kernel:decide (aa "array" = aa "array")=ai/\decide (aa "array" = aa "dict")=ak/\decide (aa "array" = aa "stream")=ak)
 .exact(by decide +kernel:decide (aa "dict" = aa "array")=ak/\decide (aa "dict" = aa "dict")=ai/\decide (aa "dict" = aa "stream")=ak)
 .exact(by decide +kernel:decide (aa "stream" = aa "array")=ak/\decide (aa "stream" = aa "dict")=ak/\decide (aa "stream" = aa "stream")=ai)
theorem R6{x d:α}(h:[x][i]?=ac d):i=0/\d=x:=by cases i with|zero=>(injection h with h;subst h);exact⟨rfl,rfl⟩|succ n=>injection h
theorem Mb(h:yf v=ai):decide (mh v=aa "array")=ak/\decide (mh v=aa "dict")=ak/\decide (mh v=aa "stream")=ak:=by refine jM (zL v) fun h1 h2 h3=>?_;rw[h1,h2,h3];cases v<;>first|exact(jT rfl rfl rfl)|injection h
section
variable (g : dN G)
include g
theorem sh(v)(h:yf v=ai):iz G 2 (.ref 282) [v.d] [] (fun d Z'=>d=v.d/\Z'=[]):=by
 refine iY (Y0:=[(aa "kind",.any)]) (Yc:=[v.d]) (ps:=[aa "value"]) (Z1:=fun L=>[(L+1,.cell (v.d))]) g rfl rfl rfl rfl rfl (gC fun zz=>rfl) (.cons (kN g) (.cons (jD g) .nil)) (.inr (by kernel_rfl)) (by decide +kernel) ⟨rfl,fun n x hx=>(by cases ap.mp hx;exact .inr ⟨rfl,rfl⟩),fun p hp=>(by cases ap.mp hp;exact⟨rfl,fun h=>absurd rfl h⟩),fun n p hp=>(by cases ap.mp hp;exact(jT rfl rfl (fun zz=>bo))),by decide⟩ (fun zz=>rfl) fun B Q W hk hh hm henv hQ=>?_;have hcs:dg B.env (aa "value") (B.L+1):=by rw[henv];exact⟨rfl,rfl⟩
 walk_at "w";refine bD W hcs (.head _) (PV.d_any _) (by decide +kernel) ?_;walk_at "w";refine aw W.O (iQ g (v)) (.inl rfl) .nil (cO hk rfl) ?_;walk_at "w";refine jM (Mb h) fun h1 h2 h3=>?_;refine dq W.O (cS _) (by decide +kernel) ak h1 ?_;walk_at "w";refine dq W.O (cS _) (by decide +kernel) ak h2 ?_;walk_at "w";refine dq W.O (cS _) (by decide +kernel) ak h3 ?_;walk_at "w";refine bD W hcs (.head _) (PV.d_any _) (by decide +kernel) ?_;walk_at "w";exact hQ _ _ _ (kO rfl ⟨rfl,rfl⟩)
theorem tY(l)(h:l.all yf=ai)(hl:l.length<=900):iz G 3 (.ref 282) [(PV.arr l).d] [] (fun d Z'=>d=(PV.arr l).d/\Z'=[]):=by
 refine iY (Y0:=[(aa "kind",.any)]) (Yc:=[PV.d (.arr l)]) (ps:=[aa "value"]) (Z1:=fun L=>[(L+1,.cell (PV.d (.arr l)))]) g rfl rfl rfl rfl rfl (gC fun zz=>rfl) (.cons (kN g) (.cons (jD g) .nil)) (.inr (by kernel_rfl)) (by decide +kernel) ⟨rfl,fun n x hx=>(by cases ap.mp hx;exact .inr ⟨rfl,rfl⟩),fun p hp=>(by cases ap.mp hp;exact⟨rfl,fun h=>absurd rfl h⟩),fun n p hp=>(by cases ap.mp hp;exact(jT rfl rfl (fun zz=>bo))),by decide⟩ (fun zz=>rfl) fun B Q W hk hh hm henv hQ=>?_;have hcs:dg B.env (aa "value") (B.L+1):=by rw[henv];exact⟨rfl,rfl⟩
 walk_at "w";refine bD W hcs (.head _) (PV.d_any _) (by decide +kernel) ?_;walk_at "w";refine aw W.O (iQ g (.arr l)) (.inl rfl) .nil (cO hk rfl) ?_;walk_at "w";refine dq W.O (cS _) (by decide +kernel) ai (zL (.arr l)).1 ?_;walk_at "w";refine ij (cl:=[]) W ⟨by rw[henv];rfl,by decide +kernel,rfl,by decide +kernel⟩ rfl rfl ?_;clear henv;walk_at "w";refine bD W hcs (.head _) (PV.d_any _) (by decide +kernel) ?_;walk_at "w";have e:PV.d (.arr l)=.lst (l.map PV.d):=by rw[PV.d,oV]
 refine fu W (ds:=l.map PV.d) (.cons (sM g) .nil) (by kernel_rfl) (by rw[e];exact cA W.O) (by rw[af];exact ae hl (by decide)) (fun i out Z=>out=(l.take i).map PV.d/\Z=[(B.L+1,.cell (PV.d (.arr l)))]) ⟨rfl,rfl⟩ ?_ ?_
 .intro B' P i d out Z2 hd hI W' hec hk' hh' zz hP
  refine aZ hI ?_;clear hI;intro e1 e2;subst e1;subst e2;refine ar (dM hd) fun x z1 hx=>?_;subst z1;walk_at "w";refine aw W'.O (sh g x (aU.mp h x (cF hx))) (.inr (hh'.trans hh)) .nil (cO (hk'.trans hk) rfl) ?_;walk_at "w";exact hP _ _ ⟨iX hx,rfl⟩
 .intro out Z hI
  refine aZ hI ?_;clear hI;intro e1 e2;subst e1;subst e2;walk_at "w";exact hQ _ _ _ (kO rfl ⟨by rw[oa,e],rfl⟩)
theorem si(key l)(h:l.all yf=ai)(hl:l.length<=900):iz G 4 (.ref 282) [(PV.dict [(key,.arr l)]).d] [] (fun d Z'=>d=(PV.dict [(key,.arr l)]).d/\Z'=[]):=by
 refine iY (Y0:=[(aa "kind",.any)]) (Yc:=[PV.d (.dict [(key,.arr l)])]) (ps:=[aa "value"]) (Z1:=fun L=>[(L+1,.cell (PV.d (.dict [(key,.arr l)])))]) g rfl rfl rfl rfl rfl (gC fun zz=>rfl) (.cons (kN g) (.cons (jD g) .nil)) (.inr (by kernel_rfl)) (by decide +kernel) ⟨rfl,fun n x hx=>(by cases ap.mp hx;exact .inr ⟨rfl,rfl⟩),fun p hp=>(by cases ap.mp hp;exact⟨rfl,fun h=>absurd rfl h⟩),fun n p hp=>(by cases ap.mp hp;exact(jT rfl rfl (fun zz=>bo))),by decide⟩ (fun zz=>rfl) fun B Q W hk hh hm henv hQ=>?_;have hcs:dg B.env (aa "value") (B.L+1):=by rw[henv];exact⟨rfl,rfl⟩
 walk_at "w";refine bD W hcs (.head _) (PV.d_any _) (by decide +kernel) ?_;walk_at "w";refine aw W.O (iQ g (.dict [(key,.arr l)])) (.inl rfl) .nil (cO hk rfl) ?_;walk_at "w";refine jM (zL (.dict [(key,.arr l)])) fun k1 k2 zz=>?_;refine dq W.O (cS _) (by decide +kernel) ak k1 ?_;walk_at "w";refine dq W.O (cS _) (by decide +kernel) ai k2 ?_;walk_at "w";refine ij (cl:=[(aa "value",B.L+1)]) W ⟨by rw[henv];rfl,by decide +kernel,rfl,by decide +kernel⟩ rfl rfl ?_;walk_at "w";refine bD W hcs (.head _) (PV.d_any _) (by decide +kernel) ?_;walk_at "w";have e:PV.d (.dict [(key,.arr l)])=.sdic [(key,PV.d (.arr l))]:=by simp only[PV.d,PV.dS]
 refine fu W (ds:=[.str key]) (.cons (sM g) .nil) (by kernel_rfl) (by rw[e];exact yh W.O hh) (aj rfl) (fun i out Z=>out=[DV.tup [.str key,PV.d (.arr l)]].take i/\Z=[(B.L+1,.cell (PV.d (.dict [(key,.arr l)])))]) ⟨rfl,rfl⟩ ?_ ?_
 .intro B' P i d out Z2 hd hI W' hec hk' hh' zz hP
  refine aZ hI ?_;clear hI;intro e1 e2;subst e1;subst e2;refine aZ (R6 hd) fun z2 z3=>?_;subst z2;subst z3;have hcc:dg B'.env (aa "value") (B.L+1):=by rw[hec,henv];exact⟨rfl,rfl⟩
  clear hec henv;walk_at "w";refine bD W' hcc (.head _) (PV.d_any _) (by decide +kernel) ?_;walk_at "w";refine cw (K:=aV) (l:=[(key,PV.d (.arr l))]) (x:=PV.d (.arr l)) (.inl e) (by unfold ku;simp) ?_ (fun zz zz=>rfl);walk_at "w";refine aw W'.O (tY g l h hl) (.inr (hh'.trans hh)) .nil (cO (hk'.trans hk) rfl) ?_;walk_at "w";exact hP _ _ ⟨rfl,rfl⟩
 .intro out Z hI
  refine aZ hI ?_;clear hI;intro e1 e2;subst e1;subst e2;walk_at "w";refine uk W.O hh ?_;walk_at "w";exact hQ _ _ _ (kO rfl ⟨e.symm,rfl⟩)
end
noncomputable def Mt(l:List DV)(width:Int):List DV:=(dH (((l.length:Int)+width-1).fdiv width).toNat).map fun(i:Nat)=>.lst (Bs l (ac (((i:Int)*l.length).fdiv (((l.length:Int)+width-1).fdiv width))) (ac ((((i:Int)+1)*l.length).fdiv (((l.length:Int)+width-1).fdiv width))))
section
variable (g : dN G)
include g
theorem ze(l width)(hl:l.length<=900)(h0:0<width)(h1:width<=900)(hm0:0<((l.length:Int)+width-1).fdiv width)(hm1:((l.length:Int)+width-1).fdiv width<=900):iz G 1 (.ref 552) [.lst l,.int width] [] (fun d Z'=>d=.lst (Mt l width)/\Z'=[]):=by
 unfold Mt;generalize hmm:((l.length:Int)+width-1).fdiv width=many at hm0 hm1 ⊢;refine iY (Y0:=[(aa "width",.int width)]) (Yc:=[.any,.lst l]) (ps:=[aa "parts",aa "width"]) (Z1:=fun L=>[(L+1+1,.cell .any),(L+1,.cell (.lst l))]) g rfl rfl rfl rfl rfl (jN fun zz zz=>rfl) (.cons (qD g) (.cons (rq g) .nil)) (.inr (by kernel_rfl)) (by decide +kernel)
  ⟨rfl,fun n x hx=>(by
   rcases ao.mp hx with rfl|hx;.exact .inr ⟨rfl,rfl⟩
   .cases ap.mp hx
    exact .inl rfl),fun p hp=>(by cases ap.mp hp;exact⟨rfl,fun h=>.tail _ (.head _)⟩),fun n p hp=>(by
   rcases ao.mp hp with rfl|hp;.exact jT rfl rfl (fun h=>absurd rfl h)
   .cases ap.mp hp
    exact(jT rfl rfl (fun zz=>bo))),av.mpr ⟨cf,xI⟩⟩ (fun zz=>rfl) fun B Q W hk hh hm henv hQ=>?_
 have hc1:dg B.env (aa "parts") (B.L+1):=by rw[henv];exact⟨rfl,rfl⟩
 have hc2:dg B.env (aa "many") (B.L+1+1):=by rw[henv];exact⟨rfl,rfl⟩
 walk_at "w";refine oQ (c:=B.L+1+1) W.O ?_ rfl;walk_at "w";refine bD W hc1 (.tail _ (.head _)) (by intro h;injection h) (by decide +kernel) ?_;walk_at "w";refine oX (.inl rfl) (ae hl (by decide)) ?_;walk_at "w";refine pw (xm h0) (Pj h0 h1) ?_;rw[hmm];walk_at "w";refine bO _ _ hc2 .head ?_;walk_at "w";refine ij (cl:=[(aa "parts",B.L+1),(aa "many",B.L+1+1)]) W ⟨by rw[henv];rfl,by decide +kernel,rfl,by decide +kernel⟩ rfl rfl ?_;walk_at "w";refine bD W hc2 (.head _) (by intro h;injection h) (by decide +kernel) ?_;walk_at "w";refine m5 W.O fun ra=>?_;walk_at "w";refine fu W (.cons (qD g) .nil) (by kernel_rfl) (mV W.O hh (Qt hm1 rfl) (Yi hm0)) (by rw[af,dI];exact Yh hm1) (fun i out Z=>out=(dH i).map (fun(i:Nat)=>DV.lst (Bs l (ac (((i:Int)*l.length).fdiv many)) (ac ((((i:Int)+1)*l.length).fdiv many))))/\i<=many.toNat/\Z=[(B.L+1+1,.cell (.int many)),(B.L+1,.cell (.lst l))]) (jT rfl (a7 _) rfl) ?_ ?_
 .intro B' P i d out Z2 hd hI W' hec hk' hh' zz hP
  refine jM hI ?_;clear hI;intro e1 hi e2;subst e1;subst e2;refine ar (dM hd) fun x z1 hx=>?_;subst z1;have hi2:i<many.toNat:=by simpa using kM hx
  obtain rfl:x=i:=by rw[FS hi2] at hx;exact(aB hx).symm
  have hcp:dg B'.env (aa "parts") (B.L+1):=by rw[hec,henv];exact⟨rfl,rfl⟩
  have hcm:dg B'.env (aa "many") (B.L+1+1):=by rw[hec,henv];exact⟨rfl,rfl⟩
  clear hec henv;have hsm:∀y:Int,0<=y->y<=901->Xb y (l.length:Int):=fun y a b=>jJ (Yg a b);walk_at "w";refine bD W' hcp (.tail _ (.head _)) (by intro h;injection h) (by decide +kernel) ?_;walk_at "w";refine B8 W'.O ?_;walk_at "w";refine bD W' hcp (.tail _ (.head _)) (by intro h;injection h) (by decide +kernel) ?_;walk_at "w";refine oX (.inl rfl) (ae hl (by decide)) ?_;walk_at "w";refine sy (hsm _ (cb _) (Ye hm1 hi)) ?_;walk_at "w";refine bD W' hcm (.head _) (by intro h;injection h) (by decide +kernel) ?_;walk_at "w";refine pw (xm hm0) (Pj hm0 hm1) ?_;walk_at "w";refine bq _ rfl ?_;walk_at "w";refine bD W' hcp (.tail _ (.head _)) (by intro h;injection h) (by decide +kernel) ?_;walk_at "w";refine oX (.inl rfl) (ae hl (by decide)) ?_;walk_at "w";refine sy (hsm _ (Yd) (Yb hm1 hi)) ?_;walk_at "w";refine bD W' hcm (.head _) (by intro h;injection h) (by decide +kernel) ?_;walk_at "w";refine pw (xm hm0) (Pj hm0 hm1) ?_;walk_at "w";refine bq _ rfl (fun sa=>?_);walk_at "w";refine qo W'.O (.inl rfl) (ae hl (by decide)) ?_ (fun zz zz=>⟨_,rfl⟩);walk_at "w";exact hP _ _ (jT (by rw[Lb,aA];rfl) hi2 rfl)
 .intro out Z hI
  refine jM hI ?_;clear hI;intro e1 hi e2;subst e1;subst e2;walk_at "w";exact hQ _ _ _ (U7 rfl ⟨by rw[af,dI],rfl⟩)
end
noncomputable def xU(l:List α)(lo hi:Option Int):List α:=(uC (fH lo hi aq l.length).1 (fH lo hi aq l.length).2.1 (fH lo hi aq l.length).2.2).filterMap (l[·]?)
theorem sx(f)(l:List α)(lo hi):Bs (l.map f) lo hi=(xU l lo hi).map f:=by
 unfold Bs xU;rw[af,List.map_filterMap];congr 1
 funext j
 rw[bj]
@[reducible] noncomputable def sA(n:Int):DV:=io n 0
noncomputable def Dx(l:List Int):PV:=.arr (l.map fun n=>.ref n 0)
theorem BL(l):(Dx l).d=.lst (l.map sA):=by unfold Dx;rw[PV.d,oV,bS];congr 1
noncomputable def Ip(x:String):aV×PV:=(aa "Type",.name (aa x))
noncomputable def gZ(l:List Int):List (aV×PV):=[Ip "Pages",(aa "Kids",Dx l)]
noncomputable def p5(n:Nat)(w:Int):Int:=((n:Int)+w-1).fdiv w
noncomputable def lq(l:List Int)(w:Int):List (List Int):=(dH (p5 l.length w).toNat).map fun(i:Nat)=>xU l (ac (((i:Int)*l.length).fdiv (p5 l.length w))) (ac ((((i:Int)+1)*l.length).fdiv (p5 l.length w)))
theorem JA(l w):Mt (l.map sA) w=(lq l w).map fun x=>.lst (x.map sA):=by unfold Mt lq p5;rw[af,bS];refine bM fun i zz=>?_;simp only[ey];rw[sx]
noncomputable def eO:dG->List PV->Option (dG×List Int)|tab,[]=>ac (tab,[])|tab,v::r=>if 800<tab.length then aq else match iw tab 64 1 with|none=>aq|some n=>(eO (cR tab n 0 v) r).map fun p=>(p.1,n::p.2)
theorem wJ{tab}:eO tab []=(ac (tab,[])):=rfl
theorem wH{tab v r}:eO tab (v::r)=(if 800<tab.length then aq else match iw tab 64 1 with|none=>aq|some n=>(eO (cR tab n 0 v) r).map fun p=>(p.1,n::p.2)):=rfl
noncomputable def lg:Nat->dG->List Int->Int->Option (dG×List Int)
 |0,_,_,_=>aq|n+1,tab,l,w=>if(l.length:Int)>w then if 900<l.length\/p5 l.length w<=0\/900<p5 l.length w then aq else match eO tab ((lq l w).map fun x=>.dict (gZ x)) with
   |none=>aq|some (t',l')=>lg n t' l' w
  else ac (tab,l)
noncomputable def md(tab:dG):Lk:=fun k=>ac (tab.lk k)
theorem jr(tab):d6 (md tab) tab:=fun k r e=>aB e
noncomputable def tq(at_:Int):List (aV×PV):=[(aa "MediaBox",.arr [.int 0,.int 0,.int 9,.int at_])]
noncomputable def zt:List (aV×PV):=[Ip "Page",(aa "Parent",.null)]
noncomputable def Ft(root:Int):List (aV×PV):=[Ip "Catalog",(aa "Pages",.ref root 0)]
noncomputable def fi(f:α->Option β):List α->Option (List β)|[]=>ac []|x::r=>match f x with|none=>aq|some y=>(fi f r).map fun l=>y::l
theorem q9(f:α->Option β){x r}:fi f (x::r)=(match f x with|none=>aq|some y=>(fi f r).map fun l=>y::l):=rfl
noncomputable def eL(ats:List Int)(w:Int):Option (dG×List (aV×PV)×Int):=match fi (fun a=>gI (tq a) zt) ats with|none=>aq|some vs=>match eO [] (vs.map .dict) with|none=>aq|some (t1,l1)=>match lg 20 t1 l1 w with|none=>aq|some (t2,l2)=>if 800<t2.length then aq else match iw t2 64 1 with|none=>aq|some root=>match gI [] (Ft root) with|none=>aq|some h=>match iw (cR t2 root 0 (.dict (gZ l2))) 64 1 with|none=>aq|some c=>match iS (md (cR (cR t2 root 0 (.dict (gZ l2))) c 0 (.dict h))) (eJ [] (aa "Root") (.ref c 0)) with|some (ac ws)=>ac (bW (cR (cR t2 root 0 (.dict (gZ l2))) c 0 (.dict h)) ws,eJ [] (aa "Root") (.ref c 0),root)|_=>aq
theorem pB:∀{l:List α}{r:List β},fi f l=ac r->∀{i:Nat}{x:α},l[i]?=ac x->∃y,f x=ac y/\r[i]?=ac y:=by
 intro p0_;induction p0_ with
 |nil=>intro r h i x hx;simp at hx
 |cons a l ih=>intro r h i x hx;(first|rw[mapO_e0] at h|rw[q9] at h|unfold fi at h);cases hf:f a with|none=>rw[hf] at h;injection h|some y=>rw[hf] at h;refine ar (aD.mp h) fun q hq z1=>?_;subst z1;cases i with|zero=>(injection hx with hx;subst hx);exact bq y hf rfl|succ i=>exact ih hq hx
theorem l9:∀{l:List α}{r:List β},fi f l=ac r->r.length=l.length:=by
 intro p0_;induction p0_ with
 |nil=>intro r h;(injection h with h;subst h);rfl
 |cons a l ih=>intro r h;(first|rw[mapO_e0] at h|rw[q9] at h|unfold fi at h);cases hf:f a with|none=>rw[hf] at h;injection h|some y=>rw[hf] at h;refine ar (aD.mp h) fun q hq z2=>?_;subst z2;rw[cK,cK,ih hq]
theorem rP{vs:List PV}{ns:List Int}{v:PV}(h:eO tab (vs.drop i)=ac (tabF,ns.drop i))(hv:vs[i]?=ac v):∃n,tab.length<=800/\iw tab 64 1=ac n/\ns[i]?=ac n/\eO (cR tab n 0 v) (vs.drop (i+1))=ac (tabF,ns.drop (i+1)):=by
 rw[m4 hv] at h;(first|rw[wJ] at h|rw[wH] at h|unfold eO at h);by_cases hl:800<tab.length;.rw[if_pos hl] at h;injection h
 rw[if_neg hl] at h;cases hf:iw tab 64 1 with|none=>rw[hf] at h;injection h|some n=>
  rw[hf] at h;refine ar (aD.mp h) fun p hp e=>?_;injection e with e1 e2;subst e1;have hn:ns[i]?=ac n:=by
   have:(ns.drop i)[0]?=ac n:=by rw[<-e2];rfl
   rwa[List.getElem?_drop,Nat.add_zero] at this
  refine qh n (b7 hl) rfl hn ?_;rw[m4 hn] at e2;injection e2 with _ e2;rw[hp,<-e2]
theorem Cu{ns:List Int}{vs:List PV}(h:eO tab (vs.drop vs.length)=ac (tabF,ns.drop vs.length)):tab=tabF/\ns.length<=vs.length:=by rw[List.drop_length] at h;(first|rw[wJ] at h|rw[wH] at h|unfold eO at h);injection h with h;injection h with h1 h2;exact⟨h1,List.drop_eq_nil_iff.mp h2.symm⟩
theorem gj.sureOf{ok:Prop}(hok:ok)(h:jg G k f ds Z R ok):iz G k f ds Z R:=fun A V s vs a b c d e f=>dR (h A V s vs a b c d e f) (o8.mono (fun r s' z3=>bl z3 fun d Z' V' x y z=>(i5 d Z' V' x y z.2)) fun e s' x=>x.1 hok)
structure Rd (ats:List Int) (w:Int) (tabF:dG) (trF:List (aV×PV)) (root:Int) (vs:List (List (aV×PV))) (t1 t2:dG) (l1 l2:List Int) (h:List (aV×PV)) (c:Int) (ws:Wr):Prop where
 turn:fi (fun a=>gI (tq a) zt) ats=ac vs
 add:eO [] (vs.map .dict)=ac (t1,l1)
 lev:lg 20 t1 l1 w=ac (t2,l2)
 len:t2.length<=800
 rt:iw t2 64 1=ac root
 cat:gI [] (Ft root)=ac h
 free:iw (cR t2 root 0 (.dict (gZ l2))) 64 1=ac c
 set:iS (md (cR (cR t2 root 0 (.dict (gZ l2))) c 0 (.dict h))) (eJ [] (aa "Root") (.ref c 0))=ac (ac ws)
 tab:tabF=bW (cR (cR t2 root 0 (.dict (gZ l2))) c 0 (.dict h)) ws
 tr:trF=eJ [] (aa "Root") (.ref c 0)
theorem QU{w root:Int}(hb:eL ats w=ac (tabF,trF,root)):∃vs t1 t2 l1 l2 h c ws,Rd ats w tabF trF root vs t1 t2 l1 l2 h c ws:=by
 unfold eL at hb;cases hvs:fi (fun a=>gI (tq a) zt) ats with|none=>rw[hvs] at hb;injection hb|some vs=>
 rw[hvs] at hb;dsimp only at hb;cases ha:eO [] (vs.map .dict) with|none=>rw[ha] at hb;injection hb|some p1=>
 obtain⟨t1,l1⟩:=p1;rw[ha] at hb;dsimp only at hb;cases hlv:lg 20 t1 l1 w with|none=>rw[hlv] at hb;injection hb|some p2=>
 obtain⟨t2,l2⟩:=p2;rw[hlv] at hb;dsimp only at hb;by_cases ht2:800<t2.length;.rw[if_pos ht2] at hb;injection hb
 rw[if_neg ht2] at hb;cases hf1:iw t2 64 1 with|none=>rw[hf1] at hb;injection hb|some n1=>
 rw[hf1] at hb;dsimp only at hb;cases hth:gI [] (Ft n1) with|none=>rw[hth] at hb;injection hb|some h=>
 rw[hth] at hb;dsimp only at hb;cases hf2:iw (cR t2 n1 0 (.dict (gZ l2))) 64 1 with|none=>rw[hf2] at hb;injection hb|some c=>
 rw[hf2] at hb;dsimp only at hb;cases hse:iS (md (cR (cR t2 n1 0 (.dict (gZ l2))) c 0 (.dict h))) (eJ [] (aa "Root") (.ref c 0)) with|none=>rw[hse] at hb;injection hb|some sr=>
 rw[hse] at hb;cases sr with|none=>injection hb|some ws=>
 dsimp only at hb;injection hb with hb;injection hb with e1 hb;injection hb with e2 e3;subst e3;exact⟨vs,t1,t2,l1,l2,h,c,ws,hvs,ha,hlv,b7 ht2,hf1,hth,hf2,hse,e1.symm,e2.symm⟩
theorem Py{w:Int}(h:lg (n+1) tab l w=ac (t2,l2)):((l.length:Int)>w->l.length<=900/\0<p5 l.length w/\p5 l.length w<=900/\∃t' l',eO tab ((lq l w).map fun x=>.dict (gZ x))=ac (t',l')/\lg n t' l' w=ac (t2,l2))/\(¬(l.length:Int)>w->tab=t2/\l=l2):=by
 refine⟨fun hc=>?_,fun hc=>?_⟩
 .have h:=(if_pos hc).symm.trans h
  by_cases hbad:900<l.length\/p5 l.length w<=0\/900<p5 l.length w;.cases(if_pos hbad).symm.trans h
  .have h:=(if_neg hbad).symm.trans h
   refine o7 (by exact X9 hbad) (by exact X8 hbad) (by exact X7 hbad) ?_;cases ha:eO tab ((lq l w).map fun x=>.dict (gZ x)) with|none=>rw[ha] at h;cases h|some q=>obtain⟨t',l'⟩:=q;rw[ha] at h;exact jP t' l' rfl h
 .cases(if_neg hc).symm.trans h;exact⟨rfl,rfl⟩
theorem Kw{ns:List Int}{l:List α}(h:eO tab ((l.map f).drop n)=ac (tabF,ns.drop n))(e:n=l.length):tab=tabF/\ns.length<=l.length/\ns.take n=ns:=by subst e;rw[<-af (f:=f) (as:=l)] at h;refine aZ (Cu h) fun e hl=>?_;rw[af] at hl;exact jT e hl (bt hl)
noncomputable def Vi(ats:List Int)(w:Int):dG×List Int->aP|(_,l)=>[(aa "page_dicts",.lst (ats.map fun a=>(PV.dict (tq a)).d)),(aa "width",.int w),(aa "home",.none),(aa "level",.lst (l.map sA)),(aa "root",.any),(aa "head",.any)]
noncomputable def Vj(t r L:aW):dG×List Int->Mu|(tab,_)=>(L+1,.cell (bg t r))::bz t r tab []
section
variable (g : dN G) {t r : aW}
include g
theorem sj(ats w)(hal:ats.length<=800)(h2:2<=w)(h9:w<=900)(tabF trF root)(hb:eL ats w=ac (tabF,trF,root)):iz G 8 (.ref 557) [bg t r,.lst (ats.map fun a=>(PV.dict (tq a)).d),.int w] (bz t r [] []) (fun d Z'=>d=sA root/\Z'=bz t r tabF trF):=by
 refine eu (QU hb) fun vs t1 t2 l1 l2 y53=>sR y53 fun h c ws V=>?_;refine iY (Y0:=[(aa "page_dicts",.lst (ats.map fun a=>(PV.dict (tq a)).d)),(aa "width",.int w),(aa "home",.any),(aa "level",.any),(aa "root",.any),(aa "head",.any)]) (Yc:=[bg t r]) (ps:=[aa "shelf",aa "page_dicts",aa "width"]) (Z1:=fun L=>(L+1,.cell (bg t r))::bz t r [] []) g rfl rfl rfl rfl rfl (rM fun zz zz zz=>rfl) (.cons (qD g) (.cons (sJ g) (.cons (mY g) (.cons (sL g) (.cons (DN g) .nil))))) (.inr (by kernel_rfl)) (by decide +kernel) ⟨rfl,fun n=>dJ (.inr ⟨rfl,rfl⟩) (dJ (.inl rfl) (dJ (.inl rfl) wU)),dJ ⟨rfl,fun zz=>.tail _ (.head _)⟩ (dJ ⟨rfl,fun zz=>.tail _ (.tail _ (.head _))⟩ (dJ ⟨rfl,fun h=>absurd rfl h⟩ (dJ ⟨rfl,fun h=>absurd rfl h⟩ (dJ ⟨rfl,fun h=>absurd rfl h⟩ (dJ ⟨rfl,fun h=>absurd rfl h⟩ wU))))),fun n p hp=>(by cases ap.mp hp;exact(jT rfl rfl (fun zz=>bo))),by simp only[au,bI];decide +kernel⟩ (fun zz=>rfl) fun B Q W hk hh hm henv hQ=>?_;have hcs:dg B.env (aa "shelf") (B.L+1):=by rw[henv];exact⟨rfl,rfl⟩
 walk_at "w";refine i0 (decide_eq_false (X6 h2)) ?_;walk_at "w";refine bD W hcs (.head _) (by intro h;cases h) (by decide +kernel) ?_;walk_at "w";refine aw W.O (lX g (lk:=md []) (jr []) [] rfl) (.inr hh) (.skip (.take (.take .nil))) (cO hk rfl) ?_;walk_at "w";refine jt (K:=aV) W.O ?_;walk_at "w";refine zy (K:=aV) (l:=[]) W (.inl rfl) rfl ?_;walk_at "w";refine pc (cl:=[(aa "shelf",B.L+1)]) W ⟨by rw[henv];rfl,by decide +kernel,rfl,by decide +kernel⟩ rfl rfl (by rw[henv];kernel_rfl) ?_;walk_at "w";refine fu W (.cons (sJ g) (.cons (sM g) (.cons (mY g) .nil))) (by kernel_rfl) (cA W.O) (by rw[af];exact ae hal (by decide)) (fun i out Z=>∃tab,eO tab ((vs.map PV.dict).drop i)=ac (t1,l1.drop i)/\out=(l1.take i).map sA/\i<=ats.length/\Z=(B.L+1,.cell (bg t r))::bz t r tab []) (qh [] V.add rfl (a7 _) rfl) ?_ ?_
 .intro B' P i d out Z2 hd hI W' hec hk' hh' zz hP
  refine jE hI ?_;clear hI;intro tab hadd e1 hi e2;subst e1;subst e2;refine ar (dM hd) fun x z4 hx=>?_;subst z4;have hcc:dg B'.env (aa "shelf") (B.L+1):=by rw[hec,henv];exact⟨rfl,rfl⟩
  have hh2:=hh'.trans hh;have hk2:=hk'.trans hk;clear hec henv hcs hk' hh';refine ar (pB V.turn hx) fun y hy hyv=>?_;refine jE (rP (v:=.dict y) hadd (by rw[bj,hyv];rfl)) fun n htl hfr hn hadd'=>?_;walk_at "w";refine bD W' hcc (.head _) (by intro h;cases h) (by decide +kernel) ?_;walk_at "w";refine aw W'.O (si g (aa "MediaBox") [.int 0,.int 0,.int 9,.int x] rfl (aj rfl)) (.inr hh2) .nil (cO hk2 rfl) ?_;walk_at "w";refine jH W' rfl rfl (by simp) (by decide) fun da=>?_;walk_at "v";refine aw W'.O (kr g (aa "Page")) (.inl rfl) .nil (cO hk2 rfl) ?_;walk_at "w";refine cB _ (by simp only[au,bI];decide +kernel) .head ?_;walk_at "w";refine aw W'.O (oh g (tq x) zt (aj rfl) (aj rfl) y hy) (.inr hh2) .nil (cO hk2 rfl) ?_;walk_at "w";refine aw W'.O (qU g (.dict y) n hfr (ae htl (by decide))) (.inr hh2) (.skip (.take (.take .nil))) (cO hk2 rfl) ?_;walk_at "w";exact hP _ _ (qh _ hadd' (iX hn) (kM hx) rfl)
 .intro out Z hI
  refine jE hI ?_;clear hI;intro tab hadd e1 hi e2;subst e1;subst e2;have hvl:=l9 V.turn;refine jM (Kw hadd (by rw[af,hvl])) fun e3 hl1 e4=>?_;subst e3;rw[e4];walk_at "w";refine yS (ρf:=Vi ats w) (Zf:=Vj t r B.L) (Yj:=Vi ats w) (Zj:=Vj t r B.L) W (fun n s=>lg n s.1 s.2 w=ac (t2,l2)/\s.2.length<=900) (fun s=>s=(t2,l2)) 20 (tab,l1) ⟨V.lev,by show l1.length<=900;exact X5 hal hvl hl1⟩ ?_ ?_
  .refine fun P R n=>j5 fun tab l hI hP hJ hR=>?_
   refine aZ hI ?_;clear hI;intro hl hl9;have hl9:l.length<=900:=hl9;have hl:lg n tab l w=ac (t2,l2):=hl;cases n with|zero=>cases hl|succ n=>
    refine aZ (Py hl) fun f1 f2=>?_;walk_at "w";refine oX (.inl rfl) (by rw[af];exact ae hl9 (by decide)) ?_;walk_at "w";by_cases hc:(l.length:Int)>w
    .refine oY (decide_eq_true (by rw[af];exact hc)) ?_
     refine Hp (f1 hc) fun hb0 hb1 hb2 t' l' hadd hl'=>?_;walk_at "w";refine pc (cl:=[(aa "shelf",B.L+1)]) W ⟨by rw[henv];rfl,by decide +kernel,rfl,by decide +kernel⟩ rfl rfl (by rw[henv];kernel_rfl) ?_;walk_at "w";refine aw W.O (ze g (l.map sA) w (by rw[af];exact hl9) (X4 h2) h9 (by rw[af];exact hb1) (by rw[af];exact hb2)) (.inr hh) .nil (cO hk rfl) ?_;walk_at "w";have hgl:(lq l w).length<=900:=by unfold lq;rw[af,dI];omega
     rw[JA];refine fu W (.cons (mY g) .nil) (by kernel_rfl) (cA W.O) (by rw[af];exact ae hgl (by decide)) (fun i out Z=>∃tab,eO tab (((lq l w).map fun x=>PV.dict (gZ x)).drop i)=ac (t',l'.drop i)/\out=(l'.take i).map sA/\Z=(B.L+1,.cell (bg t r))::bz t r tab []) (cB tab hadd rfl rfl) ?_ ?_
     .intro B' P' i d out Z2 hd hI W' hec hk' hh' zz hP'
      refine bp hI ?_;clear hI;intro tab hadd e1 e2;subst e1;subst e2;refine ar (dM hd) fun x z5 hx=>?_;subst z5;have hcc:dg B'.env (aa "shelf") (B.L+1):=by rw[hec,henv];exact⟨rfl,rfl⟩
      have hh2:=hh'.trans hh;have hk2:=hk'.trans hk;clear hec henv hcs hk' hh';refine jE (rP (v:=.dict (gZ x)) hadd (by rw[bj,hx];rfl)) fun n htl hfr hn hadd'=>?_;walk_at "w";refine bD W' hcc (.head _) (by intro h;cases h) (by decide +kernel) ?_;walk_at "w";refine jH W' rfl rfl (by simp) (by decide) fun da=>?_;walk_at "v";refine aw W'.O (kr g (aa "Pages")) (.inl rfl) .nil (cO hk2 rfl) ?_;walk_at "w";refine cB _ (by simp only[au,bI];decide +kernel) .head ?_;walk_at "w";refine aw W'.O (νc:=bz t r (cR tab n 0 (.dict (gZ x))) []) (by rw[<-BL x];exact qU g (.dict (gZ x)) n hfr (ae htl (by decide))) (.inr hh2) (.skip (.take (.take .nil))) (cO hk2 rfl) ?_;walk_at "w";exact hP' _ _ (cB _ hadd' (iX hn) rfl)
     .intro out Z hI
      refine bp hI ?_;clear hI;intro tab hadd e1 e2;subst e1;subst e2;refine jM (Kw hadd (af _)) fun e3 hl1 e4=>?_;subst e3;rw[e4];walk_at "w";exact hP n (tab,l') (c9 n) ⟨hl',ae hl1 hgl⟩
    .refine i0 (decide_eq_false (by rw[af];exact hc)) ?_
     refine aZ (f2 hc) fun e1 e2=>?_;walk_at "w";exact hJ (tab,l) (by rw[e1,e2])
  .refine j5 fun tab l e=>?_
   cases e;walk_at "w";refine bD W hcs (.head _) (by intro h;cases h) (by decide +kernel) ?_;walk_at "w";refine jH W rfl rfl (by simp) (by decide) fun da=>?_;walk_at "v";refine aw W.O (kr g (aa "Pages")) (.inl rfl) .nil (cO hk rfl) ?_;walk_at "w";refine cB _ (by simp only[au,bI];decide +kernel) .head ?_;walk_at "w";have ht3:=kH t2 root 0 (.dict (gZ l2));have htl:=V.len;have hf2:=V.free;have hse:=V.set;have htF:=V.tab;refine aw W.O (νc:=bz t r (cR t2 root 0 (.dict (gZ l2))) []) (by rw[<-BL l2];exact qU g (.dict (gZ l2)) root V.rt (ae V.len (by decide))) (.inr hh) (.skip (.take (.take .nil))) (cO hk rfl) ?_;generalize cR t2 root 0 (.dict (gZ l2))=t3 at ht3 hf2 hse htF ⊢;walk_at "w";refine bD W hcs (.head _) (by intro h;cases h) (by decide +kernel) ?_;walk_at "w";refine aw W.O (lX g (lk:=md t3) (jr t3) [] rfl) (.inr hh) (.skip (.take (.take .nil))) (cO hk rfl) ?_;walk_at "w";refine jH W rfl rfl (by simp) (by decide) fun da=>?_;walk_at "v";refine aw W.O (kr g (aa "Catalog")) (.inl rfl) .nil (cO hk rfl) ?_;walk_at "w";refine cB _ (by simp only[au,bI];decide +kernel) .head ?_;walk_at "w";refine aw W.O (oh g [] (Ft root) (aj rfl) (aj rfl) h V.cat) (.inr hh) .nil (cO hk rfl) ?_;walk_at "w";refine g0 rfl ?_;walk_at "w";refine bD W hcs (.head _) (by intro h;cases h) (by decide +kernel) ?_;walk_at "w";have ht4:=kH t3 c 0 (.dict h);refine aw W.O (qU g (.dict h) c hf2 (X3 htl ht3)) (.inr hh) (.skip (.take (.take .nil))) (cO hk rfl) ?_;walk_at "w";refine bD W hcs (.head _) (by intro h;cases h) (by decide +kernel) ?_;walk_at "w";refine iO (mR (aa "Root") (.ref c 0) []) (.tail (.tail .head)) (a7 _) ?_;walk_at "w";refine bD W hcs (.head _) (by intro h;cases h) (by decide +kernel) ?_;walk_at "w";refine eV W.O (gj.sureOf (ok:=(ac ws).isSome=ai) rfl (om g (jr _) (X2 htl ht3 ht4) (ac ws) hse)) (.inr hh) (.skip (.take (.take .nil))) (cO hk rfl) ?_;intro d Z' hd;refine bp hd ?_;clear hd;intro ws' z6 e z7;subst z6;subst z7;cases e;walk_at "w";exact hQ _ _ _ (kO rfl ⟨rfl,by rw[htF,V.tr]⟩)
end
theorem ue(l:List α):∀m,(dH m).filterMap (l[·]?)=l.take m:=by intro p0_;induction p0_ with|zero=>simp|succ m ih=>rw[Lb,CX,ih,ci];congr 1
theorem xh(m:Nat):uC 0 (m:Int) 1=dH m:=by
 unfold uC;have e:(if(1:Int)>0 then(if(0:Int)<(m:Int) then((m:Int)-0+1-1) / 1 else 0) else(if(0:Int)>(m:Int) then(0-(m:Int)-1-1) / (-1) else 0)).toNat=m:=by
  rw[if_pos (by decide)];by_cases h:(0:Int)<m;.rw[if_pos h];simp
  .rw[if_neg h];exact X1 h
 try dsimp only
 rw[e];conv=>rhs;rw[<-lP (dH m)]
 refine bM fun k zz=>?_;simp
theorem vq(l:List α)(b:Nat):xU l aq (ac (b:Int))=l.take b:=by
 unfold xU;have e:fH aq (ac (b:Int)) aq l.length=(0,((min b l.length:Nat):Int),1):=by
  have key:max 0 (min (if(b:Int)<0 then(b:Int)+(l.length:Int) else(b:Int)) (l.length:Int))=((min b l.length:Nat):Int):=by
   rw[if_neg (nZ.mpr (cb b))];rcases RO b l.length with h|h;.rw[NA h,Int.min_eq_left (gY.mpr h),Lf (cb _)]
   .rw[K9 h,Int.min_eq_right (gY.mpr h),Lf (cb _)]
  unfold fH;simp;exact key
 rw[e];try dsimp only
 rw[xh,ue];rcases RO b l.length with h|h;.rw[NA h]
 .rw[K9 h,bt (aI _),bt h]
theorem Af{a b:Int}(h:0<b):0<=a.fmod b:=Int.fmod_nonneg_of_pos a h
theorem Ag{a b:Int}(h:0<b):a.fmod b<b:=Int.fmod_lt_of_pos a h
@[reducible] noncomputable def iq(cells:List Int)(turn left:Int):List (aV×DV):=[(aa "cells",.lst (cells.map DV.int)),(aa "turn",.int turn),(aa "left",.int left)]
def NN(k:aW)(cells:List Int)(turn many:Int):DV->Mu->Prop:=fun d Z'=>∃r turn' left',d=.int r/\0<=r/\r<many/\turn<=turn'/\turn'<=turn+1/\0<=left'/\Z'=[(k,.sdic (iq cells turn' left'))]
theorem q0{turn left many:Int}(x:Int)(hm0:0<many)(hl:0<=left)(h:Z0.map (·.1)=[k]):km Z0 (NN k cells turn many) (.ret (.int (x.fmod many))) Y [(k,.sdic (iq cells (turn+1) left))]:=cT h.symm ⟨_,turn+1,left,rfl,Af hm0,Ag hm0,by exact Tt,mE _,hl,rfl⟩
section
variable {ff : Bool}
theorem vH{tt ll:Int}{x:DV}(hm:(k,MO.sdic (iq cells tt ll))∈Z)(e:ku (iq cells tt ll) key=ac x)(hs:∀o i,rZ sl ak o i=HZ [o,i] (H7 o i))(q:Q x Y Z):O2 G B E (Is G.prog G.w) (i7 vl sl) (.ptr k) (.str key) Y Z Q:=cw (K:=aV) (.inr (bq k rfl hm)) e q hs
theorem I8{n:Int}(L:LS Z d l)(hl:l.length<=1000000)(e:(l.length:Int)=n)(q:Q (.int n) Y Z):cI G B E (.builtin "len") [d] Y Z Q:=by subst e;exact oX L hl q
theorem qv{b:Bool}(W:Wk G B gs ff)(L:LS Z d l)(e:(!l.isEmpty)=b)(q:Q (.bool b) Y Z):O2 G B E (Is G.prog G.w) (bi .NotEq) d (.lst []) Y Z Q:=Gs W.O L (by rw[e];exact q)
theorem Ey{R:DV->Mu->Mu->Prop}(W:Wk G B gs ff)(H:qf G hd k f ds Zc R)(hh:hd=ai\/B.hd=ak)(P:i4 Z Zc re)(hk:k<=B.k)(q:∀d new Zc',R d new Zc'->Q d Y (new++re Zc')):cI G B E f ds Y Z Q:=D5 W.O H hh P hk q
end
section
variable (g : dN G)
include g
theorem IL(ns:List Int)(hl:ns.length<=900):qf G ak 1 (.ref 562) [.lst (ns.map DV.int)] [] (fun d new Z'=>∃a cells,cells.length<=63/\d=.ptr a/\new=[(a,.sdic (iq cells 0 0))]/\Z'=[]):=by
 refine MX (ps:=[aa "script"]) (rest:=[]) g rfl rfl rfl rfl rfl rfl (gC fun zz=>rfl) rfl .nil (by kernel_rfl) fun B Q W hk hh hm hQ=>?_;walk_at "w";refine A2 W rfl rfl (by simp) (by decide) fun da=>?_;walk_at "v";refine ij (cl:=[]) W ⟨rfl,by decide +kernel,rfl,by decide +kernel⟩ rfl rfl ?_;walk_at "w";refine tH W.O ?_;walk_at "w";refine bq _ rfl (fun sa=>?_);walk_at "w";refine qo W.O (.inl rfl) (by rw[af];exact ae hl (by decide)) ?_ (fun zz zz=>⟨_,rfl⟩);walk_at "w";rw[sx,show(63:Int)=((63:Nat):Int) from rfl,vq];have hl2:(ns.take 63).length<=63:=qN _ _;generalize ns.take 63=cells at hl2 ⊢;refine fu W (.cons (vX g) .nil) (by kernel_rfl) (cA W.O) (by rw[af];exact ae hl2 (by decide)) (fun i out Z=>out=(cells.take i).map DV.int/\Z=[(da,.sdic [])]) ⟨rfl,rfl⟩ ?_ ?_
 .intro B' P i d out Z2 hd hI W' hec hk' hh' zz hP
  refine aZ hI ?_;clear hI;intro e1 e2;subst e1;subst e2;refine ar (dM hd) fun x z1 hx=>?_;subst z1;walk_at "w";refine Kk ?_;walk_at "w";exact hP _ _ ⟨iX hx,rfl⟩
 .intro out Z hI
  refine aZ hI ?_;clear hI;intro e1 e2;subst e1;subst e2;rw[oa];walk_at "w";refine cB _ (by simp only[au,bI];decide +kernel) .head ?_;walk_at "w";exact hQ _ _ _ (fG _ [] [] (.ptr da) (.refl _) rfl (dw da cells hl2 rfl rfl rfl) (.inl rfl))
theorem jo(k cells turn left many)(hc:cells.length<=63)(ht0:0<=turn)(ht1:turn<=1000)(hl:0<=left)(hm0:0<many)(hm1:many<=1000):iz G 1 (.ref 569) [.ptr k,.int many] [(k,.sdic (iq cells turn left))] (NN k cells turn many):=by
 refine Fd (ps:=[aa "keg",aa "many"]) (rest:=[aa "found",aa "cells",aa "turn",aa "great"]) g rfl rfl rfl rfl rfl rfl (jN fun zz zz=>rfl) rfl (.cons (qD g) (.cons (Qz g) .nil)) (by kernel_rfl) fun B Q W hk hh hm henv hQ=>?_;walk_at "w";refine vH (.head _) rfl (fun zz zz=>rfl) ?_;walk_at "w";by_cases hleft:left>0
 .refine oY (decide_eq_true hleft) ?_
  clear henv;walk_at "w";refine vH (.head _) rfl (fun zz zz=>rfl) ?_;walk_at "w";refine lc (xm hm0) ?_;walk_at "w";refine vH (.head _) rfl (fun zz zz=>rfl) ?_;walk_at "w";refine pw (xm hm0) (Ts hm0 hm1) ?_;walk_at "w";refine IE .head (aj rfl) ?_;walk_at "w";refine hQ _ _ _ (cT rfl ?_);exact⟨_,turn,left.fdiv many,rfl,Af hm0,Ag hm0,mE _,by exact Tt,NE hl (tS hm0),rfl⟩
 .refine i0 (decide_eq_false hleft) ?_
  walk_at "w";refine hG W.O hh ?_ rfl (by rw[henv];kernel_rfl);clear henv;walk_at "w";refine vH (.head _) rfl (fun zz zz=>rfl) ?_;walk_at "w";refine vH (.head _) rfl (fun zz zz=>rfl) ?_;walk_at "w";refine ED (cH rfl) (cH rfl) ?_;walk_at "w";refine iO (l':=iq cells (turn+1) left) rfl .head (aj rfl) ?_;walk_at "w";refine I8 (.inl rfl) (by rw[af];exact ae hc (by decide)) (by rw[af]) ?_;walk_at "w";by_cases hge:turn>=(cells.length:Int)
  .refine oY (decide_eq_true hge) ?_
   walk_at "w";refine sy (jJ (by decide)) ?_;walk_at "w";refine sy (jJ (X0 ht0 ht1)) ?_;walk_at "w";refine pw (by decide) (by decide) ?_;walk_at "w";refine eN W.O (ii W ?_);walk_at "w";refine⟨a7 _,?_⟩;walk_at "w";by_cases hn:cells=[]
   .refine qv W (b:=ak) (.inl rfl) (by rw[hn];rfl) ?_
    walk_at "w";refine lc (xm hm0) ?_;walk_at "w";exact hQ _ _ _ (q0 _ hm0 hl rfl)
   .have hpos:(0:Int)<(cells.length:Int):=by have:=FR.mpr hn;exact ip this
    refine qv W (b:=ai) (.inl rfl) (by cases cells<;>first|exact absurd rfl hn|rfl) ?_;walk_at "w";refine I8 (.inl rfl) (by rw[af];exact ae hc (by decide)) (by rw[af]) ?_;walk_at "w";refine lc (XZ hpos) ?_;have hj0:=Af (a:=turn) hpos;have hj1:=Ag (a:=turn) hpos;obtain⟨cv,hcv⟩:∃cv,cells[(turn.fmod (cells.length:Int)).toNat]?=ac cv:=⟨_,cM (XY hpos hj1)⟩
    walk_at "w";refine lV (x:=.int cv) (.inl rfl) hj0 (XW hc hj1) (by rw[bj,hcv];rfl) ?_ (fun zz zz=>rfl);walk_at "w";refine lc (xm hm0) ?_;walk_at "w";exact hQ _ _ _ (q0 _ hm0 hl rfl)
  .refine i0 (decide_eq_false hge) ?_
   obtain⟨cv,hcv⟩:∃cv,cells[turn.toNat]?=ac cv:=⟨_,cM (XV ht0 hge)⟩
   walk_at "w";refine lV (x:=.int cv) (.inl rfl) ht0 (Tr ht1) (by rw[bj,hcv];rfl) ?_ (fun zz zz=>rfl);walk_at "w";refine Kl ?_;walk_at "w";refine Pg (by decide) (by decide) (by decide) ?_;walk_at "w";generalize(if cv<0 then -cv else cv)-(10:Int) ^ (18:Int).toNat=great;by_cases hgr:great<0
   .refine oY (decide_eq_true hgr) ?_
    walk_at "w";refine lV (x:=.int cv) (.inl rfl) ht0 (Tr ht1) (by rw[bj,hcv];rfl) ?_ (fun zz zz=>rfl);walk_at "w";refine lc (xm hm0) ?_;walk_at "w";exact hQ _ _ _ (q0 _ hm0 hl rfl)
   .refine i0 (decide_eq_false hgr) ?_
    walk_at "w";refine pw (xm hm0) (Ts hm0 hm1) ?_;walk_at "w";refine iO (l':=iq cells (turn+1) (great.fdiv many)) rfl .head (aj rfl) ?_;walk_at "w";refine lc (xm hm0) ?_;walk_at "w";exact hQ _ _ _ (q0 _ hm0 (NE (XU hgr) (tS hm0)) rfl)
end
def KS(Z:Mu)(d:DV)(v:PV):Prop:=d=v.d\/∃a l,v=.dict l/\d=.ptr a/\(a,MO.sdic (PV.dS l))∈Z
inductive pT (Z:Mu):List (Int×DV)->dG->Prop
 |nil:pT Z [] []
 |cons {k g:Int} {d:DV} {v:PV} {r:List (Int×DV)} {t:dG}:KS Z d v->pT Z r t->pT Z ((k,.tup [.int g,d])::r) ((k,g,v)::t)
theorem pT.self(Z):∀t,pT Z t.d t:=by
 intro p0_;induction p0_ with|nil=>exact .nil|cons p_ r ih=>
  rcases p_ with⟨k,g,v⟩
  exact .cons (.inl rfl) (ih)
theorem pT.keys(h:pT Z r t):r.map (·.1)=t.map (·.1):=by induction h with|nil=>rfl|cons _ _ ih=>rw[au,au,ih]
theorem pT.len(h:pT Z r t):r.length=t.length:=by have:=congrArg RQ h.keys;simpa using this
theorem pT.lk(h:pT Z r t){k g:Int}(e:t.lk k=ac (g,v)):∃d,ku r k=ac (.tup [.int g,d])/\KS Z d v:=by
 induction h with|nil=>injection e|@cons k' g' d' v' r t hr _ ih=>
  unfold dG.lk at e ih;unfold ku at ih ⊢;rw[bh] at e ⊢;by_cases hk:k'=k
  .simp only[hk,decide_true] at e ⊢
   (injection e with e;injection e with q1 q2;subst q1;subst q2);exact bq d' rfl hr
  .simp only[hk,decide_false] at e ⊢
   exact ih e
theorem KS.mono{Z Z':Mu}(h:KS Z d v)(k:∀p∈Z,p∈Z'):KS Z' d v:=h.imp id fun z1=>aM z1 fun a l x y z=>(bO a l x y (k _ z))
theorem KS.dict(h:KS Z d (.dict l)):DS Z d (PV.dS l):=by
 rcases h with rfl|⟨a,l',e,rfl,hm⟩;.exact .inl rfl
 ·(injection e with e;subst e);exact .inr (bq a rfl hm)
theorem KS.any(h:KS Z d v):d≠.any:=by
 rcases h with rfl|⟨a,l',e,rfl,hm⟩;.exact PV.d_any _
 .intro q;injection q
noncomputable def zY:PV->Bool|.dict l=>(fN l (aa "Kids")).isSome|_=>ak
noncomputable def lF(t:dG)(n:Int):Bool:=match t.lk n with|some (_,v)=>zY v|none=>ak
noncomputable def fh(t:dG):List Int:=(k8 (t.map (·.1))).filter (lF t)
theorem sE{t:dG}{k:Int}(h:k∈t.map (·.1)):∃g v,t.lk k=ac (g,v):=by refine ar (az.mp h) fun p hp z2=>?_;subst z2;unfold dG.lk;cases e:t.find? (fun kv=>decide (kv.1=p.1)) with|none=>exact absurd (kX.mp e p hp) (by simp)|some q=>exact⟨_,_,rfl⟩
theorem GF{n g:Int}(h:t.lk n=ac (g,v)):lF t n=zY v:=by unfold lF;rw[h]
theorem Mc(h:dp v.tg=ak):zY v=ak:=by cases v<;>first|rfl|injection h
theorem MA{l:List Int}{f:Int->Bool}{x:Int}(hx:l[i]?=ac x):((l.take (i+1)).filter f).map DV.int=((l.take i).filter f).map DV.int++(if f x then[DV.int x] else[]):=by rw[ci,hx,ct,rT,aA];congr 1;rw[d4];cases f x<;>rfl
section
variable (g : dN G) {t r : aW}
include g
theorem Mh(W:Wk G B gs ff)(h:KS Z d v)(q:Q (.bool (dp v.tg)) Y Z):cI G B E (.builtin "isinstance") [d,.raw (.type "dict")] Y Z Q:=by
 rcases h with rfl|⟨a,l,rfl,rfl,hm⟩;.exact sH g W.O (PV.tgd _) rfl q
 .exact e8 W.O hm (by kernel_rfl) (fun zz=>rfl) (Hy (.inr (by kernel_rfl)) (by kernel_rfl)) q
theorem qT(hl:rows.length<64):g8 G 1 (.ref 353) [bg t r] [(t,.idic rows),(r,mo)] (fun d Z'=>d=.lst ((k8 (rows.map (·.1))).map DV.int)/\Z'=[(t,.idic rows),(r,mo)]):=by refine eA (ps:=[aa "self"]) (rest:=[]) g rfl rfl rfl rfl rfl rfl (gC fun zz=>rfl) rfl (.cons (sK g) .nil) (by kernel_rfl) fun B Q W hk hh hm hQ=>?_;walk_at "w";refine uj W.O (.inr (bq t rfl (.head _))) hl ?_;walk_at "w";exact hQ _ _ _ (cT rfl ⟨rfl,rfl⟩)
theorem uV{hs:Mu}{tab:dG}(hl:rows.length<64)(hR:pT ((t,.idic rows)::(r,mo)::hs) rows tab):iz G 2 (.ref 574) [bg t r] ((t,.idic rows)::(r,mo)::hs) (fun d Z'=>d=.lst ((fh tab).map DV.int)/\Z'=(t,.idic rows)::(r,mo)::hs):=by
 refine iY (Y0:=[]) (Yc:=[bg t r]) (ps:=[aa "shelf"]) (Z1:=fun L=>(L+1,.cell (bg t r))::(t,.idic rows)::(r,mo)::hs) g rfl rfl rfl rfl rfl (gC fun zz=>rfl) .nil (.inr (by kernel_rfl)) (by decide +kernel) ⟨rfl,fun n x hx=>(by cases ap.mp hx;exact .inr ⟨rfl,rfl⟩),fun p hp=>(by cases hp),fun n p hp=>(by cases ap.mp hp;exact(jT rfl rfl (fun zz=>bo))),by decide⟩ (fun zz=>rfl) fun B Q W hk hh hm henv hQ=>?_;have hcs:dg B.env (aa "shelf") (B.L+1):=by rw[henv];exact⟨rfl,rfl⟩
 walk_at "w";refine ij (cl:=[(aa "shelf",B.L+1)]) W ⟨by rw[henv];rfl,by decide +kernel,rfl,by decide +kernel⟩ rfl rfl ?_;walk_at "w";refine bD W hcs (.head _) (by intro h;injection h) (by decide +kernel) ?_;walk_at "w";refine aw W.O (qT g hl) (.inl rfl) (.skip (.take (.take .nil))) (cO hk rfl) ?_;walk_at "w";rw[hR.keys];refine yU W (.cons (cU g) (.cons (jD g) .nil)) (by kernel_rfl) (cA W.O) (by rw[af,(im _).length_eq,af,<-hR.len];exact xn hl rfl) (fun i out Z=>out=(((k8 (tab.map (·.1))).take i).filter (lF tab)).map DV.int/\Z=(B.L+1,.cell (bg t r))::(t,.idic rows)::(r,mo)::hs) ⟨rfl,rfl⟩ ?_ ?_
 .intro B' P i d0 out Z2 hd hI W' hec hk' hh' zz hP
  refine aZ hI ?_;clear hI;intro e1 e2;subst e1;subst e2;refine ar (dM hd) fun x z3 hx=>?_;subst z3;have hcc:dg B'.env (aa "shelf") (B.L+1):=by rw[hec,henv];exact⟨rfl,rfl⟩
  clear hec henv hcs;refine g7 (sE ((im _).mem_iff.mp (cF hx))) fun gn v hlk=>?_;refine ar (hR.lk hlk) fun d hld hrep=>?_;have hrep:=hrep.mono (Z':=(B.L+1,.cell (bg t r))::(t,.idic rows)::(r,mo)::hs) fun p hp=>.tail _ hp;have hfl:=MA (f:=lF tab) hx;rw[GF hlk] at hfl;walk_at "w";refine bD W' hcc (.head _) (by intro h;injection h) (by decide +kernel) ?_;walk_at "w";refine cw (K:=Int) (l:=rows) (x:=.tup [.int gn,d]) (.inr (bq t rfl (.tail _ (.head _)))) hld ?_ (fun zz zz=>rfl);walk_at "w";refine ej (j:=1) (x:=d) (by decide) (by decide) rfl rfl ?_ (fun zz zz=>rfl);walk_at "w";refine Mh g W' hrep ?_;cases hq:dp v.tg with|false=>walk_at "w";exact hP _ _ ⟨by rw[hfl,Mc hq];exact(bR _).symm,rfl⟩|true=>refine aY (uz hq) fun l z4=>?_;subst z4;have hfl:_=_++(if(fN l (aa "Kids")).isSome then _ else _):=hfl;walk_at "w";refine bD W' hcc (.head _) (by intro h;injection h) (by decide +kernel) ?_;walk_at "w";refine cw (K:=Int) (l:=rows) (x:=.tup [.int gn,d]) (.inr (bq t rfl (.tail _ (.head _)))) hld ?_ (fun zz zz=>rfl);walk_at "w";refine ej (j:=1) (x:=d) (by decide) (by decide) rfl rfl ?_ (fun zz zz=>rfl);walk_at "w";refine qw (K:=aV) (b:=(fN l (aa "Kids")).isSome) hrep.dict (by rw[gy,FM]) ?_;cases hks:(fN l (aa "Kids")).isSome with|false=>walk_at "w";exact hP _ _ ⟨by rw[hfl,hks];exact(bR _).symm,rfl⟩|true=>walk_at "w";exact hP _ _ ⟨by rw[hfl,hks];rfl,rfl⟩
 .intro out Z hI
  refine aZ hI ?_;clear hI;intro e1 e2;subst e1;subst e2;rw[oa];walk_at "w";exact hQ _ _ _ (kO rfl ⟨rfl,rfl⟩)
end
noncomputable def gE(lk:Lk):Nat->Int->Option Int
 |0,_=>aq|f+1,n=>match lk n with
  |some (ac (_,.dict l))=>match fN l (aa "Kids") with
   |none=>ac 1|some (.arr ks)=>if 900<ks.length then aq else(fi (fun k=>match k with|.ref m _=>gE lk f m|_=>aq) ks).map A4
   |some _=>aq
  |_=>aq
theorem HF(lk){f n}:gE lk (f+1) n=(match lk n with
  |some (ac (_,.dict l))=>match fN l (aa "Kids") with
   |none=>ac 1|some (.arr ks)=>if 900<ks.length then aq else(fi (fun k=>match k with|.ref m _=>gE lk f m|_=>aq) ks).map A4
   |some _=>aq
  |_=>aq):=rfl
noncomputable def gf(lk:Lk):Nat->Int->Option (List Int)
 |0,_=>aq|f+1,n=>match lk n with
  |some (ac (_,.dict l))=>match fN l (aa "Kids") with
   |none=>ac [n]|some (.arr ks)=>match fi (fun k=>match k with|.ref m _=>gf lk f m|_=>aq) ks with|none=>aq|some ls=>if 900<(n::ls.flatten).length then aq else ac (n::ls.flatten)
   |some _=>aq
  |_=>aq
theorem A1(lk){f n}:gf lk (f+1) n=(match lk n with
  |some (ac (_,.dict l))=>match fN l (aa "Kids") with
   |none=>ac [n]|some (.arr ks)=>match fi (fun k=>match k with|.ref m _=>gf lk f m|_=>aq) ks with|none=>aq|some ls=>if 900<(n::ls.flatten).length then aq else ac (n::ls.flatten)
   |some _=>aq
  |_=>aq):=rfl
theorem Hd(l:List (List α))(i):(l.take i).flatten.length<=l.flatten.length:=by
 conv=>rhs;rw[<-List.take_append_drop i l,qO,aS]
 exact cg _ _
noncomputable def GX(F:Int->Option α):PV->Option α|.ref m _=>F m|_=>aq
theorem EW{x:PV}{y:α}(h:GX F x=ac y):∃m g,x=.ref m g/\F m=ac y:=by cases x<;>first|((first|(injection h;done)|cases h);done)|exact jP _ _ rfl h
set_option tactic.hygienic true in
theorem QY{n res:Int}(h:gE lk (f+1) n=ac res):∃gn l,lk n=ac (ac (gn,.dict l))/\((fN l (aa "Kids")=aq/\res=1)\/∃ks ns,fN l (aa "Kids")=ac (.arr ks)/\ks.length<=900/\fi (GX (gE lk f)) ks=ac ns/\res=A4 ns):=by
 (first|rw[belowP_e0] at h|rw[HF] at h|unfold gE at h);split at h
 .next gn l e=>
  refine jP gn l e ?_;cases hk:fN l (aa "Kids") with|none=>rw[hk] at h;exact .inl ⟨rfl,(aB h).symm⟩|some kv=>
   rw[hk] at h;cases kv with
   |arr ks=>
    by_cases hl:900<ks.length;.injection (if_pos hl).symm.trans h
    .refine ar (aD.mp ((if_neg hl).symm.trans h)) fun ns hns e=>?_
     refine .inr (dw ks ns rfl (b7 hl) ?_ e.symm);have:(fun k=>match k with|PV.ref m _=>gE lk f m|_=>aq)=GX (gE lk f):=funext fun k=>by cases k<;>rfl
     rw[<-this];exact hns
   |_=>injection h
 .injection h
set_option tactic.hygienic true in
theorem NG{n:Int}(h:gf lk (f+1) n=ac res):∃gn l ks ls,lk n=ac (ac (gn,.dict l))/\fi (GX (gf lk f)) ks=ac ls/\(n::ls.flatten).length<=900/\(ku (PV.dS l) (aa "Kids")).getD (.lst [])=.lst (ks.map PV.d)/\res=n::ls.flatten:=by
 (first|rw[walkP_e0] at h|rw[A1] at h|unfold gf at h);split at h
 .next gn l e=>
  have hL:=gy (aa "Kids") l;cases hk:fN l (aa "Kids") with|none=>rw[hk] at h;exact jw gn l [] [] e rfl (by simp) (by rw[hL,hk];rfl) ((aB h).symm)|some kv=>
   rw[hk] at h;cases kv with
   |arr ks=>
    have e0:(fun k=>match k with|PV.ref m _=>gf lk f m|_=>aq)=GX (gf lk f):=funext fun k=>by cases k<;>rfl
    have h:(match fi (fun k=>match k with|PV.ref m _=>gf lk f m|_=>aq) ks with|none=>aq|some ls=>if 900<(n::ls.flatten).length then aq else ac (n::ls.flatten))=ac res:=h;rw[e0] at h;cases hm:fi (GX (gf lk f)) ks with|none=>rw[hm] at h;injection h|some ls=>
     rw[hm] at h;by_cases hl:900<(n::ls.flatten).length;.injection (if_pos hl).symm.trans h
     .exact jw gn l ks ls e hm (b7 hl) (by rw[hL,hk,ie,eH,PV.d,oV]) ((aB ((if_neg hl).symm.trans h)).symm)
   |_=>injection h
 .injection h
theorem A0:∀{f:Nat}{n:Int}{res:List Int},gf lk f n=ac res->res.length<=900
 |0,_,_,h=>by injection h
 |f+1,_,_,h=>by refine iG (NG h) fun zz zz zz zz zz zz hl zz z1=>?_;subst z1;exact hl
theorem He{ls:List (List Int)}{y:List Int}{n:Int}(h:ls[i]?=ac y):(n::(ls.take i).flatten).map DV.int++y.map DV.int=(n::(ls.take (i+1)).flatten).map DV.int:=by rw[ci,h,ct,qO,<-aA];simp only[Ig,List.flatten_nil,bR,KM]
theorem JD{ls:List (List Int)}{y:List Int}{n:Int}(h:(n::ls.flatten).length<=900)(hy:y.length<=900):((n::(ls.take i).flatten).map DV.int).length+(y.map DV.int).length<=1000000:=by have hfl:=Hd ls i;rw[cK] at h;rw[af,af,cK];exact XT h hy hfl
noncomputable def Xf(t r:aW)(n:Int)(ls:List (List Int)):Nat×DV->aP|(i,x)=>[(aa "shelf",bg t r),(aa "number",.int n),(aa "found",.lst ((n::(ls.take i).flatten).map DV.int)),(aa "kid",x)]
section
variable (g : dN G) {t r : aW}
include g
theorem C9{hs:Mu}(hs0:d6 lk tab)(hR:pT ((t,.idic rows)::(r,mo)::hs) rows tab):∀(f:Nat)(n res:Int),gE lk f n=ac res->iz G f (.ref 579) [bg t r,.int n] ((t,.idic rows)::(r,mo)::hs) (fun d Z'=>d=.int res/\Z'=(t,.idic rows)::(r,mo)::hs):=by
 intro f;induction f with
 |zero=>intro n res h;injection h
 |succ f ih=>
 intro n res h;refine cY (QY h) fun gn l hlk V=>?_;refine ar (hR.lk (hs0 _ _ hlk)) fun d hld hrep=>?_;refine iY (Y0:=[(aa "number",.int n),(aa "head",.any)]) (Yc:=[bg t r]) (ps:=[aa "shelf",aa "number"]) (Z1:=fun L=>(L+1,.cell (bg t r))::(t,.idic rows)::(r,mo)::hs) g rfl rfl rfl rfl rfl (jN fun zz zz=>rfl) (.cons (Qx g) .nil) (.inr (by kernel_rfl)) (by decide +kernel) ⟨rfl,fun n=>dJ (.inr ⟨rfl,rfl⟩) (dJ (.inl rfl) wU),dJ ⟨rfl,fun zz=>.tail _ (.head _)⟩ (dJ ⟨rfl,fun h=>absurd rfl h⟩ wU),fun n p hp=>(by cases ap.mp hp;exact(jT rfl rfl (fun zz=>bo))),by simp only[au,bI];decide +kernel⟩ (fun zz=>rfl) fun B Q W hk hh hm henv hQ=>?_;have hcs:dg B.env (aa "shelf") (B.L+1):=by rw[henv];exact⟨rfl,rfl⟩
 have hrep:=hrep.mono (Z':=(B.L+1,.cell (bg t r))::(t,.idic rows)::(r,mo)::hs) fun p hp=>.tail _ hp;have hda:=hrep.any;walk_at "w";refine bD W hcs (.head _) (by intro h;injection h) (by decide +kernel) ?_;walk_at "w";refine cw (K:=Int) (l:=rows) (x:=.tup [.int gn,d]) (.inr (bq t rfl (.tail _ (.head _)))) hld ?_ (fun zz zz=>rfl);walk_at "w";refine ej (j:=1) (x:=d) (by decide) (by decide) rfl rfl ?_ (fun zz zz=>rfl);walk_at "w";rcases V with⟨hks,rfl⟩|⟨ks,ns,hks,hl9,hns,rfl⟩
 .refine qw (K:=aV) (b:=ak) hrep.dict (by rw[gy,hks];rfl) ?_
  walk_at "w";exact hQ _ _ _ (kO rfl ⟨rfl,rfl⟩)
 .refine qw (K:=aV) (b:=ai) hrep.dict (by rw[gy,hks];rfl) ?_
  walk_at "w";refine ij (cl:=[(aa "shelf",B.L+1)]) W ⟨by rw[henv];rfl,by decide +kernel,rfl,by decide +kernel⟩ rfl rfl ?_;walk_at "w";refine cw (K:=aV) (l:=PV.dS l) (x:=.lst (ks.map PV.d)) hrep.dict (by rw[gy,hks,ie,PV.d,oV]) ?_ (fun zz zz=>rfl);walk_at "w";refine fu W (.cons (rv g) .nil) (by kernel_rfl) (cA W.O) (by rw[af];exact ae hl9 (by decide)) (fun i out Z=>out=(ns.take i).map DV.int/\Z=(B.L+1,.cell (bg t r))::(t,.idic rows)::(r,mo)::hs) ⟨rfl,rfl⟩ ?_ ?_
  .intro B' P i d' out Z2 hd hI W' hec hk' hh' zz hP
   refine aZ hI ?_;clear hI;intro e1 e2;subst e1;subst e2;refine ar (dM hd) fun x z2 hx=>?_;subst z2;have hcc:dg B'.env (aa "shelf") (B.L+1):=by rw[hec,henv];exact⟨rfl,rfl⟩
   clear hec henv hcs;refine ar (pB hns hx) fun y hy hyn=>?_;refine cY (EW hy) ?_;clear hy;intro m gm z3 hy;subst z3;walk_at "w";refine bD W' hcc (.head _) (by intro h;injection h) (by decide +kernel) ?_;walk_at "w";refine aw W'.O (ih m y hy) (.inr (hh'.trans hh)) (.skip (.id _)) (cO (hk'.trans hk) (by simp)) ?_;walk_at "w";exact hP _ _ ⟨iX hyn,rfl⟩
  .intro out Z hI
   refine aZ hI ?_;clear hI;intro e1 e2;subst e1;subst e2;rw[af,bt (by rw[l9 hns];exact aI _)];walk_at "w";refine Kh W.O hh (.inl rfl) ?_;walk_at "w";exact hQ _ _ _ (kO rfl ⟨rfl,rfl⟩)
theorem Gb(hs0:d6 lk tab)(hR:pT ((t,.idic rows)::(r,mo)::hs) rows tab):∀(f:Nat)(n:Int)res,gf lk f n=ac res->iz G f (.ref 600) [bg t r,.int n] ((t,.idic rows)::(r,mo)::hs) (fun d Z'=>d=.lst (res.map DV.int)/\Z'=(t,.idic rows)::(r,mo)::hs):=by
 intro f;induction f with
 |zero=>intro n res h;injection h
 |succ f ih=>
 intro n res h;refine iG (NG h) fun gn l ks ls hlk hmap hlen hget z4=>?_;subst z4;refine ar (hR.lk (hs0 _ _ hlk)) fun d hld hrep=>?_;have hda:=hrep.any;refine eA (ps:=[aa "shelf",aa "number"]) (rest:=[aa "found",aa "kid"]) g rfl rfl rfl rfl rfl rfl (jN fun zz zz=>rfl) rfl (.cons (tC g) .nil) (by kernel_rfl) fun B Q W hk hh hm hQ=>?_;walk_at "w";refine eN W.O (ii W ?_);walk_at "w";refine⟨aj rfl,?_⟩;walk_at "w";refine cw (K:=Int) (l:=rows) (x:=.tup [.int gn,d]) (.inr (bq t rfl (.head _))) hld ?_ (fun zz zz=>rfl);walk_at "w";refine ej (j:=1) (x:=d) (by decide) (by decide) rfl rfl ?_ (fun zz zz=>rfl);walk_at "w";refine EO (hrep.dict.notInst fun zz zz h=>by injection h) ?_;walk_at "v";refine iW (K:=aV) W hrep.dict ?_;walk_at "w";refine eN W.O (ii W ?_);walk_at "w";refine⟨a7 _,?_⟩;walk_at "w";refine DY (K:=aV) hrep.dict hget ?_;walk_at "w";refine nj (ρf:=Xf t r n ls) (Zf:=fun zz=>(t,.idic rows)::(r,mo)::hs) W (cA W.O) (fun i s=>s.1=i) (0,_) rfl rfl rfl ?_ ?_
 .intro B' P R i d' s hd
  refine ar (dM hd) fun x z5 hx=>?_;subst z5;refine ar (pB hmap hx) fun y hy hyn=>?_;refine cY (EW hy) ?_;clear hy;intro m gm z6 hy;subst z6;revert s;refine j5 fun i' x1 e W' zz hk' hh' zz hP hR=>?_;subst e;walk_at "w";refine aw W'.O (ih m y hy) (.inr (hh'.trans hh)) (.id _) (cO (hk'.trans hk) (by simp)) ?_;walk_at "w";refine vz W'.O (.inl rfl) (.inl rfl) (JD hlen (A0 hy)) ?_;rw[He hyn];walk_at "w";exact hP (i'+1,_) rfl
 .refine j5 fun i x1 e=>?_
  subst e;walk_at "w";refine hQ _ _ _ (cT rfl ?_);exact⟨by rw[af,bt (by rw[l9 hmap];exact aI _)],rfl⟩
end
noncomputable abbrev Al:=Int->Option aW
noncomputable def nA(α:Al)(p:Int×Int×PV):DV:=match α p.1 with|some a=>.ptr a|none=>p.2.2.d
noncomputable def df(α:Al)(tab:dG):List (Int×DV):=tab.map fun p=>(p.1,.tup [.int p.2.1,nA α p])
noncomputable def mj(α:Al)(p:Int×Int×PV):Option (aW×MO):=match α p.1,p.2.2 with|some a,.dict l=>ac (a,.sdic (PV.dS l))|_,_=>aq
noncomputable def j6(α:Al)(tab:dG):Mu:=tab.filterMap (mj α)
def qL(α:Al)(tab:dG):Prop:=∀p∈tab,α p.1≠aq->∃l,p.2.2=.dict l
def gc(tab:dG):Prop:=(tab.map (·.1)).Nodup
theorem sq{α:Al}{k:Int}(h:α k=aq)(tab g v):jq (df α tab) k (.tup [.int g,v.d])=df α (cR tab k g v):=by
 unfold jq cR df;rw[fm];have e:(tab.any ((fun kv:Int×DV=>decide (kv.1=k))∘fun p=>(p.1,DV.tup [.int p.2.1,nA α p])))=tab.any fun r=>r.1=k:=rfl;rw[e];split
 .rw[bS,bS]
  refine bM fun p zz=>?_;simp only[ey];by_cases hp:p.1=k;.simp only[hp,if_true];unfold nA;dsimp only;rw[h]
  .simp only[hp,if_false]
 .rw[aA,au,bI];unfold nA;dsimp only;rw[h]
theorem zX{α:Al}{k:Int}(h:α k=aq)(tab g v):j6 α (cR tab k g v)=j6 α tab:=by
 unfold cR j6;split
 .rw[List.filterMap_map]
  refine congrArg (fun f=>ND f tab) (funext fun p=>?_);simp only[ey];by_cases hp:p.1=k;.simp only[hp,if_true];unfold mj;dsimp only;rw[hp,h]
  .simp only[hp,if_false]
 .rw[CX]
  have:ND (mj α) [(k,g,v)]=[]:=by simp[mj,h]
  rw[this,bR]
theorem mi(tab k g v)(h:gc tab):gc (cR tab k g v):=by
 unfold gc cR at *;split
 .rename_i ha
  have:(tab.map (fun r=>if r.1=k then(r.1,g,v) else r)).map (·.1)=tab.map (·.1):=by rw[bS];refine bM fun p zz=>?_;simp only[ey];split<;>rfl
  rw[this];exact h
 .rename_i ha
  rw[aA,au,bI,bC];refine jT h (by simp) (fun a hx b hb e=>?_);rw[ap.mp hb] at e;refine ar (az.mp hx) fun p hp z1=>?_;subst z1;exact ha (dA.mpr (bq p hp (by simpa using e)))
theorem sY{α:Al}{k g:Int}(h:qL α tab)(hv:α k≠aq->∃l,v=.dict l):qL α (cR tab k g v):=by
 intro p hp ha;unfold cR at hp;split at hp
 .refine ar (az.mp hp) fun q hq e=>?_
  by_cases hk:q.1=k;.rw[if_pos hk] at e;subst e;exact hv (hk▸ha)
  .rw[if_neg hk] at e;subst e;exact h _ hq ha
 .rcases aJ.mp hp with hp|hp
  .exact h _ hp ha
  .cases ap.mp hp;exact hv ha
theorem sF{k g:Int}(h:tab.lk k=ac (g,v)):(k,g,v)∈tab:=by
 unfold dG.lk at h;refine ar (aD.mp h) fun p hp e=>?_;have h1:=yQ hp;have h2:p.1=k:=by simpa using Le hp
 obtain⟨a,b⟩:=p;subst e;subst h2;exact h1
theorem zk{k g:Int}(hn:gc tab)(h:tab.lk k=ac (g,v0)):∀p∈tab,p.1=k->p=(k,g,v0):=by
 intro p hp e;have h2:=sF h;unfold gc at hn;clear h;induction tab with|nil=>cases hp|cons q r ih=>
  rw[au,av] at hn;rcases ao.mp hp with rfl|hp
  .rcases ao.mp h2 with h2|h2
   .exact h2.symm
   .exact absurd (az.mpr ⟨_,h2,e.symm⟩) hn.1
  .rcases ao.mp h2 with rfl|h2
   .exact absurd (show k∈r.map (·.1) from az.mpr (bq p (by assumption) e)) hn.1
   .exact ih hn.2 (by assumption) h2
theorem Kt{k g:Int}(h:tab.lk k=ac (g,v)):(tab.any fun r=>r.1=k)=ai:=dA.mpr (bq _ (sF h) (by simp))
theorem xS{α:Al}{k g:Int}(ha:α k=ac a)(hn:gc tab)(h:tab.lk k=ac (g,v0)):df α (cR tab k g v)=df α tab:=by
 unfold cR df;rw[if_pos (Kt h),bS];refine bM fun p hp=>?_;simp only[ey];by_cases hk:p.1=k
 .have:=zk hn h p hp hk
  subst this;simp only[if_true];unfold nA;dsimp only;rw[ha]
 .simp only[hk,if_false]
theorem Mr{α:Al}{k g:Int}{l l':List (aV×PV)}(ha:α k=ac a):∀{tab:dG},gc tab->tab.lk k=ac (g,.dict l)->fF a (.sdic (PV.dS l)) (.sdic (PV.dS l')) (j6 α tab) (j6 α (tab.map fun r=>if r.1=k then(r.1,g,.dict l') else r)):=by
 intro p0_;induction p0_ with
 |nil=>intro zz h;injection h
 |cons p r ih=>
  intro hn0 h;have hn:=hn0;unfold gc at hn;rw[au,av] at hn;rw[au];by_cases hk:p.1=k
  .rw[if_pos hk]
   have e:=zk hn0 h p (.head _) hk;have er:(r.map fun x=>if x.1=k then(x.1,g,PV.dict l') else x)=r:=by
    conv=>rhs;rw[<-lP r]
    refine bM fun x hx=>?_;have:¬x.1=k:=fun q=>hn.1 (az.mpr (bq x hx (q.trans hk.symm)));rw[if_neg this];rfl
   rw[er];subst e;unfold j6;rw[iB (b:=(a,.sdic (PV.dS l))) (by unfold mj;dsimp only;rw[ha]),iB (b:=(a,.sdic (PV.dS l'))) (by unfold mj;dsimp only;rw[ha])];exact .head
  .rw[if_neg hk]
   have h':dG.lk r k=ac (g,.dict l):=by unfold dG.lk at h ⊢;rw[bh] at h;simp only[hk,decide_false] at h;exact h
   have ih:=ih hn.2 h';unfold j6 at ih ⊢;rw[fM,fM];cases mj α p with|none=>exact ih|some q=>exact .tail ih
theorem ro{α:Al}{k g:Int}{l l':List (aV×PV)}(ha:α k=ac a)(hn:gc tab)(h:tab.lk k=ac (g,.dict l)):fF a (.sdic (PV.dS l)) (.sdic (PV.dS l')) (j6 α tab) (j6 α (cR tab k g (.dict l'))):=by have:=Mr (l':=l') ha hn h;unfold cR;rw[if_pos (Kt h)];exact this
theorem zo{α:Al}:∀{tab:dG},qL α tab->(∀p∈j6 α tab,p∈Z)->pT Z (df α tab) tab:=by
 intro p0_;induction p0_ with
 |nil=>intro zz zz;exact .nil
 |cons p_ r ih=>
  rcases p_ with⟨k,g,v⟩
  intro h hm;refine .cons ?_ (ih (fun p hp=>h p (.tail _ hp)) fun p hp=>hm p ?_)
  .unfold nA
   try dsimp only
   cases ha:α k with|none=>exact .inl rfl|some a=>refine aY (h (k,g,v) (.head _) (by dsimp only;rw[ha];simp)) fun l e=>?_;dsimp only at e;subst e;refine .inr (bO a l rfl rfl (hm _ ?_));unfold j6;rw[iB (b:=(a,.sdic (PV.dS l))) (by unfold mj;dsimp only;rw[ha])];exact .head _
  .unfold j6 at hp ⊢
   rw[fM];cases mj α (k,g,v) with|none=>exact hp|some q=>exact .tail _ hp
noncomputable def bN(lk:Lk)(ws:Wr):Lk:=ws.foldl (fun lk w=>j4 lk w.1 w.2.1 w.2.2) lk
theorem kF(h:d6 lk tab)(ws):d6 (bN lk ws) (bW tab ws):=by unfold bN bW;induction ws generalizing lk tab with|nil=>exact h|cons w r ih=>exact ih (xQ h _ _ _)
noncomputable def wy(right:Int):List PV:=[.bool (right==1),.int right,.ref 900 0,.ref 901 0,.int (right-9),.int (right+1),.null]
noncomputable def uq(root:Int):List PV:=[.ref 990 0,.ref 902 0,.int 5,.ref 900 0,.ref root 0]
noncomputable def jf(l:List (aV×PV))(way:Nat)(right:Int):List (aV×PV):=if way=6 then sv (eJ l (aa "Count") ((wy right).getD way .null)) (aa "Count") else eJ l (aa "Count") ((wy right).getD way .null)
noncomputable def lI(root n:Int)(way other:Nat)(one:Int):eM:=(if(one==root&&decide (2<other))=ai then[(one,aa "Parent")] else[])++(if(one==n&&!(way==1||way==2))=ai then[(one,aa "Count")] else[])
noncomputable def rI(w:List Int)(root n:Int)(way other:Nat):eM:=w.flatMap (lI root n way other)
noncomputable def gD(g n gr root:Int)(l lt:List (aV×PV))(right:Int)(way other:Nat):Wr:=[(900,0,.int right),(901,0,.bool (right==1)),(902,0,.null),(n,g,.dict (jf l way right))]++(if other=0 then[] else[(root,gr,.dict (eJ lt (aa "Parent") ((uq root).getD (other-1) .null)))])
noncomputable def rN(lk:Lk)(root n:Int)(way other:Nat):Option (Wr×eM):=
 match lk n with
 |some (ac (g,.dict l))=>if 800<l.length then aq else match gE lk 20 n with
  |none=>aq|some right=>match bN lk [(900,0,.int right),(901,0,.bool (right==1)),(902,0,.null),(n,g,.dict (jf l way right))] root with
   |some (ac (gr,.dict lt))=>if 800<lt.length then aq else match gf (bN lk (gD g n gr root l lt right way other)) 20 root with|none=>aq|some w=>ac (gD g n gr root l lt right way other,rI w root n way other)
   |_=>aq
 |_=>aq
theorem Bk{α:Al}{k g:Int}(ha:α k=ac a):∀{tab:dG},tab.lk k=ac (g,v)->ku (df α tab) k=ac (.tup [.int g,.ptr a]):=by
 intro p0_;induction p0_ with
 |nil=>intro h;injection h
 |cons p_ r ih=>
  rcases p_ with⟨pk,pg,pv⟩
  intro h;unfold dG.lk at h;unfold ku df;rw[bh] at h;rw[au,bh];dsimp only at h ⊢;by_cases hk:pk=k
  .simp only[hk,decide_true] at h ⊢
   (injection h with h;injection h with q1 q2;subst q1;subst q2);unfold nA;try dsimp only
   rw[ha];rfl
  .simp only[hk,decide_false] at h ⊢
   exact ih h
theorem Gn(tab k g v w):cR (cR tab k g v) k g w=cR tab k g w:=by
 unfold cR;by_cases h:(tab.any fun r=>decide (r.1=k))=ai
 .rw[if_pos h,if_pos h]
  have:((tab.map fun r=>if r.1=k then(r.1,g,v) else r).any fun r=>decide (r.1=k))=ai:=by
   rw[fm];refine ar (dA.mp h) fun p hp e=>?_;refine dA.mpr (bq p hp ?_);have e:p.1=k:=by simpa using e
   simp[e]
  rw[if_pos this,bS];refine bM fun p zz=>?_;simp only[ey];by_cases hp:p.1=k<;>simp[hp]
 .rw[if_neg h,if_neg h]
  have:((tab++[(k,g,v)]).any fun r=>decide (r.1=k))=ai:=by simp
  rw[if_pos this,aA];have hn:∀x∈tab,¬x.1=k:=fun x hx e=>h (dA.mpr (bq x hx (by simpa using e)));congr 1
  .conv=>rhs;rw[<-lP tab]
   refine bM fun x hx=>?_;rw[if_neg (hn x hx)];rfl
  .simp
theorem I7(l k v):fN (eJ l k v) k=ac v:=by
 unfold fN eJ;split
 .rename_i h
  induction l with|nil=>injection h|cons p r ih=>
   rw[au,bh];by_cases hp:p.1=k;.simp[hp]
   .simp only[hp,if_false,decide_false]
    rw[dF] at h;exact ih (by simpa[hp] using h)
 .rename_i h
  have:l.find? (fun kv=>decide (kv.1=k))=aq:=kX.mpr fun x hx e=>h (dA.mpr (bq x hx e));rw[te,this];simp
theorem fF.keys(h:fF a mo mo' Z Z'):Z'.map (·.1)=Z.map (·.1):=by induction h with|head=>rfl|tail _ ih=>rw[au,au,ih]
theorem NV{l:List PV}(h:i<l.length):(l.map PV.d)[i]?=ac (l.getD i .null).d:=by rw[bj,kW,cM h];rfl
theorem RZ{n:Nat}{st:jW}{Q:Fl->aP->Mu->Prop}(m:β->aP×Mu)(C:β->Prop)(h1:∀Q',(∀z,C z->Q' .next (m z).1 (m z).2)->(wI G B E gs ff [] n).ex st Y Z Q')(h2:∀z,C z->(wI G B E gs ff [] n).exs rest (m z).1 (m z).2 Q):(wI G B E gs ff [] (n+1)).exs (st::rest) Y Z Q:=h1 (KB (wI G B E gs ff [] n) rest Q) h2
noncomputable def KR(right:Int)(way:Nat):PV:=(wy right).getD way .null
noncomputable def Tk(root:Int)(other:Nat):PV:=(uq root).getD (other-1) .null
structure VT (α:Al) (tab:dG) (lk lk2:Lk) (root n:Int) (way other:Nat) (ws:Wr) (due:eM) (gn:Int) (l:List (aV×PV)) (right gr:Int) (lt:List (aV×PV)) (w:List Int) (a a2:aW) (rows1 rows2 rows0:List (Int×DV)) (H1 H2 H3:Mu):Prop where
 bel:gE lk 20 n=ac right
 row:ku (df α tab) n=ac (.tup [.int gn,.ptr a])
 p0:jq (df α tab) 900 (.tup [.int 0,.int right])=rows1
 p1:jq rows1 901 (.tup [.int 0,.bool (right==1)])=rows2
 p2:jq rows2 902 (.tup [.int 0,.none])=rows0
 e1:rows1.length<=2000
 e2:rows2.length<=2000
 f1:(PV.dS l).length<=1000000
 f2:(PV.dS (eJ l (aa "Count") (KR right way))).length<=1000000
 f3:(PV.dS lt).length<=1000000
 r1:fF a (.sdic (PV.dS l)) (.sdic (PV.dS (eJ l (aa "Count") (KR right way)))) (j6 α tab) H1
 lk1:ku (PV.dS (eJ l (aa "Count") (KR right way))) (aa "Count")=ac (KR right way).d
 r2:way=6->fF a (.sdic (PV.dS (eJ l (aa "Count") (KR right way)))) (.sdic (xj (PV.dS (eJ l (aa "Count") (KR right way))) (aa "Count"))) H1 H2
 n2:way≠6->H1=H2
 top:ku rows0 root=ac (.tup [.int gr,.ptr a2])
 r3:other≠0->fF a2 (.sdic (PV.dS lt)) (.sdic (PV.dS (eJ lt (aa "Parent") (Tk root other)))) H2 H3
 n3:other=0->H2=H3
 rowF:rows0=df α (bW tab ws)
 hF:H3=j6 α (bW tab ws)
 keys:H3.map (·.1)=(j6 α tab).map (·.1)
 walk:gf lk2 20 root=ac w
 sound:d6 lk2 (bW tab ws)
 al:qL α (bW tab ws)
 due:due=rI w root n way other
theorem Vo{α:Al}{root n:Int}(hs:d6 lk tab)(htl:tab.length<60)(hal:qL α tab)(hkeys:gc tab)(a900:α 900=aq)(a901:α 901=aq)(a902:α 902=aq)(hroot:(α root).isSome=ai)(hn:(α n).isSome=ai)(hb:rN lk root n way other=ac (ws,due)):∃lk2 gn l right gr lt w a a2 rows1 rows2 rows0 H1 H2 H3,VT α tab lk lk2 root n way other ws due gn l right gr lt w a a2 rows1 rows2 rows0 H1 H2 H3:=by
 unfold rN at hb;obtain⟨gn,l,hlkn,hb⟩:∃gn l,lk n=ac (ac (gn,.dict l))/\(if 800<l.length then aq else match gE lk 20 n with
   |none=>aq|some right=>match bN lk [(900,0,.int right),(901,0,.bool (right==1)),(902,0,.null),(n,gn,.dict (jf l way right))] root with
    |some (ac (gr,.dict lt))=>if 800<lt.length then aq else match gf (bN lk (gD gn n gr root l lt right way other)) 20 root with|none=>aq|some w=>ac (gD gn n gr root l lt right way other,rI w root n way other)
    |_=>aq)=ac (ws,due):=by
  split at hb;.exact jP _ _ (by assumption) hb
  .injection hb
 by_cases hl8:800<l.length;.injection (if_pos hl8).symm.trans hb
 have hb:=(if_neg hl8).symm.trans hb;cases hbel:gE lk 20 n with|none=>rw[hbel] at hb;injection hb|some right=>
 rw[hbel] at hb;dsimp only at hb;obtain⟨gr,lt,hlkr,hb⟩:∃gr lt,bN lk [(900,0,.int right),(901,0,.bool (right==1)),(902,0,.null),(n,gn,.dict (jf l way right))] root=ac (ac (gr,.dict lt))/\(if 800<lt.length then aq else match gf (bN lk (gD gn n gr root l lt right way other)) 20 root with
     |none=>aq|some w=>ac (gD gn n gr root l lt right way other,rI w root n way other))=ac (ws,due):=by
  split at hb;.exact jP _ _ (by assumption) hb
  .injection hb
 by_cases hlt8:800<lt.length;.injection (if_pos hlt8).symm.trans hb
 have hb:=(if_neg hlt8).symm.trans hb;cases hwk:gf (bN lk (gD gn n gr root l lt right way other)) 20 root with|none=>rw[hwk] at hb;injection hb|some w=>
 rw[hwk] at hb;dsimp only at hb;injection hb with hb;injection hb with ew ed;have htn:=hs n _ hlkn;refine aY (cu.mp hn) fun a ha=>?_;refine aY (cu.mp hroot) fun a2 ha2=>?_;have n900:n≠900:=fun q=>by rw[q,a900] at ha;injection ha
 have n901:n≠901:=fun q=>by rw[q,a901] at ha;injection ha
 have n902:n≠902:=fun q=>by rw[q,a902] at ha;injection ha
 let t1:=cR tab 900 0 (.int right);let t2:=cR t1 901 0 (.bool (right==1));let tab0:=cR t2 902 0 .null;have g1:t1.length<=61:=ae (kH _ _ _ _) (I3 htl rfl);have g2:t2.length<=62:=ae (kH _ _ _ _) (GH g1 rfl);have htn0:tab0.lk n=ac (gn,.dict l):=by show(cR t2 902 0 .null).lk n=_;rw[mS,if_neg n902,mS,if_neg n901,mS,if_neg n900];exact htn
 have hk0:gc tab0:=mi _ _ _ _ (mi _ _ _ _ (mi _ _ _ _ hkeys));have hal0:qL α tab0:=sY (sY (sY hal fun h=>absurd a900 h) fun h=>absurd a901 h) fun h=>absurd a902 h;have ehs:j6 α tab0=j6 α tab:=by show j6 α (cR t2 902 0 .null)=_;rw[zX a902,zX a901,zX a900]
 let l1:=eJ l (aa "Count") (KR right way);have hR1:=ro (l':=l1) ha hk0 htn0;rw[ehs] at hR1;let tab1:=cR tab0 n gn (.dict (jf l way right));have hs1:=kF hs [(900,0,.int right),(901,0,.bool (right==1)),(902,0,.null),(n,gn,.dict (jf l way right))];have htr1:tab1.lk root=ac (gr,.dict lt):=hs1 root _ hlkr;have hk1:gc tab1:=mi _ _ _ _ hk0;have hal1:qL α tab1:=sY hal0 fun zz=>⟨_,rfl⟩
 have er1:df α tab1=df α tab0:=xS ha hk0 htn0;have hs2:=kF hs (gD gn n gr root l lt right way other);have et2:bW tab (gD gn n gr root l lt right way other)=if other=0 then tab1 else cR tab1 root gr (.dict (eJ lt (aa "Parent") (Tk root other))):=by
  unfold gD;by_cases h0:other=0;.rw[if_pos h0,if_pos h0];rfl
  .rw[if_neg h0,if_neg h0];rfl
 have hR2:=ro (l':=eJ lt (aa "Parent") (Tk root other)) ha2 hk1 htr1;have hb6:way=6->jf l way right=sv l1 (aa "Count"):=fun h=>if_pos h;have hb5:way≠6->jf l way right=l1:=fun h=>if_neg h;rw[ew] at et2 hs2 hwk;have eF:j6 α (bW tab ws)=if other=0 then j6 α tab1 else j6 α (cR tab1 root gr (.dict (eJ lt (aa "Parent") (Tk root other)))):=by rw[et2];split<;>rfl
 refine⟨_,gn,l,right,gr,lt,w,a,a2,df α t1,df α t2,df α tab0,j6 α (cR tab0 n gn (.dict l1)),j6 α tab1,_,hbel,Bk ha htn,?_,?_,?_,?_,?_,?_,?_,?_,hR1,?_,fun h6=>?_,fun h6=>?_,?_,fun h0=>?_,fun h0=>?_,?_,rfl,?_,hwk,hs2,?_,ed.symm⟩;.rw[show DV.int right=PV.d (.int right) from by rw[PV.d],sq a900]
 .rw[show DV.bool (right==1)=PV.d (.bool (right==1)) from by rw[PV.d],sq a901]
 .rw[show(DV.none)=PV.d .null from by rw[PV.d],sq a902]
 .unfold df;rw[af];exact je g1 rfl
 .unfold df;rw[af];exact je g2 rfl
 .rw[jZ];exact Pl hl8 rfl
 .rw[jZ];have:=l5 l (aa "Count") (KR right way);exact XS hl8 this
 .rw[jZ];exact Pl hlt8 rfl
 .rw[gy,I7];rfl
 .have htn1:(cR tab0 n gn (.dict l1)).lk n=ac (gn,.dict l1):=by rw[mS,if_pos rfl]
  have:=ro (l':=sv l1 (aa "Count")) ha (mi _ n gn (.dict l1) hk0) htn1;rw[Gn] at this;rw[IS];show fF a _ _ _ (j6 α (cR tab0 n gn (.dict (jf l way right))));rw[hb6 h6];exact this
 .show _=j6 α (cR tab0 n gn (.dict (jf l way right)));rw[hb5 h6]
 .rw[<-er1];exact Bk ha2 htr1
 .rw[eF,if_neg h0];exact hR2
 .rw[eF,if_pos h0]
 .rw[et2,<-er1];split
  .rfl
  .exact(xS ha2 hk1 htr1).symm
 .have k1:=(ro (l':=jf l way right) ha hk0 htn0).keys
  rw[ehs] at k1;rw[eF,<-k1];split;.rfl
  .exact hR2.keys
 .rw[et2];split
  .exact hal1
  .exact sY hal1 fun zz=>⟨_,rfl⟩
theorem M2{w:List Int}{root n:Int}{way other:Nat}:∀i,((w.take i).flatMap (lI root n way other)).length<=2*i:=by
 intro p0_;induction p0_ with|zero=>exact aI _|succ i ih=>
  have ih:=ih;rw[ci,FT,aS];have:((w[i]?.toList).flatMap (lI root n way other)).length<=2:=by cases w[i]? with|none=>exact a7 _|some x=>simp only[ct,Ih,KL,bR];unfold lI;split<;>split<;>exact aj rfl
  exact XR ih this
theorem J8{w:List Int}{root n:Int}{way other i:Nat}{x:Int}(hx:w[i]?=ac x):(w.take (i+1)).flatMap (lI root n way other)=sP (x==n&&!(way==1||way==2)) (x,aa "Count") (sP (x==root&&decide (2<other)) (x,aa "Parent") ((w.take i).flatMap (lI root n way other))):=by rw[ci,FT,hx];simp only[ct,Ih,KL,bR,lI];rw[<-gu,wf,wf]
theorem Ox(way:Nat):([iA 1,.int 2].any fun y=>a8 y (.int way))=(way==1||way==2):=by
 rcases way with _|_|_|w;.rfl
 .rfl
 .rfl
 .simp[a8];exact XQ
theorem DZ(right):([DV.bool (right==1),.int right,io 900 0,io 901 0,.int (right-9),.int (right+1),.none]:List DV)=(wy right).map PV.d:=by simp only[wy,au,bI,PV.d]
theorem Bu(root):([io 990 0,io 902 0,.int 5,io 900 0,sA root]:List DV)=(uq root).map PV.d:=by simp only[uq,au,bI,PV.d]
noncomputable def QV(t r k:aW)(root n right:Int)(l:List Int)(way other:Nat)(a a2 da:aW)(x1:DV):aP:=[(aa "keg",.ptr k),(aa "shelf",bg t r),(aa "root",sA root),(aa "nodes",.lst (l.map DV.int)),(aa "way",.int way),(aa "other",.int other),(aa "number",.int n),(aa "head",.ptr a),(aa "right",.int right),(aa "top",.ptr a2),(aa "is_right",.bool (way==1||way==2)),(aa "due",.ptr da),(aa "one",x1)]
noncomputable def Vk(t r k:aW)(root n right:Int)(l:List Int)(way other:Nat)(a a2 da:aW)(w:List Int):Nat×DV->aP|(_,x1)=>QV t r k root n right l way other a a2 da x1
noncomputable def Vl(da:aW)(root n:Int)(way other:Nat)(w:List Int)(Z:Mu):Nat×DV->Mu|(i,_)=>(da,.lst (((w.take i).flatMap (lI root n way other)).map gA))::Z
theorem RY{Y Y':aP}(e:oy Y x d=ac Y')(h:P Y'):xc x d Y P:=by unfold xc;rw[e];exact h
theorem ky(e:l++l'=l2)(R:fF a (.lst l) (.lst l2) Z Z')(D:LS Z d l')(hl:l.length+l'.length<=1000000)(q:Q .none Y Z'):cI G B E (.builtin "list.extend") ([.ptr a]++[d]) Y Z Q:=by subst e;exact Cq R D hl q
theorem gt2(other:Nat):decide ((other:Int)>2)=decide (2<other):=by
 by_cases h:2<other;.rw[decide_eq_true h];exact decide_eq_true (XO h)
 .rw[decide_eq_false h];exact decide_eq_false (XN h)
theorem sQ{D:eM}{l:List DV}(h:D.length<=m)(h2:m<=2000)(h3:l.length<=1):(D.map gA).length+l.length<=1000000:=by rw[af];exact XM h h2 h3
theorem rE{b:Bool}(h:b=ak)(y D):D.map gA++[]=(sP b y D).map gA:=by subst h;exact bR _
theorem yu{b:Bool}(h:b=ai)(y D):D.map gA++[gA y]=(sP b y D).map gA:=by subst h;show _=(D++[y]).map gA;rw[aA];rfl
section
variable (g : dN G) {t r : aW}
include g
theorem Gf{α:Al}(k cells turn left root)(hc:cells.length<=63)(ht0:0<=turn)(ht1:turn<=500)(hl0:0<=left)(hs:d6 lk tab)(htl:tab.length<60)(hal:qL α tab)(hkeys:gc tab)(a900:α 900=aq)(a901:α 901=aq)(a902:α 902=aq)(hroot:(α root).isSome=ai)(hnn:0<(fh tab).length)(hn60:(fh tab).length<=60)(hna:∀n∈fh tab,(α n).isSome=ai)(hbent:∀n∈fh tab,∀way,way<7->∀other,other<6->(rN lk root n way other).isSome=ai):iz G 22 (.ref 593) [.ptr k,bg t r,sA root] ((t,.idic (df α tab))::(r,mo)::(k,.sdic (iq cells turn left))::j6 α tab) (fun d Z'=>∃n way other ws due turn' left',n∈fh tab/\way<7/\other<6/\rN lk root n way other=ac (ws,due)/\turn<=turn'/\turn'<=turn+3/\0<=left'/\d=.lst (due.map gA)/\Z'=(t,.idic (df α (bW tab ws)))::(r,mo)::(k,.sdic (iq cells turn' left'))::j6 α (bW tab ws)):=by
 have hrl:(df α tab).length=tab.length:=af ..;have hna0:fh tab≠[]:=FR.mp hnn;refine Fd (ps:=[aa "keg",aa "shelf",aa "root"]) (rest:=[aa "nodes",aa "way",aa "other",aa "number",aa "head",aa "right",aa "top",aa "is_right",aa "due",aa "one"]) g rfl rfl rfl rfl rfl rfl (rM fun zz zz zz=>rfl) rfl (.cons (ru g) (.cons (lu g) (.cons (qD g) (.cons (rv g) (.cons (dZ g) (.cons (tC g) .nil)))))) (by kernel_rfl) fun B Q W hk hh hm henv hQ=>?_;walk_at "w";refine uf W.O hh ?_ rfl (by rw[henv];kernel_rfl);walk_at "w";refine aw W.O (uV g (hs:=j6 α tab) (tab:=tab) (by rw[hrl];exact I3 htl rfl) (zo hal fun p hp=>.tail _ (.tail _ hp))) (.inr hh) (.take (.take (.skip (.id _)))) (cO hk rfl) ?_;walk_at "w";refine eV W.O (jo g k cells turn left 7 hc ht0 (E9 ht1 rfl) hl0 (by decide) (by decide)) (.inr hh) (.skip (.skip (.take .nil))) (cO hk rfl) ?_;intro d Z' h;refine eZ h ?_;clear h;intro wayI turn1 left1 z1 hw0 hw7 ht10 ht11 hl1 z2;subst z1;subst z2;walk_at "w";refine eV W.O (jo g k cells turn1 left1 6 hc (ba ht0 ht10) (XK ht1 ht11) hl1 (by decide) (by decide)) (.inr hh) (.skip (.skip (.take .nil))) (cO hk rfl) ?_;intro d Z' h;refine eZ h ?_;clear h;intro otherI turn2 left2 z3 ho0 ho6 ht20 ht21 hl2 z4;subst z3;subst z4;walk_at "w";refine Ta (cH rfl) (cH rfl) (cH rfl) ?_;walk_at "w";refine I8 (.inl rfl) (by rw[af];exact je hn60 rfl) (by rw[af]) ?_;walk_at "w";refine eV W.O (jo g k cells turn2 left2 _ hc (ba (ba ht0 ht10) ht20) (XJ ht1 ht11 ht21) hl2 (ip hnn) (G7 hn60 rfl)) (.inr hh) (.skip (.skip (.take .nil))) (cO hk rfl) ?_;intro d Z' h;refine eZ h ?_;clear h;intro pickI turn3 left3 z5 hp0 hp1 ht30 ht31 hl3 z6;subst z5;subst z6;obtain⟨n,hn⟩:∃n,(fh tab)[pickI.toNat]?=ac n:=⟨_,cM (XI hnn hp1)⟩
 have hnm:n∈fh tab:=cF hn;walk_at "w";refine lV (x:=.int n) (.inl rfl) hp0 (XH hn60 hp1) (by rw[bj,hn];rfl) ?_ (fun zz zz=>rfl);walk_at "w";obtain⟨way,rfl,hway⟩:∃w:Nat,wayI=(w:Int)/\w<7:=(bq wayI.toNat (by exact Pi hw0) (by exact XG hw7))
 obtain⟨other,rfl,hother⟩:∃w:Nat,otherI=(w:Int)/\w<6:=(bq otherI.toNat (by exact Pi ho0) (by exact Tq ho6))
 refine aY (cu.mp (hbent n hnm way hway other hother)) fun z7 hb=>?_;obtain⟨ws,due⟩:=z7;refine eu (Vo hs htl hal hkeys a900 a901 a902 hroot (hna n hnm) hb) fun lk2 gn l right gr y38=>eu y38 fun lt w a a2 rows1 y39=>eu y39 fun rows2 rows0 H1 H2 H3 V=>?_;refine hG W.O hh ?_ rfl (by rw[henv];kernel_rfl);walk_at "w";refine cw (K:=Int) (l:=df α tab) (x:=.tup [.int gn,.ptr a]) (.inr (bq t rfl (.head _))) V.row ?_ (fun zz zz=>rfl);walk_at "w";refine ej (j:=1) (x:=.ptr a) (by decide) (by decide) rfl rfl ?_ (fun zz zz=>rfl);walk_at "w";refine aw W.O (C9 g hs (hs:=j6 α tab) (zo hal fun p hp=>.tail _ (.tail _ hp)) 20 n right V.bel) (.inr hh) (.take (.take (.skip (.id _)))) (cO hk rfl) ?_;walk_at "w";refine ED (cH rfl) (cH rfl) ?_;walk_at "w";refine aw W.O (jn g 900 0 (.int right) (by intro h;injection h) (by rw[hrl];exact xn htl rfl)) (.inr hh) (.take (.take .nil)) (cO hk rfl) ?_;rw[V.p0];walk_at "w";refine aw W.O (jn g 901 0 (.bool (right==1)) (by intro h;injection h) V.e1) (.inr hh) (.take (.take .nil)) (cO hk rfl) ?_;rw[V.p1];walk_at "w";refine aw W.O (jn g 902 0 .none (by intro h;injection h) V.e2) (.inr hh) (.take (.take .nil)) (cO hk rfl) ?_;rw[V.p2];walk_at "w";refine aw W.O (dP g 900 0) (.inl rfl) .nil (cO hk rfl) ?_;walk_at "w";refine aw W.O (dP g 901 0) (.inl rfl) .nil (cO hk rfl) ?_;walk_at "w";refine ej (j:=way) (x:=(KR right way).d) (XD) (XC hway) (Dc (cb _) (d7.mpr hway) rfl) (by rw[DZ];exact NV hway) ?_ (fun zz zz=>rfl);walk_at "w";refine iO (mR _ _ _) (.tail (.tail (.tail V.r1))) V.f1 ?_;walk_at "w";refine mw (fun H=>(t,.idic rows0)::(r,mo)::(k,.sdic (iq cells turn3 left3))::H) H1 H2 ?_ fun Q' h6 hz=>?_;rotate_left
 .have h6:(way:Int)=6:=RJ h6
  walk_at "w";refine qy (K:=aV) (l:=PV.dS (eJ l (aa "Count") (KR right way))) (.inr (bq a rfl (.tail _ (.tail _ (.tail _ (V.r2 (Tp h6)).mem))))) Ru Rt (ii W ?_);walk_at "w";refine Ea (K:=aV) (.tail (.tail (.tail (V.r2 (Tp h6))))) V.f2 V.lk1 ?_;walk_at "w";exact hz
 intro H e;obtain rfl:H=H2:=by
  by_cases h6:way=6;.rw[e,h6];rfl
  .have:((way:Int)==6)=ak:=by rw[beq_eq_false_iff_ne];exact XB h6
   rw[e,show((fun i j:Int=>i==j) (way:Int) 6)=ak from this];exact V.n2 h6
 clear e;walk_at "w";refine cw (K:=Int) (l:=rows0) (x:=.tup [.int gr,.ptr a2]) (.inr (bq t rfl (.head _))) V.top ?_ (fun zz zz=>rfl);walk_at "w";refine ej (j:=1) (x:=.ptr a2) (by decide) (by decide) rfl rfl ?_ (fun zz zz=>rfl);walk_at "w";refine mw (fun H=>(t,.idic rows0)::(r,mo)::(k,.sdic (iq cells turn3 left3))::H) H H3 ?_ fun Q' h0 hz=>?_;rotate_left
 .have h0:(other:Int)>0:=of_decide_eq_true h0
  walk_at "w";refine aw W.O (dP g 990 0) (.inl rfl) .nil (cO hk rfl) ?_;walk_at "w";refine aw W.O (dP g 902 0) (.inl rfl) .nil (cO hk rfl) ?_;walk_at "w";refine aw W.O (dP g 900 0) (.inl rfl) .nil (cO hk rfl) ?_;walk_at "w";refine ej (j:=other-1) (x:=(Tk root other).d) (XA) (Xz hother) (by show mz ((other:Int)-((1:Nat):Int)) _=_;rw[<-w6 (show 1<=other by omega)];exact Dc (cb _) (d7.mpr (To hother)) rfl) (by rw[Bu];exact NV (by show other-1<5;exact To hother)) ?_ (fun zz zz=>rfl);walk_at "w";refine iO (mR _ _ _) (.tail (.tail (.tail (V.r3 (Xy h0))))) V.f3 ?_;walk_at "w";exact hz
 intro H' e;obtain rfl:H'=H3:=by
  by_cases h0:other=0;.rw[e,h0];exact V.n3 h0
  .rw[e,show((fun i j:Int=>decide (i>j)) (other:Int) 0)=ai from decide_eq_true (Xx h0)];rfl
 clear e;walk_at "w";refine hG W.O hh ?_ rfl (by rw[henv];kernel_rfl);clear henv;walk_at "w";refine vw W (x:=.int way) (xs:=[.int 1,.int 2]) rfl rfl rfl (by decide +kernel) (Ox way) ?_;walk_at "w";refine pG W.O (ii W ?_);walk_at "w";refine⟨a7 _,fun da=>?_⟩;walk_at "w";refine ED (cH rfl) (cH rfl) ?_;walk_at "w";have hRw:pT ((t,.idic rows0)::(r,mo)::H') rows0 (bW tab ws):=by have:=V.rowF;have:=V.hF;subst rows0;subst H';exact zo V.al fun p hp=>.tail _ (.tail _ hp)
 refine aw W.O (Gb g V.sound hRw 20 root w V.walk) (.inr hh) (.skip (.take (.take (.skip (.id _))))) (cO hk rfl) ?_;have hw9:=A0 V.walk;clear hRw;walk_at "w";refine nj (ρf:=Vk t r k root n right (fh tab) way other a a2 da w) (Zf:=Vl da root n way other w ((t,.idic rows0)::(r,mo)::(k,.sdic (iq cells turn3 left3))::H')) W (cA W.O) (fun i s=>s.1=i) (0,_) rfl rfl rfl ?_ ?_
 .intro B' P R i d' s hd
  refine ar (dM hd) fun x z8 hx=>?_;subst z8;have hiw:=kM hx;have hdl:=M2 (w:=w) (root:=root) (n:=n) (way:=way) (other:=other) i;have hnx:=J8 (root:=root) (n:=n) (way:=way) (other:=other) hx;revert s;refine j5 fun i' x1 e W' zz hk' hh' zz hP hR=>?_;subst e;have hP:=hP (i'+1,.int x) rfl;unfold Vk Vl at hP ⊢;dsimp only at hP ⊢;rw[hnx] at hP;clear hnx hx hd;generalize(w.take i').flatMap (lI root n way other)=D0 at hdl hP ⊢;refine RY (Y':=QV t r k root n right (fh tab) way other a a2 da (.int x)) rfl ?_;refine RZ (n:=99) (fun z:eM=>(QV t r k root n right (fh tab) way other a a2 da (.int x),(da,.lst (z.map gA))::(t,.idic rows0)::(r,mo)::(k,.sdic (iq cells turn3 left3))::H')) (fun z=>z=sP (x==root&&decide (2<other)) (x,aa "Parent") D0) (fun Q' hz=>?_) fun z hz=>?_
  .have hz:=hz _ rfl
   have hl:D0.length<=2000:=by exact Xw hw9 hiw hdl
   walk_at "w";refine kJ (.inr (bq da rfl (.head _))) Lh Lg (ii W' ?_);walk_at "w";cases h1:(x==root) with|false=>refine i0 h1 ?_;refine i0 rfl ?_;walk_at "w";refine eN W'.O (ii W' ?_);walk_at "w";refine⟨a7 _,?_⟩;walk_at "w";refine ky (rE (b:=x==root&&decide (2<other)) (by rw[h1];rfl) (x,aa "Parent") D0) .head (.inl rfl) (sQ hl (aI _) (a7 _)) ?_;walk_at "w";exact hz|true=>refine oY h1 ?_;walk_at "w";cases h2:decide (2<other) with|false=>refine i0 ((gt2 other).trans h2) ?_;refine i0 rfl ?_;walk_at "w";refine eN W'.O (ii W' ?_);walk_at "w";refine⟨a7 _,?_⟩;walk_at "w";refine ky (rE (b:=x==root&&decide (2<other)) (by rw[h1,h2];rfl) (x,aa "Parent") D0) .head (.inl rfl) (sQ hl (aI _) (a7 _)) ?_;walk_at "w";exact hz|true=>refine oY ((gt2 other).trans h2) ?_;walk_at "w";refine eN W'.O (ii W' ?_);walk_at "w";refine⟨aj rfl,?_⟩;walk_at "w";refine ky (yu (b:=x==root&&decide (2<other)) (by rw[h1,h2];rfl) (x,aa "Parent") D0) .head (.inl rfl) (sQ hl (aI _) (aI _)) ?_;walk_at "w";exact hz
  .have hl:z.length<=2000:=by have:=rF (x==root&&decide (2<other)) (x,aa "Parent") D0;rw[hz];exact Xv hw9 hiw hdl this
   rw[<-hz] at hP;clear hz;walk_at "w";refine kJ (.inr (bq da rfl (.head _))) Lh Lg (ii W' ?_);walk_at "w";cases h1:(x==n) with|false=>refine i0 h1 ?_;refine i0 rfl ?_;walk_at "w";refine eN W'.O (ii W' ?_);walk_at "w";refine⟨a7 _,?_⟩;walk_at "w";refine ky (rE (b:=x==n&&!(way==1||way==2)) (by rw[h1];rfl) (x,aa "Count") z) .head (.inl rfl) (sQ hl (aI _) (a7 _)) ?_;walk_at "w";exact hP|true=>refine oY h1 ?_;walk_at "w";cases h2:(!(way==1||way==2)) with|false=>walk_at "w";refine eN W'.O (ii W' ?_);walk_at "w";refine⟨a7 _,?_⟩;walk_at "w";refine ky (rE (b:=x==n&&!(way==1||way==2)) (by rw[h1,h2];rfl) (x,aa "Count") z) .head (.inl rfl) (sQ hl (aI _) (a7 _)) ?_;walk_at "w";exact hP|true=>walk_at "w";refine eN W'.O (ii W' ?_);walk_at "w";refine⟨aj rfl,?_⟩;walk_at "w";refine ky (yu (b:=x==n&&!(way==1||way==2)) (by rw[h1,h2];rfl) (x,aa "Count") z) .head (.inl rfl) (sQ hl (aI _) (aI _)) ?_;walk_at "w";exact hP
 .refine j5 fun i x1 e=>?_
  obtain rfl:i=_:=e;walk_at "w";refine hQ _ _ _ (Cd (by show _::_::_::H'.map (·.1)=_::_::_::(j6 α tab).map (·.1);rw[V.keys]) rfl ?_);refine⟨n,way,other,ws,due,turn3,left3,hnm,hway,hother,hb,by exact ba (ba ht10 ht20) ht30,by exact Xu ht11 ht21 ht31,hl3,?_,?_⟩;.rw[af,bt (aI _),V.due];rfl
  .rw[V.rowF,V.hF]
end
noncomputable def Ju(k:Int):Bool:=(decide (910<=k)&&decide (k<=941))||(k==950||k==951)
noncomputable def wW:Wr:=[(950,2,.ref 951 0),(951,0,.ref 950 2)]
noncomputable def lp(i:Nat)(one:Int):Nat->PV|0=>.ref one 0|m+1=>.ref (910+4*(i:Int)+(m:Int)) ((m:Int).fmod 2)
noncomputable def ei(i:Nat)(one:Int):Nat->Wr|0=>[]|m+1=>ei i one m++[(910+4*(i:Int)+(m:Int),(m:Int).fmod 2,lp i one m)]
theorem yA(i one){m}:ei i one (m+1)=(ei i one m++[(910+4*(i:Int)+(m:Int),(m:Int).fmod 2,lp i one m)]):=rfl
noncomputable def mG(tab:dG):Lk:=fun k=>if Ju k then aq else ac (tab.lk k)
noncomputable def n8(n0:Int)(leaves:List Int):List PV:=[.ref n0 0,.ref 990 0,.ref 950 2,.ref 900 0]++(leaves.take 1).map fun n=>.ref n 1
def Kx(ws:Wr):Prop:=∀w∈ws,Ju w.1=ai/\∃a b,w.2.2=.ref a b
theorem Tl:∀{ws:Wr},Kx ws->∀{tab:dG}{k:Int},¬Ju k=ai->(bW tab ws).lk k=tab.lk k:=by
 intro p0_;induction p0_ with
 |nil=>intro zz zz zz zz;exact rfl
 |cons w r' ih=>intro h tab k hk;unfold bW;rw[Ld];refine(ih (fun x hx=>h x (.tail _ hx)) hk).trans ?_;rw[mS,if_neg];intro q;exact hk (q▸(h w (.head _)).1)
theorem IM(h:Kx ws):d6 (mG tab) (bW tab ws):=by
 intro k r e;unfold mG at e;by_cases hk:Ju k=ai;.rw[if_pos hk] at e;injection e
 .rw[if_neg hk] at e
  rw[Tl h hk];exact aB e
theorem yn(i one m):∃a b,lp i one m=.ref a b:=by cases m<;>exact⟨_,_,rfl⟩
theorem D4(hi:i<8)(one):∀m,m<=4->Kx (ei i one m)/\(ei i one m).length=m:=by
 intro p0_;induction p0_ with
 |zero=>intro zz;exact⟨(fun zz h=>nomatch h),rfl⟩
 |succ m ih=>
  intro h;refine aZ (ih (xn h rfl)) fun a b=>?_;refine⟨fun w hw=>?_,by(first|rw[chainW_e0]|rw[yA]|unfold ei);rw[aS,b];rfl⟩;(first|rw[chainW_e0] at hw|rw[yA] at hw|unfold ei at hw);rcases aJ.mp hw with hw|hw;.exact a w hw
  .cases ap.mp hw
   refine⟨?_,yn i one m⟩;unfold Ju;simp only[iJ,aO,decide_eq_true_eq];left;exact Uv hi h
theorem C0{a b:Wr}(ha:Kx a)(hb:Kx b):Kx (a++b):=fun w hw=>(aJ.mp hw).elim (ha w) (hb w)
theorem qY(tab a b):bW tab (a++b)=bW (bW tab a) b:=by unfold bW;rw[lQ]
theorem LN{a b:DV}(e:Go x y a b Y=ac Y'):∃Y1,pK Y x a Y1/\pK Y1 y b Y':=by unfold Go at e;cases h:oy Y x a with|none=>rw[h] at e;injection e|some Y1=>rw[h] at e;exact bq Y1 (cH h) (cH e)
def NI(x y:aV)(a b:DV)(Y:aP)(Q:aP->Prop):Prop:=match Go x y a b Y with|some Y'=>Q Y'|none=>False
def Ra(G:G0)(B:Bx)(x y:aV)(px py tp:xH)(kk:Nat)(body:List jW)(Q:Fl->aP->Mu->Prop)(ds:List DV)(Y1:aP)(Z':Mu):Prop:=∃I:Nat->aP->Mu->Prop,I 0 Y1 Z'/\
 (∀i d,ds[i]?=ac d->∀Y2 Z2,I i Y2 Z2->wK G B (fun zz=>True) (.Tuple [.Name x px,.Name y py] kk tp) body (.tup [.int (i:Int),d]) (I (i+1)) Q Y2 Z2)/\
 (∀Y2 Z2,I ds.length Y2 Z2->Q .next Y2 Z2)
def VN(G:G0)(B:Bx)(x y:aV)(px py tp:xH)(kk:Nat)(body:List jW)(Q:Fl->aP->Mu->Prop):DV->aP->Mu->Prop:=fun d Y1 Z1=>∃ds e it Z',d=.ptr e/\Z1=zu G ds e it 0++Z'/\Ra G B x y px py tp kk body Q ds Y1 Z'
section
variable {ff : Bool}
theorem FX{Q:Fl->aP->Mu->Prop}(W:Wk G B gs ff)(hn:B.hd=ak)(hs:qC iter=ak)(h:(wI G B E gs ff [] 100).ev iter Y Z (tM (VN G B x y px py tp kk body Q))):EX G B E (fc (.For (.Tuple [.Name x px,.Name y py] kk tp) iter body [] pos) B.env) Y Z Q:=MG W.O hn (fun zz zz zz=>trivial) (Lq W h) (zj hs _)
theorem OC{Q:Fl->aP->Mu->Prop}(W:Wk G B gs ff)(h:Ra G B x y px py tp kk body Q ds Y Z):cI G B E (.type "enumerate") [.lst ds] Y Z (tM (VN G B x y px py tp kk body Q)):=HD W.O fun zz zz=>.mk (kj _ _ _ _ rfl rfl h)
theorem Lr{σ:Type}{ρf:σ->aP}{Zf:σ->Mu}{Q:Fl->aP->Mu->Prop}(W:Wk G B gs ff)(hn:B.hd=ak)(I:Nat->σ->Prop)(s)(h0:I 0 s)(e1:Y=ρf s)(e2:Z=Zf s)(step:∀B' P R(i:Nat)d s,ds[i]?=ac d->I i s->Wk G B' gs ff->B'.env=B.env->B'.k=B.k->B'.hd=B.hd->(∀s',I (i+1) s'->P (ρf s') (Zf s'))->(∀d Y Z,Q (.ret d) Y Z->R (.ret d) Y Z)->NI x y (.int (i:Int)) d (ρf s) fun Y'=>(wI G B' (fun zz zz=>False) gs ff [] 100).exs body Y' (Zf s) (Q9 P R))(fin:∀s,I ds.length s->Q .next (ρf s) (Zf s)):Ra G B x y px py tp kk body Q ds Y Z:=by
 subst e1;subst e2;refine⟨fun i Y Z=>∃s,I i s/\Y=ρf s/\Z=Zf s,⟨s,h0,rfl,rfl⟩,?_,fun Y2 Z2 h=>?_⟩
 .intro i d hd Y2 Z2 hI B' O' zz he hk hh hm
  refine bp hI ?_;clear hI;intro s hI e1 e2;subst e1;subst e2;have W':Wk G B' gs ff:=⟨O',fun h=>hh.trans (W.hf h),W.g,W.hg,he▸W.hk⟩
  have z:=step B' (fun Y Z=>∃s,I (i+1) s/\Y=ρf s/\Z=Zf s) (fun fl Y Z=>match fl with|.brk=>False|fl=>Q fl Y Z) i d s hd hI W' he hk hh (fun s' h=>(cB s' h rfl rfl)) fun zz zz zz h=>h;unfold NI at z;cases e:Go x y (.int (i:Int)) d (ρf s) with|none=>rw[e] at z;exact z.elim|some Y'=>rw[e] at z;refine ar (LN e) fun Y1 p1 p2=>?_;refine Fz O' (hh.trans hn) p1 p2 (((W'.ok _).exs z).mono fun fl Y4 Z4 q=>?_);cases fl with|next=>exact At.get q|cont=>exact At.get q|brk=>exact(At.get q).elim|ret d=>exact At.get q
 .refine bp h ?_
  clear h;intro s hI e1 e2;subst e1;subst e2;exact fin s hI
end
theorem Cf(x:dG):x.d.length=x.length:=af ..
theorem Lo(n0 leaves):[io n0 0,io 990 0,io 950 2,io 900 0]++(leaves.take 1).map (fun n=>io n 1)=(n8 n0 leaves).map PV.d:=by unfold n8;rw[aA,bS];rfl
theorem FV(n0 leaves):(n8 n0 leaves).length<=5:=by unfold n8;rw[aS,af];exact bn (qN _ _) 4
theorem D3(tab ws i x m):jq (bW tab (ws++ei i x m)).d (910+4*(i:Int)+(m:Int)) (.tup [.int ((m:Int).fmod 2),(lp i x m).d])=(bW tab (ws++ei i x (m+1))).d:=by rw[qZ,show ei i x (m+1)=ei i x m++[(910+4*(i:Int)+(m:Int),(m:Int).fmod 2,lp i x m)] from rfl,<-gu,qY tab (ws++ei i x m)];rfl
theorem Jr(n):d8 n (DV.int (-1))=(d8 n (-1)).map DV.int:=by rw[List.map_replicate]
noncomputable def Y9(k:aW)(leaves:List Int)(wrong:List PV):Wr×Int×Int×DV×DV×DV×DV->aP|(_,_,_,x1,x2,x3,x4)=>[(aa "keg",.ptr k),(aa "leaves",.lst (leaves.map DV.int)),(aa "wrong",.lst (wrong.map PV.d)),(aa "at",x1),(aa "one",x2),(aa "here",x3),(aa "turn",x4)]
noncomputable def Qu(L t r k:aW)(tab:dG)(tr:List (aV×PV))(cells:List Int):Wr×Int×Int×DV×DV×DV×DV->Mu|(ws,turn,left,_)=>[(L,MO.cell (bg t r)),(t,.idic (bW tab ws).d),(r,.sdic (PV.dS tr)),(k,.sdic (iq cells turn left))]
def Zb(turn:Int)(i:Nat):Wr×Int×Int×DV×DV×DV×DV->Prop|(ws,turn',left',_)=>Kx ws/\ws.length<=2+4*i/\turn<=turn'/\turn'<=turn+i/\0<=left'
noncomputable def hrR(k:aW)(leaves:List Int)(wrong:List PV)(i:Nat)(x:Int):Nat×DV->aP|(m,y)=>[(aa "keg",.ptr k),(aa "leaves",.lst (leaves.map DV.int)),(aa "wrong",.lst (wrong.map PV.d)),(aa "at",.int (i:Int)),(aa "one",.int x),(aa "here",(lp i x m).d),(aa "turn",y)]
noncomputable def hrM(L t r k:aW)(tab:dG)(tr:List (aV×PV))(cells:List Int)(ws:Wr)(i:Nat)(x turn left:Int):Nat×DV->Mu|(m,_)=>[(L,MO.cell (bg t r)),(t,.idic (bW tab (ws++ei i x m)).d),(r,.sdic (PV.dS tr)),(k,.sdic (iq cells turn left))]
theorem Zd(L t r k tab tr cells ws i x turn left y):hrM L t r k tab tr cells ws i x turn left (0,y)=[(L,MO.cell (bg t r)),(t,.idic (bW tab ws).d),(r,.sdic (PV.dS tr)),(k,.sdic (iq cells turn left))]:=by show[_,(t,MO.idic (bW tab (ws++[])).d),_,_]=_;rw[bR]
section
variable (g : dN G) {t r : aW}
include g
theorem zd(k cells turn left leaves ks n0)(hc:cells.length<=63)(ht0:0<=turn)(ht1:turn<=500)(hl0:0<=left)(htl:tab.length<=20)(hll:leaves.length<=8)(hW:cE (md (bW tab wW)) tr=ac (ac ks))(hn:(fh (bW tab wW))[0]?=ac n0)(hnl:(fh (bW tab wW)).length<=60)(hwr:∀v∈n8 n0 leaves,∃h,fP (md (bW tab wW)) 64 [] v=ac h/\lG ks h=-1)(hch:∀i one,leaves[i]?=ac one->∀m,m<4->cE (bN (mG tab) (ei i one m)) tr=ac (ac ks)/\∃h,fP (bN (mG tab) (ei i one m)) 64 [] (lp i one m)=ac h/\lG ks h=i):iz G 8 (.ref 605) [.ptr k,bg t r,.lst (leaves.map DV.int)] [(t,.idic tab.d),(r,.sdic (PV.dS tr)),(k,.sdic (iq cells turn left))] (fun d Z'=>∃ws turn' left',d=.bool ai/\Kx ws/\ws.length<=34/\turn<=turn'/\turn'<=turn+8/\0<=left'/\Z'=[(t,.idic (bW tab ws).d),(r,.sdic (PV.dS tr)),(k,.sdic (iq cells turn' left'))]):=by
 have l1:=kH tab 950 2 (.ref 951 0);have l2:=kH (cR tab 950 2 (.ref 951 0)) 951 0 (.ref 950 2);have hwl:=FV n0 leaves;refine iY (Y0:=[(aa "keg",.ptr k),(aa "leaves",.lst (leaves.map DV.int)),(aa "wrong",.any),(aa "at",.any),(aa "one",.any),(aa "here",.any),(aa "turn",.any)]) (Yc:=[bg t r]) (ps:=[aa "keg",aa "shelf",aa "leaves"]) (Z1:=fun L=>[(L+1,MO.cell (bg t r)),(t,.idic tab.d),(r,.sdic (PV.dS tr)),(k,.sdic (iq cells turn left))]) g rfl rfl rfl rfl rfl (rM fun zz zz zz=>rfl) (.cons (dZ g) (.cons (ru g) (.cons (qD g) (.cons (Ab g) (.cons (rq g) (.cons (lu g) (.cons (ml g) .nil))))))) (.inr (by kernel_rfl)) (by decide +kernel) ⟨rfl,?_,?_,?_,by simp only[au,bI];decide +kernel⟩ (fun zz=>rfl) ?_;.exact fun n=>dJ (.inl rfl) (dJ (.inr ⟨rfl,rfl⟩) (dJ (.inl rfl) wU))
 .exact dJ ⟨rfl,fun zz=>.head _⟩ (dJ ⟨rfl,fun zz=>.tail _ (.tail _ (.head _))⟩ (dJ ⟨rfl,fun h=>absurd rfl h⟩ (dJ ⟨rfl,fun h=>absurd rfl h⟩ (dJ ⟨rfl,fun h=>absurd rfl h⟩ (dJ ⟨rfl,fun h=>absurd rfl h⟩ (dJ ⟨rfl,fun h=>absurd rfl h⟩ wU))))))
 .intro n p hp
  cases ap.mp hp;exact jT rfl rfl (fun zz=>.tail _ (.head _))
 intro B Q W hk hh hm henv hQ;have hcs:dg B.env (aa "shelf") (B.L+1):=by rw[henv];exact⟨rfl,rfl⟩
 walk_at "w";refine bD W hcs (.head _) (by intro h;injection h) (by decide +kernel) ?_;walk_at "w";refine aw W.O (dP g 951 0) (.inl rfl) .nil (cO hk rfl) ?_;walk_at "w";refine aw W.O (jn g 950 2 (PV.d (.ref 951 0)) (by intro h;injection h) (by rw[Cf];exact je htl rfl)) (.inr hh) (.skip (.take (.take .nil))) (cO hk rfl) ?_;rw[qZ];walk_at "w";refine bD W hcs (.head _) (by intro h;injection h) (by decide +kernel) ?_;walk_at "w";refine aw W.O (dP g 950 2) (.inl rfl) .nil (cO hk rfl) ?_;walk_at "w";refine aw W.O (jn g 951 0 (PV.d (.ref 950 2)) (by intro h;injection h) (by rw[Cf];exact Uu htl l1)) (.inr hh) (.skip (.take (.take .nil))) (cO hk rfl) ?_;rw[qZ,show cR (cR tab 950 2 (.ref 951 0)) 951 0 (.ref 950 2)=bW tab wW from rfl];walk_at "w";refine eN W.O (ii W ?_);walk_at "w";refine bD W hcs (.head _) (by intro h;injection h) (by decide +kernel) ?_;walk_at "w";have l3:(bW tab wW).length<=22:=by show(cR (cR tab 950 2 (.ref 951 0)) 951 0 (.ref 950 2)).length<=22;exact Ut htl l1 l2
 refine aw W.O (uV g (hs:=[]) (tab:=bW tab wW) (by rw[Cf];exact GH l3 rfl) (.self _ _)) (.inr hh) (.skip (.take (.take .nil))) (cO hk rfl) ?_;walk_at "w";refine lV (x:=.int n0) (.inl rfl) (mE 0) (by decide) (by rw[bj];exact congrArg (Eo DV.int) hn) ?_ (fun zz zz=>rfl);walk_at "w";refine aw W.O (dP g n0 0) (.inl rfl) .nil (cO hk rfl) ?_;walk_at "w";refine aw W.O (dP g 990 0) (.inl rfl) .nil (cO hk rfl) ?_;walk_at "w";refine aw W.O (dP g 950 2) (.inl rfl) .nil (cO hk rfl) ?_;walk_at "w";refine aw W.O (dP g 900 0) (.inl rfl) .nil (cO hk rfl) ?_;walk_at "w";refine⟨aj rfl,?_⟩;walk_at "w";refine ij (cl:=[]) W ⟨by rw[henv];rfl,by decide +kernel,rfl,by decide +kernel⟩ rfl rfl ?_;walk_at "w";refine tH W.O ?_;walk_at "w";refine bq _ rfl (fun sa=>?_);walk_at "w";refine qo W.O (.inl rfl) (by rw[af];exact je hll rfl) ?_ (fun zz zz=>⟨_,rfl⟩);have hl1:(leaves.take 1).length<=1:=qN _ _;have ew:=Lo n0 leaves;rw[sx,show xU leaves aq (ac 1)=leaves.take 1 from vq leaves 1];generalize n8 n0 leaves=wrong at hwl hwr ew;generalize leaves.take 1=lv at hl1 ew ⊢;walk_at "w";refine fu W (.cons (dZ g) .nil) (by kernel_rfl) (cA W.O) (by rw[af];exact je hl1 rfl) (fun i out Z=>out=(lv.take i).map (fun n=>io n 1)/\Z=Qu (B.L+1) t r k tab tr cells (wW,turn,left,.none,.none,.none,.none)) ⟨rfl,rfl⟩ ?_ ?_
 .intro B' P i d' out Z2 hd hI W' hec hk' hh' zz hP
  refine aZ hI ?_;clear hI;intro e1 e2;subst e1;subst e2;refine ar (dM hd) fun x z1 hx=>?_;subst z1;walk_at "w";refine aw W'.O (dP g x 1) (.inl rfl) .nil (cO (hk'.trans hk) rfl) ?_;walk_at "w";exact hP _ _ ⟨by rw[ci,hx,ct,aA];rfl,rfl⟩
 intro out Z hI;refine aZ hI ?_;clear hI;intro e1 e2;subst e1;subst e2;rw[af,bt (aI _)];walk_at "w";refine vz W.O (.inl rfl) (.inl rfl) (by rw[af];show 4+_<=_;exact Us hl1) ?_;rw[ew];clear ew hl1;walk_at "w";refine ij (cl:=[(aa "shelf",B.L+1)]) W ⟨by rw[henv];rfl,by decide +kernel,rfl,by decide +kernel⟩ rfl rfl ?_;walk_at "w";refine fu W (.cons (ml g) .nil) (by kernel_rfl) (cA W.O) (by rw[af];exact je hwl rfl) (fun i out Z=>out=((wrong.take i).map fun zz=>(-1:Int)).map DV.int/\Z=Qu (B.L+1) t r k tab tr cells (wW,turn,left,.none,.none,.none,.none)) ⟨rfl,rfl⟩ ?_ ?_
 .intro B' P i d' out Z2 hd hI W' hec hk' hh' zz hP
  refine aZ hI ?_;clear hI;intro e1 e2;subst e1;subst e2;refine ar (dM hd) fun x z2 hx=>?_;subst z2;have hcc:dg B'.env (aa "shelf") (B.L+1):=by rw[hec,henv];exact⟨rfl,rfl⟩
  clear hec henv hcs;refine ar (hwr x (cF hx)) fun hv hv1 hv2=>?_;walk_at "w";refine bD W' hcc (.head _) (by intro h;injection h) (by decide +kernel) ?_;walk_at "w";refine aw W'.O (kD g (jr _) x ks hW hv hv1) (.inr (hh'.trans hh)) (.skip (.take (.take .nil))) (cO (hk'.trans hk) rfl) ?_;walk_at "w";exact hP _ _ ⟨by rw[ci,hx,ct,aA,aA,hv2];rfl,rfl⟩
 intro out Z hI;refine aZ hI ?_;clear hI;intro e1 e2;subst e1;subst e2;rw[af,bt (aI _)];walk_at "w";refine eN W.O (ii W ?_);walk_at "w";refine⟨aj rfl,?_⟩;walk_at "w";refine I8 (.inl rfl) (by rw[af];exact je hwl rfl) (by rw[af]) ?_;walk_at "w";refine LR W.O (je hwl rfl) ?_;rw[Jr];walk_at "w";refine vv W.O (.inl rfl) (.inl rfl) ?_;rw[List.map_const',decide_eq_true rfl];walk_at "w";refine FX W hh rfl ?_;walk_at "w";refine OC W ?_;refine Lr (ρf:=Y9 k leaves wrong) (Zf:=Qu (B.L+1) t r k tab tr cells) W hh (Zb turn) (wW,turn,left,_,_,_,_) ⟨?_,aj rfl,mE _,by exact Ur,hl0⟩ rfl rfl ?_ ?_
 .intro w hw
  rcases ao.mp hw with rfl|hw;.exact⟨rfl,_,_,rfl⟩
  .cases ap.mp hw
   exact⟨rfl,_,_,rfl⟩
 .intro B' P R i d' s hd
  refine ar (dM hd) fun x z3 hx=>?_;subst z3;have hi8:i<8:=du (kM hx) hll;revert s;refine NM fun ws turn' left' x1 x2 x3 x4 hI W' he hk' hh' hP hR=>?_;refine rH hI ?_;clear hI;intro hws hwl2 ht2 ht3 hl2;have hcc:dg B'.env (aa "shelf") (B.L+1):=he▸hcs;have hh2:=hh'.trans hh;have hk2:=hk'.trans hk;clear hcs henv he;walk_at "w";refine aw W'.O (dP g x 0) (.inl rfl) .nil (cO hk2 rfl) ?_;walk_at "w";refine eV W'.O (jo g k cells turn' left' 4 hc (ba ht0 ht2) (Uq ht1 hi8 ht3) hl2 (by decide) (by decide)) (.inr hh2) (.skip (.skip (.skip (.take .nil)))) (cO hk2 rfl) ?_;intro d Z' h;refine eZ h ?_;clear h;intro mI turn2 left2 z4 hm0 hm4 ht20 ht21 hl3 z5;subst z4;subst z5;walk_at "w";refine m5 W'.O fun ra=>?_;walk_at "w";refine Oz (ρf:=hrR k leaves wrong i x) (Zf:=hrM (B.L+1) t r k tab tr cells ws i x turn2 left2) W' (mV W'.O hh2 (G6 hm4 rfl) (Up hm0)) (fun m s=>s.1=m) (0,x4) rfl rfl (Zd ..).symm ?_ ?_
  .intro B2 P2 R2 m d' s hd
   refine ar (dM hd) fun q z6 hq=>?_;subst z6;obtain⟨hq1,hq2⟩:=cq.mp hq;rw[dI] at hq1;rw[List.getElem_range] at hq2;subst hq2;have hm3':m<4:=by exact Uo hm4 hq1
   have hcl:=(D4 hi8 x m (Un hm4 hq1)).2;have hpl:=l4 tab (ws++ei i x m);rw[aS,hcl] at hpl;refine g7 (yn i x m) fun ha hb hab=>?_;have hne:(lp i x m).d≠.any:=by rw[hab];intro h;injection h
   revert s;refine j5 fun m' y e W2 zz he2 hk3 hh3 zz hP2 hR2=>?_;have e:m=m':=Lj e;subst e;have hcc2:dg B2.env (aa "shelf") (B.L+1):=he2▸hcc;have hh4:=hh3.trans hh2;have hk4:=hk3.trans hk2;walk_at "w";refine bD W2 hcc2 (.head _) (by intro h;injection h) (by decide +kernel) ?_;walk_at "w";refine sy (jJ (by decide)) ?_;walk_at "w";refine lc (by decide) ?_;walk_at "w";refine aw W2.O (jn g (910+4*(i:Int)+(m:Int)) ((m:Int).fmod 2) (lp i x m).d hne (by rw[Cf];exact Um htl hi8 hwl2 hm4 hq1 hpl)) (.inr hh4) (.skip (.take (.take .nil))) (cO hk4 rfl) ?_;rw[D3];walk_at "w";refine sy (jJ (by decide)) ?_;walk_at "w";refine lc (by decide) ?_;walk_at "w";refine aw W2.O (dP g (910+4*(i:Int)+(m:Int)) ((m:Int).fmod 2)) (.inl rfl) .nil (cO hk4 rfl) ?_;walk_at "w";exact hP2 (m+1,.int (m:Int)) rfl
  .refine j5 fun m y e=>?_
   obtain rfl:m=mI.toNat:=by rw[show m=_ from e,af,dI]
   have hm4:mI.toNat<4:=by exact Ul hm4
   refine aZ (D4 hi8 x mI.toNat (b8 hm4)) fun hcu hcl=>?_;refine sS (hch i x hx mI.toNat hm4) fun hW1 hv hv1 hv2=>?_;walk_at "w";refine bD W' hcc (.head _) (by intro h;injection h) (by decide +kernel) ?_;walk_at "w";have hS:d6 (bN (mG tab) (ei i x mI.toNat)) (bW tab (ws++ei i x mI.toNat)):=by rw[qY];exact kF (IM hws) _
   refine aw W'.O (kD g hS (lp i x mI.toNat) ks hW1 hv hv1) (.inr hh2) (.skip (.take (.take .nil))) (cO hk2 rfl) ?_;rw[hv2];walk_at "w";refine i0 (bne_self_eq_false _) ?_;walk_at "w";exact hP (ws++ei i x mI.toNat,turn2,left2,_,_,_,_) ⟨C0 hws hcu,by rw[aS,hcl];exact(bX hwl2 (b8 hm4):_<=(2+4*i)+4),by exact ba ht2 ht20,by exact Uk ht3 ht21,hl3⟩
 .refine NM fun ws turn' left' x1 x2 x3 x4 hI=>?_
  refine rH hI ?_;clear hI;intro hws hwl2 ht2 ht3 hl2;rw[af] at hwl2 ht3;walk_at "w";exact hQ _ _ _ (kO rfl ⟨ws,turn',left',rfl,hws,by exact Uj hll hwl2,ht2,by exact Ui hll ht3,hl2,rfl⟩)
end
noncomputable def EC:PV->DV|.null=>.tup [.str (aa "null")]|.bool b=>.tup [.str (aa "truth"),.int (if b then 1 else 0)]|.int i=>.tup [.str (aa "int"),.int i]|.name x=>.tup [.str (aa "name"),.str x]|.ref n g=>.tup [.str (aa "ref"),.int n,.int g]|_=>.none
noncomputable def lW(tl:PV->Option DV)(l:List (aV×PV))(x:aV):Option (List DV):=match fN l x with|none=>aq|some v=>if v.isNull then ac [] else(tl v).map fun d=>[.tup [.str x,d]]
noncomputable def fq:Nat->PV->Option DV
 |0,_=>aq|f+1,.arr l=>if 900<l.length then aq else(fi (fq f) l).map fun ds=>.tup (.str (aa "array")::ds)
 |f+1,.dict l=>if 63<l.length then aq else(fi (lW (fq f) l) (nu (l.map (·.1)))).map fun ds=>.tup (.str (aa "dict")::ds.flatten)
 |f+1,.stream h=>(fq f h).map fun d=>.tup [.str (aa "stream"),d,.byt #[]]
 |_+1,v=>ac (EC v)
theorem lU{f l}:fq (f+1) (.arr l)=(if 900<l.length then aq else(fi (fq f) l).map fun ds=>.tup (.str (aa "array")::ds)):=rfl
theorem lT{f l}:fq (f+1) (.dict l)=(if 63<l.length then aq else(fi (lW (fq f) l) (nu (l.map (·.1)))).map fun ds=>.tup (.str (aa "dict")::ds.flatten)):=rfl
theorem lS{f h}:fq (f+1) (.stream h)=((fq f h).map fun d=>.tup [.str (aa "stream"),d,.byt #[]]):=rfl
theorem F9{y:List DV}(e:lW tl l x=ac y):y.length<=1:=by
 unfold lW at e;split at e;.injection e
 .split at e
  ·(injection e with e;subst e);exact a7 _
  .refine ar (aD.mp e) fun d zz z1=>?_
   subst z1;exact aI _
set_option tactic.hygienic true in
theorem B5(h:∀x y,f x=ac y->y.length<=1):∀{l:List α}{r:List (List DV)},fi f l=ac r->r.flatten.length<=l.length
 |[],r,e=>by(injection e with e;subst e);exact aI _
 |a::l,r,e=>by
  (first|rw[mapO_e0] at e|rw[q9] at e|unfold fi at e);split at e;.injection e
  .rename_i y hy
   refine ar (aD.mp e) fun l' hl' z2=>?_;subst z2;have h1:=h _ _ hy;have h2:=B5 h hl';rw[Ig,aS,cK];exact Uh h1 h2
noncomputable def zp(f:Nat)(tab:dG)(n:Int):Option DV:=match tab.lk n with|none=>aq|some (gn,v)=>(fq f v).map fun d=>.tup [.int n,.int gn,d]
noncomputable def Rv(f:Nat)(tr:List (aV×PV)):Option DV:=if 63<tr.length then aq else(fi (lW (fq f) tr) (nu (tr.map (·.1)))).map fun ds=>.tup (.str (aa "dict")::ds.flatten)
noncomputable def mP(f:Nat)(tab:dG)(tr:List (aV×PV)):Option DV:=match fi (zp f tab) (k8 (tab.map (·.1))),Rv f tr with|some rs,ac d=>ac (.tup [.tup rs,d])|_,_=>aq
theorem F2{y:List DV}(e:lW tl l x=ac y):∃v,ku (PV.dS l) x=ac v.d/\(v.isNull=ai->y=[])/\(v.isNull=ak->∃d,tl v=ac d/\y=[.tup [.str x,d]]):=by
 unfold lW at e;cases hv:fN l x with|none=>rw[hv] at e;injection e|some v=>
  rw[hv] at e;dsimp only at e;refine cB v (by rw[gy,hv];rfl) (fun h=>?_) (fun h=>?_);.rw[if_pos h] at e;exact(aB e).symm
  .rw[h,if_neg (by decide)] at e
   refine ar (aD.mp e) ?_;clear e;intro d hd e;exact bq d hd e.symm
theorem DP{ds:List (List DV)}{y:List DV}(h:ds[i]?=ac y):(ds.take (i+1)).flatten=(ds.take i).flatten++y:=by rw[ci,h,ct,qO];simp
theorem xN{y:DV}(h:ds[i]?=ac y):ds.take i++[y]=ds.take (i+1):=by rw[ci,h,ct]
theorem uN{l:List α}{ds:List β}(h:ds.length=l.length):ds.take (l.map f).length=ds:=by rw[af,<-h];exact List.take_length
noncomputable def rg:PV->Nat|.null=>0|.bool _=>1|.int _=>2|.name _=>4|.ref _ _=>6|.arr _=>7|.dict _=>8|.stream _=>9
noncomputable def EU:Nat->aV|0=>aa "null"|1=>aa "truth"|2=>aa "int"|3=>aa "real"|4=>aa "name"|5=>aa "string"|6=>aa "ref"|7=>aa "array"|8=>aa "dict"|_=>aa "stream"
theorem Jf:∀n,n<10->∀k,k<10->decide (EU n=EU k)=(n==k):=by decide +kernel
theorem Jg(v):mh v=EU (rg v)/\rg v<10:=by cases v<;>exact⟨rfl,aj rfl⟩
theorem kc(v k)(h:k<10):decide (mh v=EU k)=(rg v==k):=by refine aZ (Jg v) fun e l=>?_;rw[e];exact Jf _ l k h
theorem LK{n:Int}{y:DV}(h:zp f tab n=ac y):∃gn v d,ku tab.d n=ac (.tup [.int gn,v.d])/\fq f v=ac d/\y=.tup [.int n,.int gn,d]:=by unfold zp at h;cases e:tab.lk n with|none=>rw[e] at h;injection h|some p=>rw[e] at h;refine ar (aD.mp h) fun d hd e2=>?_;exact i5 p.1 p.2 d (by rw[dG.lkD,e];rfl) hd e2.symm
theorem Gg(h:mP f tab tr=ac res):∃rs ds,fi (zp f tab) (k8 (tab.map (·.1)))=ac rs/\fi (lW (fq f) tr) (nu (tr.map (·.1)))=ac ds/\tr.length<=63/\res=.tup [.tup rs,.tup (.str (aa "dict")::ds.flatten)]:=by
 unfold mP at h;cases h1:fi (zp f tab) (k8 (tab.map (·.1))) with|none=>rw[h1] at h;injection h|some rs=>
  cases h2:Rv f tr with|none=>rw[h1,h2] at h;injection h|some d=>
   rw[h1,h2] at h;unfold Rv at h2;by_cases hl:63<tr.length;.injection (if_pos hl).symm.trans h2
   .refine ar (aD.mp ((if_neg hl).symm.trans h2)) fun ds hds e=>?_
    exact dw rs ds rfl hds (b7 hl) (by rw[e];exact(aB h).symm)
theorem Lx(h:fq (f+1) (.arr l)=ac res):l.length<=900/\∃ds,fi (fq f) l=ac ds/\.tup (.str (aa "array")::ds)=res:=by
 (first|rw[toldP_e0] at h|rw[lU] at h|rw[lT] at h|rw[lS] at h|unfold fq at h);by_cases hl:900<l.length;.injection (if_pos hl).symm.trans h
 .exact⟨b7 hl,aD.mp ((if_neg hl).symm.trans h)⟩
section
variable (g : dN G)
include g
theorem tX(v)(h:yf v=ai):g8 G 1 (.ref 272) [.str (mh v),v.d] [] (fun d Z'=>d=EC v/\Z'=[]):=by
 refine eA (ps:=[aa "kind",aa "value"]) (rest:=[]) g rfl rfl rfl rfl rfl rfl (jN fun zz zz=>rfl) rfl (.cons (vZ g) .nil) (by kernel_rfl) fun B Q W hk hh hm hQ=>?_;walk_at "w";refine dq W.O (cS v) (by decide +kernel) _ (kc v 0 (by decide)) ?_;cases h0:(rg v==0) with
 |true=>
  obtain rfl:v=.null:=by cases v<;>first|rfl|injection h0
  walk_at "w";exact hQ _ _ _ (cT rfl ⟨rfl,rfl⟩)
 |false=>
 walk_at "w";refine dq W.O (cS v) (by decide +kernel) _ (kc v 1 (by decide)) ?_;cases h1:(rg v==1) with
 |true=>
  obtain⟨b,rfl⟩:∃b,v=.bool b:=by cases v<;>first|exact⟨_,rfl⟩|injection h1
  walk_at "w";rw[PV.d];cases b with|true=>walk_at "w";exact hQ _ _ _ (cT rfl ⟨rfl,rfl⟩)|false=>walk_at "w";exact hQ _ _ _ (cT rfl ⟨rfl,rfl⟩)
 |false=>
 walk_at "w";refine dq W.O (cS v) (by decide +kernel) _ (kc v 2 (by decide)) ?_;cases h2:(rg v==2) with
 |true=>
  obtain⟨b,rfl⟩:∃b,v=.int b:=by cases v<;>first|exact⟨_,rfl⟩|injection h2
  walk_at "w";exact hQ _ _ _ (cT rfl ⟨by rw[PV.d];rfl,rfl⟩)
 |false=>
 walk_at "w";refine dq W.O (cS v) (by decide +kernel) ak ((kc v 3 (by decide)).trans (by cases v<;>rfl)) ?_;walk_at "w";refine dq W.O (cS v) (by decide +kernel) _ (kc v 4 (by decide)) ?_;cases h4:(rg v==4) with
 |true=>
  obtain⟨b,rfl⟩:∃b,v=.name b:=by cases v<;>first|exact⟨_,rfl⟩|injection h4
  rw[PV.d];walk_at "w";exact hQ _ _ _ (cT rfl ⟨rfl,rfl⟩)
 |false=>
 walk_at "w";refine dq W.O (cS v) (by decide +kernel) ak ((kc v 5 (by decide)).trans (by cases v<;>rfl)) ?_;obtain⟨n,gn,rfl⟩:∃n gn,v=.ref n gn:=by cases v<;>first|exact⟨_,_,rfl⟩|(cases h;done)|(cases h0;done)|(cases h1;done)|(cases h2;done)|injection h4
 rw[PV.d];walk_at "w";exact hQ _ _ _ (cT rfl ⟨rfl,rfl⟩)
theorem oj(f l ds d0 μ0)(hds:fi (lW (fq f) l) (nu (l.map (·.1)))=ac ds)(hl9:l.length<=63)(hne:d0≠.any)(hkd:g8 G 1 (.ref 265) [d0] μ0 (fun x Z'=>x=.str (aa "dict")/\Z'=μ0))(hD:∀Z,(∀p∈μ0,p∈Z)->DS Z d0 (PV.dS l))(ih:∀v res,fq f v=ac res->g8 G (f+1) (.ref 277) [v.d] [] (fun d Z'=>d=res/\Z'=[])):g8 G (f+2) (.ref 277) [d0] μ0 (fun d Z'=>d=.tup (.str (aa "dict")::ds.flatten)/\Z'=μ0):=by
 have hkl:(PV.dS l).length=l.length:=by rw[PV.dS_map,af]
 have hkm:(PV.dS l).map (·.1)=l.map (·.1):=by rw[PV.dS_map,bS];rfl
 have hsl:(nu (l.map (·.1))).length=l.length:=by rw[(qs _).length_eq,af]
 have hdl:ds.flatten.length<=64:=by have:=B5 (fun x y e=>F9 e) hds;exact Ug hl9 hsl this
 refine iY (Y0:=[(aa "kind",.any)]) (Yc:=[d0]) (ps:=[aa "value"]) (Z1:=fun L=>(L+1,.cell (d0))::μ0) g rfl rfl rfl rfl rfl (gC fun zz=>rfl) (.cons (kN g) (.cons (vV g) (.cons (eU g) (.cons (sK g) (.cons (vZ g) (.cons (qa g) .nil)))))) (.inr (by kernel_rfl)) (by decide +kernel) ⟨rfl,fun n x hx=>(by cases ap.mp hx;exact .inr ⟨rfl,rfl⟩),fun p hp=>(by cases ap.mp hp;exact⟨rfl,fun h=>absurd rfl h⟩),fun n p hp=>(by cases ap.mp hp;exact(jT rfl rfl (fun zz=>bo))),by decide⟩ (fun zz=>rfl) fun B Q W hk hh hm henv hQ=>?_;have hcs:dg B.env (aa "value") (B.L+1):=by rw[henv];exact⟨rfl,rfl⟩
 have hD':=hD ((B.L+1,MO.cell d0)::μ0) (fun p hp=>.tail _ hp);walk_at "w";refine bD W hcs (.head _) hne (by decide +kernel) ?_;walk_at "w";refine aw W.O hkd (.inl rfl) (.skip (.id _)) (cO hk (by simp)) ?_;walk_at "w";refine dq W.O (by decide +kernel) (by decide +kernel) ak (by decide +kernel) ?_;walk_at "w";refine dq W.O (by decide +kernel) (by decide +kernel) ai (by decide +kernel) ?_;walk_at "w";refine ij (cl:=[(aa "value",B.L+1)]) W ⟨by rw[henv];rfl,by decide +kernel,rfl,by decide +kernel⟩ rfl rfl ?_;walk_at "w";refine bD W hcs (.head _) hne (by decide +kernel) ?_;walk_at "w";refine ui W.O hD' (by rw[hkl];exact GH hl9 rfl) ?_;rw[hkm];walk_at "w";refine yU W (.cons (eU g) .nil) (by kernel_rfl) (cA W.O) (by rw[af];exact Uf hl9 hsl) (fun i out Z=>out=(ds.take i).flatten/\Z=(B.L+1,.cell d0)::μ0) ⟨rfl,rfl⟩ ?_ ?_
 .intro B' P i d' out Z2 hd hI W' hec hk' hh' zz hP
  refine aZ hI ?_;clear hI;intro e1 e2;subst e1;subst e2;refine ar (dM hd) fun x z3 hx=>?_;subst z3;have hcc:dg B'.env (aa "value") (B.L+1):=by rw[hec,henv];exact⟨rfl,rfl⟩
  clear hec henv hcs;refine ar (pB hds hx) fun y hy hyn=>?_;refine bp (F2 hy) fun v hld hv1 hv2=>?_;have hP:=hP _ _ ⟨(DP hyn).symm,rfl⟩;walk_at "w";refine bD W' hcc (.head _) hne (by decide +kernel) ?_;walk_at "w";refine cw (K:=aV) (l:=PV.dS l) (x:=v.d) hD' hld ?_ (fun zz zz=>rfl);walk_at "w";refine gz (fC v) rfl ?_;cases hn:v.isNull with|true=>walk_at "w";rw[hv1 hn,bR] at hP;exact hP|false=>refine ar (hv2 hn) fun d' hd' e=>?_;rw[e] at hP;walk_at "w";refine bD W' hcc (.head _) hne (by decide +kernel) ?_;walk_at "w";refine cw (K:=aV) (l:=PV.dS l) (x:=v.d) hD' hld ?_ (fun zz zz=>rfl);walk_at "w";refine aw W'.O (ih v d' hd') (.inl rfl) .nil (cO (hk'.trans hk) (by simp)) ?_;walk_at "w";exact hP
 .intro out Z hI
  refine aZ hI ?_;clear hI;intro e1 e2;subst e1;subst e2;rw[uN ((l9 hds))];walk_at "w";refine kP (ds:=ds.flatten) W.O (je hdl rfl) ?_;walk_at "w";refine qx W.O (by rw[bQ];exact Ue hdl) ?_;walk_at "w";exact hQ _ _ _ (kO rfl ⟨rfl,rfl⟩)
theorem xP:∀(f:Nat)v res,fq f v=ac res->g8 G (f+1) (.ref 277) [v.d] [] (fun d Z'=>d=res/\Z'=[]):=by
 intro f;induction f with
 |zero=>intro v res h;injection h
 |succ f ih=>
 intro v res h;cases hd:dp v.tg with
 |true=>
  refine aY (uz hd) fun l z4=>?_;subst z4;(first|rw[toldP_e0] at h|rw[lU] at h|rw[lT] at h|rw[lS] at h|unfold fq at h);by_cases hl9:63<l.length;.injection (if_pos hl9).symm.trans h
  .refine ar (aD.mp ((if_neg hl9).symm.trans h)) fun ds hds z5=>?_
   subst z5;exact oj g f l ds (PV.d (.dict l)) [] hds (Pl hl9 rfl) (PV.d_any _) (iQ g (.dict l)) (fun Z zz=>by rw[PV.d];exact .inl rfl) ih
 |false=>
 refine iY (Y0:=[(aa "kind",.any)]) (Yc:=[v.d]) (ps:=[aa "value"]) (Z1:=fun L=>(L+1,.cell (v.d))::[]) g rfl rfl rfl rfl rfl (gC fun zz=>rfl) (.cons (kN g) (.cons (vV g) (.cons (eU g) (.cons (sK g) (.cons (vZ g) (.cons (qa g) .nil)))))) (.inr (by kernel_rfl)) (by decide +kernel) ⟨rfl,fun n x hx=>(by cases ap.mp hx;exact .inr ⟨rfl,rfl⟩),fun p hp=>(by cases ap.mp hp;exact⟨rfl,fun h=>absurd rfl h⟩),fun n p hp=>(by cases ap.mp hp;exact(jT rfl rfl (fun zz=>bo))),by decide⟩ (fun zz=>rfl) fun B Q W hk hh hm henv hQ=>?_;have hcs:dg B.env (aa "value") (B.L+1):=by rw[henv];exact⟨rfl,rfl⟩
 walk_at "w";refine bD W hcs (.head _) (PV.d_any _) (by decide +kernel) ?_;walk_at "w";refine aw W.O (iQ g v) (.inl rfl) .nil (cO hk (by simp)) ?_;walk_at "w";refine dq W.O (cS _) (by decide +kernel) _ (kc v 7 (by decide)) ?_;cases ha:(rg v==7) with
 |true=>
  obtain⟨l,rfl⟩:∃l,v=.arr l:=by cases v<;>first|exact⟨_,rfl⟩|injection ha
  refine sS (Lx h) fun hl9 ds hds z6=>?_;subst z6;have hdl:=l9 hds;walk_at "w";refine ij (cl:=[]) W ⟨by rw[henv];rfl,by decide +kernel,rfl,by decide +kernel⟩ rfl rfl ?_;clear henv;walk_at "w";refine bD W hcs (.head _) (PV.d_any _) (by decide +kernel) ?_;walk_at "w";refine fu W (ds:=l.map PV.d) (.cons (eU g) .nil) (by kernel_rfl) (by rw[PV.d,oV];exact cA W.O) (by rw[af];exact je hl9 rfl) (fun i out Z=>out=ds.take i/\Z=[(B.L+1,.cell (PV.d (.arr l)))]) ⟨rfl,rfl⟩ ?_ ?_
  .intro B' P i d' out Z2 hd hI W' hec hk' hh' zz hP
   refine aZ hI ?_;clear hI;intro e1 e2;subst e1;subst e2;refine ar (dM hd) fun x z7 hx=>?_;subst z7;refine ar (pB hds hx) fun y hy hyn=>?_;walk_at "w";refine aw W'.O (ih x y hy) (.inl rfl) .nil (cO (hk'.trans hk) (by simp)) ?_;walk_at "w";exact hP _ _ ⟨xN hyn,rfl⟩
  .intro out Z hI
   refine aZ hI ?_;clear hI;intro e1 e2;subst e1;subst e2;rw[uN hdl];walk_at "w";refine kP (ds:=ds) W.O (Ud hl9 hdl) ?_;walk_at "w";refine qx W.O (by rw[bQ];exact Uc hl9 hdl) ?_;walk_at "w";exact hQ _ _ _ (kO rfl ⟨rfl,rfl⟩)
 |false=>
 walk_at "w";refine dq W.O (cS _) (by decide +kernel) ak ((kc v 8 (by decide)).trans (by cases v<;>first|rfl|injection hd)) ?_;walk_at "w";refine dq W.O (cS _) (by decide +kernel) _ (kc v 9 (by decide)) ?_;cases hb:(rg v==9) with
 |true=>
  obtain⟨l,rfl⟩:∃l,v=.stream l:=by cases v<;>first|exact⟨_,rfl⟩|injection hb
  (first|rw[toldP_e0] at h|rw[lU] at h|rw[lT] at h|rw[lS] at h|unfold fq at h);refine ar (aD.mp h) fun dh hdh z8=>?_;subst z8;walk_at "w";refine bD W hcs (.head _) (PV.d_any _) (by decide +kernel) ?_;rw[show PV.d (.stream l)=pn l.d (.byt #[]) from by rw[PV.d]];walk_at "w";refine aw W.O (ih l dh hdh) (.inl rfl) .nil (cO hk (by simp)) ?_;walk_at "w";refine bD W hcs (.head _) (by intro h;injection h) (by decide +kernel) ?_;walk_at "w";refine Az ?_;walk_at "w";exact hQ _ _ _ (kO rfl ⟨rfl,rfl⟩)
 |false=>
  have hlf:yf v=ai:=by cases v<;>first|rfl|(cases ha;done)|(cases hb;done)|injection hd
  have e:res=EC v:=by cases v<;>first|(cases hlf;done)|((injection h with h;subst h);rfl)
  walk_at "w";refine bD W hcs (.head _) (PV.d_any _) (by decide +kernel) ?_;walk_at "w";refine aw W.O (tX g v hlf) (.inl rfl) .nil (cO hk (by simp)) ?_;walk_at "w";exact hQ _ _ _ (kO rfl ⟨e.symm,rfl⟩)
theorem xf(a l):g8 G 1 (.ref 265) [.ptr a] [(a,.sdic l)] (fun d Z'=>d=.str (aa "dict")/\Z'=[(a,.sdic l)]):=by refine eA (ps:=[aa "value"]) (rest:=[]) g rfl rfl rfl rfl rfl rfl (gC fun zz=>rfl) rfl (.cons (cU g) (.cons (uv g) (.cons (vX g) (.cons (v8 g) (.cons (mY g) (.cons (yp g) (.cons (z0 g) (.cons (jD g) (.cons (sN g) (.cons (dZ g) .nil)))))))))) (by kernel_rfl) fun B Q W hk hh hm hQ=>?_;walk_at "w";refine g0 (b:=ak) rfl ?_;walk_at "w";refine e8 W.O bo (r:=ak) (by kernel_rfl) (by decide +kernel) clsv_bool ?_;walk_at "w";refine e8 W.O bo (r:=ak) (by kernel_rfl) (by decide +kernel) clsv_int ?_;walk_at "w";refine e8 W.O bo (r:=ak) (by kernel_rfl) (by decide +kernel) (Co g) ?_;walk_at "w";refine e8 W.O bo (r:=ak) (by kernel_rfl) (by decide +kernel) (wA g) ?_;walk_at "w";refine e8 W.O bo (r:=ak) (by kernel_rfl) (by decide +kernel) (Cn g) ?_;walk_at "w";refine e8 W.O bo (r:=ak) (by kernel_rfl) (by decide +kernel) clsv_list ?_;walk_at "w";refine e8 W.O bo (r:=ai) (by kernel_rfl) (fun zz=>rfl) clsv_dict ?_;walk_at "w";exact hQ _ _ _ (cT rfl ⟨rfl,rfl⟩)
theorem nn(f res)(h:mP f tab tr=ac res)(hl:tab.length<64):g8 G (f+3) (.ref 365) [bg t r] (bz t r tab tr) (fun d Z'=>d=res/\Z'=bz t r tab tr):=by
 refine bB (Gg h) fun rs ds hrs hds hl9 z9=>?_;subst z9;have hrl:=l9 hrs;have hkm:tab.d.map (·.1)=tab.map (·.1):=by unfold dG.d;rw[bS];rfl
 have hsl:(k8 (tab.map (·.1))).length=tab.length:=by rw[(im _).length_eq,af]
 refine iY (Y0:=[(aa "rows",.any)]) (Yc:=[bg t r]) (ps:=[aa "self"]) (Z1:=fun L=>(L+1,.cell (bg t r))::bz t r tab tr) g rfl rfl rfl rfl rfl (gC fun zz=>rfl) (.cons (vV g) (.cons (eU g) .nil)) (.inr (by kernel_rfl)) (by decide +kernel) ⟨rfl,fun n x hx=>(by cases ap.mp hx;exact .inr ⟨rfl,rfl⟩),fun p hp=>(by cases ap.mp hp;exact⟨rfl,fun h=>absurd rfl h⟩),fun n p hp=>(by cases ap.mp hp;exact(jT rfl rfl (fun zz=>bo))),by decide⟩ (fun zz=>rfl) fun B Q W hk hh hm henv hQ=>?_;have hcs:dg B.env (aa "self") (B.L+1):=by rw[henv];exact⟨rfl,rfl⟩
 walk_at "w";refine ij (cl:=[(aa "self",B.L+1)]) W ⟨by rw[henv];rfl,by decide +kernel,rfl,by decide +kernel⟩ rfl rfl ?_;walk_at "w";refine bD W hcs (.head _) (by intro h;injection h) (by decide +kernel) ?_;walk_at "w";refine aw W.O (qT g (by rw[Cf];exact hl)) (.inl rfl) (.skip (.take (.take .nil))) (cO hk (by simp)) ?_;rw[hkm];walk_at "w";refine fu W (.cons (eU g) .nil) (by kernel_rfl) (cA W.O) (by rw[af];exact Ub hl hsl) (fun i out Z=>out=rs.take i/\Z=(B.L+1,.cell (bg t r))::bz t r tab tr) ⟨rfl,rfl⟩ ?_ ?_
 .intro B' P i d' out Z2 hd hI W' hec hk' hh' zz hP
  refine aZ hI ?_;clear hI;intro e1 e2;subst e1;subst e2;refine ar (dM hd) fun x z10 hx=>?_;subst z10;have hcc:dg B'.env (aa "self") (B.L+1):=by rw[hec,henv];exact⟨rfl,rfl⟩
  clear hec henv hcs;refine ar (pB hrs hx) fun y hy hyn=>?_;refine bl (LK hy) fun gn v d' hld hd' z11=>?_;subst z11;walk_at "w";refine bD W' hcc (.head _) (by intro h;injection h) (by decide +kernel) ?_;walk_at "w";refine cw (K:=Int) (.inr (bq t rfl (.tail _ (.head _)))) hld ?_ (fun zz zz=>rfl);walk_at "w";refine ej (j:=0) (x:=.int gn) (by decide) (by decide) rfl rfl ?_ (fun zz zz=>rfl);walk_at "w";refine bD W' hcc (.head _) (by intro h;injection h) (by decide +kernel) ?_;walk_at "w";refine cw (K:=Int) (.inr (bq t rfl (.tail _ (.head _)))) hld ?_ (fun zz zz=>rfl);walk_at "w";refine ej (j:=1) (x:=v.d) (by decide) (by decide) rfl rfl ?_ (fun zz zz=>rfl);walk_at "w";refine aw W'.O (xP g f v d' hd') (.inl rfl) .nil (cO (hk'.trans hk) (by simp)) ?_;walk_at "w";exact hP _ _ ⟨xN hyn,rfl⟩
 .intro out Z hI
  refine aZ hI ?_;clear hI;intro e1 e2;subst e1;subst e2;rw[uN hrl];walk_at "w";refine kP (ds:=rs) W.O (Ua hl hrl hsl) ?_;walk_at "w";refine bD W hcs (.head _) (by intro h;injection h) (by decide +kernel) ?_;walk_at "w";refine aw W.O (oj g f tr ds (.ptr r) [(r,.sdic (PV.dS tr))] hds hl9 (by intro h;injection h) (xf g r _) (fun Z hZ=>.inr (bq r rfl (hZ _ (.head _)))) (xP g f)) (.inl rfl) (.skip (.skip (.take .nil))) (cO hk (by simp)) ?_;walk_at "w";exact hQ _ _ _ (kO rfl ⟨rfl,rfl⟩)
end
section
variable (g : dN G) {t r : aW}
include g
theorem nt{tab:dG}{tr:List (aV×PV)}{A:Mu}(f0 res)(hT:mP f0 tab tr=ac (.tup res))(hp:kI res=ai)(hd:wv res<=60)(hl:tab.length<64)(hf0:f0<=10)(fs:List aW)(hfs:fs.length<=900)(hf:∀f∈fs,∃q ps b sc cl Zc re R,(f,Dv q ps b sc cl)∈A/\i4 (bz t r tab tr++A) Zc re/\jg G 13 (.ref f) [] Zc R False):iz G 14 (.ref 586) [bg t r,.lst (fs.map DV.ptr)] (bz t r tab tr++A) (fun d Z'=>d=.bool ai/\Z'=bz t r tab tr++A):=by
 refine gj.sureOf (ok:=True) trivial ?_;refine kh (ps:=[aa "shelf",aa "asks"]) (rest:=[aa "before",aa "ask"]) g rfl rfl rfl rfl rfl rfl (jN fun zz zz=>rfl) rfl (.cons (dY g) .nil) (by kernel_rfl) fun B E Q W w hk hh hm hE hQ=>?_;walk_at "w";refine aw W.O (nn g f0 (.tup res) hT hl) (.inl rfl) (.take (.take .nil)) (cO hk (by simp;exact je hf0 rfl)) ?_;walk_at "w";refine nj (ρf:=fun x=>[(aa "shelf",bg t r),(aa "asks",.lst (fs.map DV.ptr)),(aa "before",.tup res),(aa "ask",x)]) (Zf:=fun zz=>bz t r tab tr++A) W (cA W.O) (fun zz zz=>True) _ trivial rfl rfl ?_ ?_
 .intro B' P R i d' s hd1 zz W' w' hk' hh' zz hP hR
  refine ar (dM hd1) fun f z1 hx=>?_;subst z1;refine eu (hf f (cF hx)) fun q ps b sc cl y8=>bl y8 fun Zc re R0 hmem hpick hspec=>?_;have hh2:=hh'.trans hh;have hk2:=hk'.trans hk;have hgk:B'.env.kindOf (aa "TreeFault")=ac .globalImplicit:=by simpa using aU.mp W'.hk _ (ap.mpr rfl)
  walk_at "w";refine JF W'.O (w' w) (we g).cls (dY g) hgk (by decide +kernel) (Y':=[(aa "shelf",bg t r),(aa "asks",.lst (fs.map DV.ptr)),(aa "before",.tup res),(aa "ask",.ptr f)]) (Z':=bz t r tab tr++A) ?_ ?_
  .intro B1 O1 he1 hk1 hh1 hm1
   have W1:Wk G B1 _ ai:=⟨O1,fun zz=>hh1.trans hh2,g,W.hg,he1▸W'.hk⟩
   refine g6 (Fc O1 (JR O1 ?_ rfl) rfl);walk_at "w";exact⟨f,q,ps,b,sc,cl,rfl,aK _ hmem,wE O1 hspec (hh1.trans hh2) hpick (cO (hk1.trans hk2) (by simp)) (fun zz e s' h=>h) (fun h=>h.elim)⟩
  .intro B3 O3 he3 hk3 hh3 hm3
   have W3:Wk G B3 _ ak:=⟨O3,fun h=>by(injection h),g,W.hg,he3▸W'.hk⟩
   refine uI W3 ?_;walk_at "v";refine aw O3 (nn g f0 (.tup res) hT hl) (.inl rfl) (.take (.take .nil)) (cO (hk3.trans hk2) (by simp;exact je hf0 rfl)) ?_;walk_at "w";refine Dj O3 hp hd ?_;walk_at "w";walk_at "v";exact hP _ trivial
 .intro s zz
  walk_at "w";exact hQ _ _ _ (cT rfl (jT trivial rfl rfl))
end
theorem yw{K:Type}[DecidableEq K][DK K](O:B.Ok G)(Zf:aW->Mu)(hp:∀a,Xa ((a,DK.mo ([]:List (K×DV)))::Z) (Zf a))(q:∀a,Q (.ptr a) Y (Zf a)):EV G B E (a9 (.Dict [] [] pos) B.env) Y Z Q:=by intro V s S;refine aQ (oR (K:=K) (Q:=fun d Y' Z'=>∃a,d=.ptr a/\Y'=Y/\Z'=(a,DK.mo ([]:List (K×DV)))::Z) O (fun a=>(cB a rfl rfl rfl)) V s S) (fun v s' o=>?_) fun zz zz x=>x;refine iK o ?_;clear o;intro d Y' Z' V' S' k' i' z1;refine bp z1 ?_;clear z1;intro a z2 z3 z4;subst z2;subst z3;subst z4;exact⟨_,_,_,V',S'.perm (hp a),k',i',q a⟩
section
variable (g : dN G)
include g
theorem sf(x dx t r):g8 G 1 (.ref 297) [.ptr x,.ptr t,.ptr r] [(x,.obj (cn 368 dx)),(dx,.flds [])] (fun d Z'=>∃l Zr,d=.none/\Z'=(x,.obj (cn 368 dx))::(dx,.flds l)::Zr/\(DV.inst 368 l=bg t r/\Zr=[])):=by
 refine Ff (Y0:=[(aa "self",.ptr x),(aa "table",.ptr t),(aa "trailer",.ptr r)]) g.ok (by rfl) rfl rfl rfl rfl rfl (by decide +kernel) rfl rfl (by rfl) ?_ (ns:=[aa "self",aa "table",aa "trailer"]) rfl (by decide +kernel) ?_
 .intro V s vs kb kv hi
  refine aM (aG.mp hi) ?_;clear hi;intro v1 r1 z5 i1 hi;subst z5;refine aM (aG.mp hi) ?_;clear hi;intro v2 r2 z6 i2 hi;subst z6;refine aM (aG.mp hi) ?_;clear hi;intro v3 r3 z7 i3 hi;subst z7;obtain rfl:=be.mp hi;refine cB [(aa "self",v1),(aa "table",v2),(aa "trailer",v3)] (CH rfl (kv _ _ (kb _ _ (g.ok.kin _ _ (by rfl)))) rfl rfl rfl) ?_ ?_;.exact dJ rfl (dJ rfl (dJ rfl wU))
  .exact dJ ⟨rfl,fun zz=>(bq v1 rfl i1)⟩ (dJ ⟨rfl,fun zz=>(bq v2 rfl i2)⟩ (dJ ⟨rfl,fun zz=>(bq v3 rfl i3)⟩ wU))
 .intro B O hk hh henv hm
  have W:Wk G B [] ak:=⟨O,fun h=>(by injection h),g,.nil,rfl⟩
  refine uI W ?_;walk_at "v";refine g0 (b:=ak) rfl ?_;walk_at "w";refine pP (p4 g) (by kernel_rfl) (aj rfl) ?_;walk_at "w";refine g0 (b:=ak) rfl ?_;walk_at "w";refine pP (nv g) (by kernel_rfl) (aj rfl) ?_;walk_at "w";refine gN rfl ?_;exact dw _ _ rfl rfl rfl rfl
theorem Ba(t r):g8 G 2 (.ref 368) [.ptr t,.ptr r] [] (fun d Z'=>d=bg t r/\Z'=[]):=kt g.ok (I4 g) fun x dx=>sf g x dx t r
theorem sg(x dx):qf G ak 1 (.ref 297) [.ptr x] [(x,.obj (cn 368 dx)),(dx,.flds [])] (fun d new Z'=>∃l Zr,d=.none/\Z'=(x,.obj (cn 368 dx))::(dx,.flds l)::Zr/\(∃t r,DV.inst 368 l=bg t r/\new=[(t,.idic []),(r,.sdic [])]/\Zr=[])):=by
 refine J0 (Y0:=[(aa "self",.ptr x),(aa "table",.none),(aa "trailer",.none)]) g.ok (by rfl) rfl rfl rfl rfl rfl (by decide +kernel) rfl rfl (by rfl) ?_ (ns:=[aa "self",aa "table",aa "trailer"]) rfl (by decide +kernel) ?_
 .intro V s vs kb kv hi
  refine aM (aG.mp hi) ?_;clear hi;intro v1 r1 z8 i1 hi;subst z8;obtain rfl:=be.mp hi;refine cB [(aa "self",v1),(aa "table",.none),(aa "trailer",.none)] (CH rfl (kv _ _ (kb _ _ (g.ok.kin _ _ (by rfl)))) rfl rfl rfl) ?_ ?_;.exact dJ rfl (dJ rfl (dJ rfl wU))
  .intro p hp
   simp only[ao,cf,or_false] at hp;rcases hp with rfl|rfl|rfl;.exact⟨rfl,fun zz=>(bq v1 rfl i1)⟩
   .exact⟨rfl,fun zz=>(bq .none rfl (aT.mpr ⟨rfl,rfl⟩))⟩
   .exact⟨rfl,fun zz=>(bq .none rfl (aT.mpr ⟨rfl,rfl⟩))⟩
 .intro B O hk hh henv hm
  have W:Wk G B [] ai:=⟨O,fun h=>hh,g,.nil,rfl⟩
  refine uI W ?_;walk_at "v";refine g0 (b:=ai) rfl ?_;walk_at "w";refine yw (K:=Int) O (fun t=>[(x,MO.obj (cn 368 dx)),(dx,MO.flds []),(t,.idic [])]) (fun t=>(gS (l₁:=[(x,MO.obj (cn 368 dx)),(dx,MO.flds [])]) (l₂:=[])).symm) fun t=>?_;walk_at "w";refine pP (p4 g) (by kernel_rfl) (aj rfl) ?_;walk_at "w";refine g0 (b:=ai) rfl ?_;walk_at "w";refine yw (K:=aV) O (fun r=>[(x,MO.obj (cn 368 dx)),(dx,MO.flds [(aa "table",DV.ptr t)]),(r,.sdic []),(t,.idic [])]) (fun r=>(gS (l₁:=[(x,MO.obj (cn 368 dx)),(dx,MO.flds [(aa "table",DV.ptr t)])]) (l₂:=[(t,.idic [])])).symm) fun r=>?_;walk_at "w";refine pP (nv g) (by kernel_rfl) (aj rfl) ?_;walk_at "w";refine fG [(t,.idic []),(r,.sdic [])] [] [(x,MO.obj (cn 368 dx)),(dx,MO.flds [(aa "table",DV.ptr t),(aa "trailer",DV.ptr r)])] .none ?_ rfl ⟨_,_,rfl,rfl,t,r,rfl,rfl,rfl⟩ (.inr ⟨rfl,rfl⟩);exact(List.perm_append_comm (l₁:=[_,_]) (l₂:=[(r,_),(t,_)])).trans (.append_right _ (.swap _ _ _))
theorem Bb:qf G ak 2 (.ref 368) [] [] (fun d new Z'=>∃t r,d=bg t r/\new=[(t,.idic []),(r,.sdic [])]/\Z'=[]):=C8 g.ok (I4 g) fun x dx=>sg g x dx
end
@[reducible] noncomputable def Z9:RW:={posonlyargs:=[],args:=[],vararg:=aq,kwonlyargs:=[],kw_defaults:=[],kwarg:=aq,defaults:=[]}
@[reducible] noncomputable def Xp(x:String):Ro:={kind:=.function,names:=[(aa "shelf",.free),(aa x,.globalImplicit)],isGenerator:=ak,isCoroutine:=ak}
theorem MN(O:B.Ok G)(hk:B.env.kindOf x=ac .free)(hc:B.env.cells.lookup x=ac c)(hm:(c,MO.cell d)∈Z)(hn:d≠.any)(hd:(x==("__debug__" : aV))=ak)(hx:(x==("__classdict__" : aV))=ak)(q:Q d Y Z):EV G B E (a9 (.Name x pos) B.env) Y Z Q:=by intro V s S;refine aM (S.mu _ hm) fun o xv ho hdt hv=>?_;refine ar (hv hn) fun v z1 iv=>?_;subst z1;exact Oe (wpAny_loadName_free O.c.fn hk hc (bq o ho hdt) ⟨d,Y,Z,V,S,.refl _,iv,q⟩ hx) hd
section
variable (g : dN G) {t r : aW} {lk : Lk}
include g
theorem Bd{nm:String}{es:List bZ}{ds:List DV}(hg:bY G (aa nm) (.raw (.ref fn)))(hf:bH G (.ref fn))(hn1:aa nm≠aa "shelf")(hn2:(aa nm==("__debug__" : aV))=ak)(hes:∀B E pos Y Z Q,Q ds Y Z->EL G B E (dB (cy pos (br es B.env))) Y Z Q)(hst:es.any oM=ak)(H:jg G j (.ref fn) (bg t r::ds) (bz t r tab tr) R ok)(hj:j<=12)(hok:¬ok)(f c q p1 p2 p3):jg G 13 (.ref f) [] [(t,.idic tab.d),(r,.sdic (PV.dS tr)),(f,Dv q Z9 (.Call (.Name (aa nm) p1) (.Name (aa "shelf") p2::es) [] p3) (Xp nm) [(aa "shelf",c)]),(c,.cell (bg t r))] (fun zz zz=>True) False:=by
 refine QM (ok:=False) (clos:=[(aa "shelf",c)]) g.ok (.tail _ (.tail _ (.head _))) (fun zz zz zz=>rfl) rfl rfl rfl (fun x hx=>?_) ?_
 .rcases ao.mp hx with rfl|hx
  .decide
  .cases ap.mp hx;exact fun h=>by injection h
 intro B c' O w hk hh henv hm;have hk0:B.env.kindOf (aa nm)=ac .globalImplicit:=by rw[henv];show Ev (aa nm) [(aa "shelf",wR),(aa nm,w5)]=_;rw[d1,show(aa nm==aa "shelf")=ak from beq_eq_false_iff_ne.mpr hn1];simp
 have hk1:B.env.kindOf (aa "shelf")=ac .free:=by rw[henv];rfl
 have hc1:B.env.cells.lookup (aa "shelf")=ac c:=by rw[henv];rfl
 clear henv;refine wl O (wk O hg hk0 hn2 (Km hf (uy (MN O hk1 hc1 (.tail _ (.tail _ (.tail _ (.head _)))) (by intro h;injection h) (by decide +kernel) (by decide +kernel) (hes _ _ _ _ _ _ ?_)) rfl))) rfl (qS (by rw[dF,hst];rfl));exact wC O w hm H hh (.take (.take .nil)) (T8 hj hk) (fun p hp=>hp) (fun zz e s' h=>⟨id,.fly h⟩) fun h=>(hok h).elim
theorem lY{nm:String}(hg:bY G (aa nm) (.raw (.ref fn)))(hf:bH G (.ref fn))(hn1:aa nm≠aa "shelf")(hn2:(aa nm==("__debug__" : aV))=ak)(H:jg G j (.ref fn) [bg t r] (bz t r tab tr) R ok)(hj:j<=12)(hok:¬ok)(f c q p1 p2 p3):jg G 13 (.ref f) [] [(t,.idic tab.d),(r,.sdic (PV.dS tr)),(f,Dv q Z9 (.Call (.Name (aa nm) p1) [.Name (aa "shelf") p2] [] p3) (Xp nm) [(aa "shelf",c)]),(c,.cell (bg t r))] (fun zz zz=>True) False:=Bd g (es:=[]) (ds:=[]) hg hf hn1 hn2 (fun zz zz zz zz zz zz h=>Aq h) rfl H hj hok f c q p1 p2 p3
end
theorem JS{x:List UInt8}(q:Q (.byt x.toArray) Y Z):EV G B E (a9 (.Constant (.bytes x) k pos) B.env) Y Z Q:=fun V s S=>Constant_bytes ⟨.byt x.toArray,Y,Z,V,S.sat_toks _,.refl _,by show Exists _;exact⟨_,rfl⟩,q⟩
noncomputable def uF:List PV:=[.int 5,.null,.arr [.ref 3 0],.stream (.dict [(aa "Kids",.arr [])]),.bool ai,.name (aa "Pages")]
noncomputable def tW(v:PV):dG:=[(1,0,.dict [(aa "Pages",.ref 2 0)]),(2,0,v),(3,0,.dict [(aa "Type",.name (aa "Page"))])]
noncomputable def trN:List (aV×PV):=[(aa "Root",.ref 1 0)]
noncomputable def iC:Nat->PV->Option DV
 |0,_=>aq|f+1,.arr l=>if 900<l.length then aq else(fi (iC f) l).map fun ds=>.tup (.str (aa "array")::ds)
 |f+1,.dict l=>if 63<l.length then aq else(fi (lW (iC f) l) (ot xq (l.map (·.1)))).map fun ds=>.tup (.str (aa "dict")::ds.flatten)
 |f+1,.stream h=>(iC f h).map fun d=>.tup [.str (aa "stream"),d,.byt #[]]
 |_+1,v=>ac (EC v)
theorem uM{f l}:iC (f+1) (.arr l)=(if 900<l.length then aq else(fi (iC f) l).map fun ds=>.tup (.str (aa "array")::ds)):=rfl
theorem uL{f l}:iC (f+1) (.dict l)=(if 63<l.length then aq else(fi (lW (iC f) l) (ot xq (l.map (·.1)))).map fun ds=>.tup (.str (aa "dict")::ds.flatten)):=rfl
theorem uK{f h}:iC (f+1) (.stream h)=((iC f h).map fun d=>.tup [.str (aa "stream"),d,.byt #[]]):=rfl
theorem EA:∀(f:Nat)v,fq f v=iC f v:=by
 intro p0_;induction p0_ with
 |zero=>intro zz;exact rfl
 |succ f ih=>intro v;have ih:fq f=iC f:=funext (ih);cases v with|arr l=>(first|rw[toldP_e0]|rw[lU]|rw[lT]|rw[lS]|unfold fq);(first|rw[toldQ_e0]|rw[uM]|rw[uL]|rw[uK]|unfold iC);rw[ih]|dict l=>(first|rw[toldP_e0]|rw[lU]|rw[lT]|rw[lS]|unfold fq);(first|rw[toldQ_e0]|rw[uM]|rw[uL]|rw[uK]|unfold iC);rw[ih,zf]|stream h=>(first|rw[toldP_e0]|rw[lU]|rw[lT]|rw[lS]|unfold fq);(first|rw[toldQ_e0]|rw[uM]|rw[uL]|rw[uK]|unfold iC);rw[ih]|_=>rfl
noncomputable def Pd(f:Nat)(tab:dG)(n:Int):Option DV:=match tab.lk n with|none=>aq|some (gn,v)=>(iC f v).map fun d=>.tup [.int n,.int gn,d]
noncomputable def zh(f:Nat)(tab:dG)(tr:List (aV×PV)):Option DV:=match fi (Pd f tab) (ot (fun a b=>decide (a<=b)) (tab.map (·.1))),(if 63<tr.length then aq else(fi (lW (iC f) tr) (ot xq (tr.map (·.1)))).map fun ds=>DV.tup (.str (aa "dict")::ds.flatten)) with|some rs,ac d=>ac (.tup [.tup rs,d])|_,_=>aq
theorem IN(f tab tr):mP f tab tr=zh f tab tr:=by
 have h:fq f=iC f:=funext (EA f);have h2:zp f tab=Pd f tab:=funext fun n=>by unfold zp Pd;rw[h];try rfl
 unfold mP zh Rv;rw[h2,h,EI,zf];try rfl
noncomputable def YQ:Option DV->Bool|some (.tup l)=>kI l&&decide (wv l<=60)|_=>ak
set_option tactic.hygienic true in
theorem Pk(h:YQ (zh f tab tr)=ai):∃res,mP f tab tr=ac (.tup res)/\kI res=ai/\wv res<=60:=by
 rw[IN];unfold YQ at h;split at h
 .rename_i l e
  rw[aO] at h;exact cB l e h.1 (of_decide_eq_true h.2)
 .injection h
def N1(v:PV):Prop:=fg (md (tW v)) trN=ac aq/\l8 (md (tW v)) trN=ac aq/\cE (md (tW v)) trN=ac aq/\faultsP (md (tW v)) trN=ac aq/\iS (md (tW v)) trN=ac aq/\YQ (zh 6 (tW v) trN)=ai
theorem Ha:∀v∈uF,N1 v:=by intro v hv;unfold N1;simp only[uF,ao,cf,or_false] at hv;rcases hv with rfl|rfl|rfl|rfl|rfl|rfl;all_goals exact⟨by kernel_rfl,by kernel_rfl,by kernel_rfl,by kernel_rfl,by kernel_rfl,by kernel_rfl⟩
theorem ms(g:dN G):∀h,G.K.In h->Xd h 611 607:=fun h X=>⟨_,_,_,_,_,_,_,_,_,X _ _ (by rfl),rfl,rfl,rfl,rfl,rfl,rfl,rfl,rfl,by decide⟩
theorem LB(v):MO.idic (tW v).d=DK.mo [((1:Int),DV.tup [DV.int 0,DK.dv [(aa "Pages",io 2 0)]]),(2,DV.tup [DV.int 0,v.d]),(3,DV.tup [DV.int 0,DK.dv [(aa "Type",x9 (aa "Page"))]])]:=by unfold dG.d tW;simp only[au,bI,PV.d,PV.dS];rfl
theorem OF:MO.sdic (PV.dS trN)=DK.mo [(aa "Root",io 1 0)]:=by unfold trN;simp only[PV.d,PV.dS];rfl
theorem WP.permD{Z Z':Mu}{Q:β->aP->Mu->Prop}(h:Z.Perm Z')(w:WP G B E rel t Y Z' Q):WP G B E rel t Y Z Q:=fun V s S=>w V s (S.perm h)
section
variable (g : dN G)
include g
theorem nq(Bm:Nr G)(k cells turn left)(hc:cells.length<=63)(ht0:0<=turn)(ht1:turn<=500)(hl0:0<=left):iz G 16 (.ref 612) [.ptr k] [(607,.pr (jm [])),(k,.sdic (iq cells turn left))] (fun d Z'=>∃ls turn' left',d=.bool ai/\Z'=[(607,.pr (jm ls)),(k,.sdic (iq cells turn' left'))]):=by
 refine Cc [433,434,440] (Y0:=[(aa "keg",.ptr k),(aa "worth",.any),(aa "asks",.any)]) (Yc:=[.any]) (ps:=[aa "keg"]) (Z1:=fun L=>[(L+1,MO.cell .any),(607,.pr (jm [])),(k,.sdic (iq cells turn left))]) g rfl rfl rfl rfl rfl (gC fun zz=>rfl) (.cons (dZ g) (.cons (sN g) (.cons (mY g) (.cons (lu g) (.cons (B0 g) (.cons (lw g) .nil)))))) (.inr (by kernel_rfl)) (by decide +kernel) ⟨rfl,?_,?_,?_,by simp only[au,bI];decide +kernel⟩ (fun zz=>rfl) ?_
 .intro n x hx
  cases ap.mp hx;exact .inl rfl
 .exact dJ ⟨rfl,fun zz=>.head _⟩ (dJ ⟨rfl,fun h=>absurd rfl h⟩ (dJ ⟨rfl,fun h=>absurd rfl h⟩ wU))
 .intro n p hp
  cases ap.mp hp;exact jT rfl rfl (fun h=>absurd rfl h)
 intro B Q W hk hh hm henv hQ;have hcs:dg B.env (aa "shelf") (B.L+1):=by rw[henv];exact⟨rfl,rfl⟩
 walk_at "w";refine eN W.O (ii W ?_);walk_at "w";refine aw W.O (dP g 3 0) (.inl rfl) .nil (cO hk rfl) ?_;walk_at "w";refine⟨aj rfl,?_⟩;walk_at "w";refine jH W rfl rfl (by simp) (by decide) fun da=>?_;walk_at "v";refine eN W.O (ii W ?_);walk_at "w";refine⟨aj rfl,?_⟩;walk_at "w";refine cB _ (by simp only[au,bI];decide +kernel) .head ?_;walk_at "w";refine JS ?_;walk_at "w";refine aw W.O (A9 g _ _ (by intro h;injection h) (by intro h;injection h)) (.inl rfl) .nil (cO hk rfl) ?_;walk_at "w";refine aw W.O (kr g (aa "Pages")) (.inl rfl) .nil (cO hk rfl) ?_;walk_at "w";refine eV W.O (jo g k cells turn left 6 hc ht0 (E9 ht1 rfl) hl0 (by decide) (by decide)) (.inr hh) (.skip (.skip (.take .nil))) (cO hk rfl) ?_;intro d Z' h;refine eZ h ?_;clear h;intro wI turn1 left1 z1 hw0 hw6 ht10 ht11 hl1 z2;subst z1;subst z2;obtain⟨v,hv⟩:∃v,uF[wI.toNat]?=ac v:=⟨_,cM (by show wI.toNat<6;exact Tq hw6)⟩
 have hvd:(uF.map PV.d)[wI.toNat]?=ac v.d:=by rw[bj,hv];rfl
 walk_at "w";refine ej (j:=wI.toNat) (x:=v.d) (T7 hw0) (T6 hw6) (Dc hw0 hw6 rfl) (by refine Eq.trans ?_ hvd;unfold uF;simp only[au,bI,PV.d,PV.dS,PV.dL];rfl) ?_ (fun zz zz=>rfl);walk_at "w";have hvn:v.d≠.any:=PV.d_any _;refine g6 (oQ (c:=B.L+1) W.O (Lq W ?_) rfl);walk_at "v"
 with_reducible refine' FY W ?a_1 ?b_1 ?c_1 ?d_1 ?h_1
 case a_1=>exact rfl
 case b_1=>exact rfl
 case c_1=>exact List.cons_ne_nil _ _
 case d_1=>exact aj rfl
 intro ta;walk_at "v";refine jH W rfl rfl (by simp) (by decide) fun da=>?_;walk_at "v";refine aw W.O (dP g 2 0) (.inl rfl) .nil (cO hk rfl) ?_;walk_at "w";refine cB _ (by simp only[au,bI];decide +kernel) .head ?_;walk_at "w";refine jH W rfl rfl (by simp) (by decide) fun da=>?_;walk_at "v";refine aw W.O (kr g (aa "Page")) (.inl rfl) .nil (cO hk rfl) ?_;walk_at "w";refine cB _ (by simp only[au,bI];decide +kernel) .head ?_;walk_at "w";refine cB _ (by simp only[au,bI];decide +kernel) .head ?_;walk_at "w";refine A2 W rfl rfl (by simp) (by decide) fun ra=>?_;walk_at "v";refine aw W.O (dP g 1 0) (.inl rfl) .nil (cO hk rfl) ?_;walk_at "w";refine cB _ (by simp only[au,bI];decide +kernel) .head ?_;walk_at "w";refine aw W.O (Ba g ta ra) (.inl rfl) .nil (cO hk rfl) ?_;walk_at "w";refine bO _ _ hcs (.tail (.tail .head)) ?_;refine WP.permD (.swap _ _ _) ?_;have hcl:∀x:String,Op (Xp x) B.env=pure [(aa "shelf",B.L+1)]:=fun x=>by rw[henv];rfl
 have hco:B.env.code=.ref 611:=by rw[henv];rfl
 clear henv;refine g6 ?_;walk_at "w";refine eN W.O (ii W ?_);walk_at "w";refine kx W.O Bm rfl (hcl "page_count") hco (ms g) (ls:=[]) rfl (.tail (.tail (.tail .head))) (by decide) fun f1=>?_;walk_at "w";refine kx W.O Bm rfl (hcl "page_at") hco (ms g) (by rfl) (.tail (.tail (.tail (.tail .head)))) (by decide) fun f2=>?_;walk_at "w";refine kx W.O Bm rfl (hcl "pages") hco (ms g) (by rfl) (.tail (.tail (.tail (.tail (.tail .head))))) (by decide) fun f3=>?_;walk_at "w";refine kx W.O Bm rfl (hcl "page_faults") hco (ms g) (by rfl) (.tail (.tail (.tail (.tail (.tail (.tail .head)))))) (by decide) fun f4=>?_;walk_at "w";refine kx W.O Bm rfl (hcl "settle") hco (ms g) (by rfl) (.tail (.tail (.tail (.tail (.tail (.tail (.tail .head))))))) (by decide) fun f5=>?_;walk_at "w";refine⟨aj rfl,?_⟩;walk_at "w";refine iZ (Ha v (cF hv)) fun hg1 hg2 hg3 hg4 hg5 hok=>?_;refine bp (Pk hok) fun res hr1 hr2 hr3=>?_;have hs:d6 (md (tW v)) (tW v):=jr _;refine WP.permD (Z':=(ta,.idic (tW v).d)::(ra,.sdic (PV.dS trN))::[_,_,_,_,_,_,_,_]) (by rw[LB,OF];exact cP [_,_,_,_,_] [_,_] _) ?_;refine yT W ?_;walk_at "v";refine bD W hcs (.tail _ (.tail _ (.tail _ (.tail _ (.tail _ (.tail _ (.tail _ (.head _)))))))) (by intro h;injection h) (by decide +kernel) ?_;walk_at "w";refine aw W.O (nt g (tab:=tW v) (tr:=trN) (A:=[_,_,_,_,_,_]) 6 res hr1 hr2 hr3 (aj rfl) (by decide) [f1,f2,f3,f4,f5] (aj rfl) ?hf) (.inr hh) (.take (.take (.take (.take (.take (.take (.take (.take .nil)))))))) (cO hk rfl) ?_;case hf=>exact dJ (⟨_,_,_,_,_,_,_,_,.tail _ (.tail _ (.tail _ (.tail _ (.head _)))),.take (.take (.skip (.skip (.skip (.skip (.take (.take .nil))))))),lY g (lH g) (Dw g) (by decide +kernel) (by decide +kernel) (g9 g hs aq hg1) (by decide) (by decide) _ (B.L+1) _ _ _ _⟩) (dJ (⟨_,_,_,_,_,_,_,_,.tail _ (.tail _ (.tail _ (.head _))),.take (.take (.skip (.skip (.skip (.take (.skip (.take .nil))))))),Bd g (es:=[.Constant (.int 0) 0 _]) (ds:=[.int 0]) (DH g) (Jd g) (by decide +kernel) (by decide +kernel) (fun zz zz zz zz zz zz h=>uy (JP (Aq h)) rfl) rfl (za g hs 0 hg2) (by decide) (fun h=>h) _ (B.L+1) _ _ _ _⟩) (dJ (⟨_,_,_,_,_,_,_,_,.tail _ (.tail _ (.head _)),.take (.take (.skip (.skip (.take (.skip (.skip (.take .nil))))))),lY g (BY g) (Je g) (by decide +kernel) (by decide +kernel) (qr g hs aq hg3 (fun k h=>nomatch h)) (by decide) (by decide) _ (B.L+1) _ _ _ _⟩) (dJ (⟨_,_,_,_,_,_,_,_,.tail _ (.head _),.take (.take (.skip (.take (.skip (.skip (.skip (.take .nil))))))),lY g (oN g) (Jc g) (by decide +kernel) (by decide +kernel) (jp g hs aq hg4) (by decide) (by decide) _ (B.L+1) _ _ _ _⟩) (dJ (⟨_,_,_,_,_,_,_,_,.head _,.take (.take (.take (.skip (.skip (.skip (.skip (.take .nil))))))),lY g (sL g) (Jb g) (by decide +kernel) (by decide +kernel) (om g hs (aj rfl) aq hg5) (by decide) (by decide) _ (B.L+1) _ _ _ _⟩) wU))))
 walk_at "w";walk_at "v";exact hQ _ _ _ (eB [_,_,_,_,_,_,_,_] [_,_] _ (.refl _) rfl (o6 _ _ _ rfl rfl) (.inl rfl))
end
theorem Fk{x:aW}(h:Is prog w V (PV.d (.arr l)) (.ref x)):∃o vs n,V x=ac o/\o.data=.seq vs n/\Mine.gP prog w V (l.map PV.d) vs.toList:=by rw[PV.d,oV] at h;refine bE h ?_;clear h;intro a o vs n e h1 h2 h3 h4 h5;(injection e with e;subst e);exact i5 o vs n h1 h4 h5
theorem ww{x:aW}(h:Is prog w V (PV.d (.dict l)) (.ref x)):∃o kvs,V x=ac o/\o.IsDictOf (strKind prog w) kvs/\Cy prog w V (PV.dS l) kvs:=by rw[PV.d] at h;refine bU h ?_;clear h;intro a o kvs e h1 h2 h3 h4;(injection e with e;subst e);exact bO o kvs h1 h3 h4
theorem Ce{x:aW}(h:Is prog w V (.inst C l) (.ref x)):∃dx es n,V x=ac (cn C dx)/\V dx=ac (jh es n)/\yE prog w V l es:=by refine eh h ?_;clear h;intro a dx es n e h1 h2 h3;(injection e with e;subst e);exact i5 dx es n h1 h2 h3
noncomputable def knd:PV->Nat|.null=>0|.bool _=>1|.int _=>2|.arr _=>3|.dict _=>4|.name _=>188|.ref _ _=>259|.stream _=>231
noncomputable def GW(V:Vw):aE->Option Nat
 |.none=>ac 0|.bool _=>ac 1|.int _ _=>ac 2|.ref a=>match V a with
  |some o=>match o.data,o.cls with|.seq _ _,_=>ac 3|.dict _ _,_=>ac 4|.plain,.ref C=>ac (C+5)|_,_=>aq
  |none=>aq
 |_=>aq
theorem fw:∀a v,Is prog w V a.d v->GW V v=ac (knd a)
 |.null,v,h=>by rw[PV.d] at h;refine aZ (aT.mp h) fun z1 zz=>?_;subst z1;rfl
 |.bool b,v,h=>by rw[PV.d] at h;refine aZ (aT.mp h) fun z2 zz=>?_;subst z2;rfl
 |.int i,v,h=>by rw[PV.d] at h;refine aY (bA.mp h) fun t z3=>?_;subst z3;rfl
 |.arr l,v,h=>by have h0:=h;refine bE h0 ?_;clear h0;intro a o vs n z4 h1 h2 h3 h4 h5;subst z4;unfold GW;dsimp only;rw[h1];dsimp only;rw[h4];rfl
 |.dict l,v,h=>by have h0:=h;refine bU h0 ?_;clear h0;intro a o kvs z5 h1 h2 z6 h4;subst z5;refine aM z6 ?_;clear z6;intro es ep zz hd zz;unfold GW;dsimp only;rw[h1];dsimp only;rw[hd];rfl
 |.name x,v,h=>by refine fE h ?_;clear h;intro a dx es n z7 h1 zz;subst z7;unfold GW;dsimp only;rw[h1];rfl
 |.ref x y,v,h=>by refine fE h ?_;clear h;intro a dx es n z8 h1 zz;subst z8;unfold GW;dsimp only;rw[h1];rfl
 |.stream x,v,h=>by refine fE h ?_;clear h;intro a dx es n z9 h1 zz;subst z9;unfold GW;dsimp only;rw[h1];rfl
theorem sn{x:aW}(h:Is prog w V (.inst C l) (.ref x))(h':Is prog w V (.inst C' l') (.ref x)):∃es,yE prog w V l es/\yE prog w V l' es:=by refine bl (Ce h) fun dx es k h1 h2 h3=>?_;refine bl (Ce h') fun dx' es' k' h1' h2' h3'=>?_;have e:ac dx=ac dx':=congrArg (·.dict) (aB (h1.symm.trans h1'));have e2:=aB (h2.symm.trans ((congrArg V (aB e)).trans h2'));unfold jh at e2;injection e2 with _ _ e3 _;injection e3 with e4 _;rw[show es=es' by simpa using e4] at h3;exact bq es' h3 h3'
theorem IP{x:aW}{n g n' g':Int}(h:Is prog w V (io n g) (.ref x))(h':Is prog w V (io n' g') (.ref x)):n=n'/\g=g':=by refine ar (sn h h') fun es h3 h3'=>?_;refine bB h3 ?_;clear h3;intro e1 r1 z10 zz i1 y40;refine bB y40 ?_;clear y40;intro e2 r2 z11 zz i2 zz;subst z10;subst z11;refine bB h3' ?_;clear h3';intro f1 q1 ee zz j1 y41;refine bB y41 ?_;clear y41;intro f2 q2 ee2 zz j2 zz;(injection ee with q46 q47;subst q46;subst q47);(injection ee2 with q44 q45;subst q44;subst q45);refine aY (bA.mp i1) fun t1 a1=>?_;refine aY (bA.mp j1) fun t2 a2=>?_;refine aY (bA.mp i2) fun t3 a3=>?_;refine aY (bA.mp j2) fun t4 a4=>?_;rw[a1] at a2;rw[a3] at a4;(injection a2 with q42 q43;subst q42;subst q43);(injection a4 with q40 q41;subst q40;subst q41);exact⟨rfl,rfl⟩
theorem Gi{x:aW}(h:Is prog w V (x9 n) (.ref x))(h':Is prog w V (x9 n') (.ref x)):n=n':=by refine ar (sn h h') fun es h3 h3'=>?_;refine bB h3 ?_;clear h3;intro e1 r1 z12 zz i1 zz;subst z12;refine bB h3' ?_;clear h3';intro f1 q1 ee zz j1 zz;(injection ee with q37 q38;subst q37;subst q38);refine aY (ir.mp i1) fun t1 a1=>?_;refine aY (ir.mp j1) fun t2 a2=>?_;rw[a1] at a2;cases a2;rfl
theorem Bj{x:aW}(h:Is prog w V (pn d (.byt #[])) (.ref x))(h':Is prog w V (pn d' (.byt #[])) (.ref x)):∃u,Is prog w V d u/\Is prog w V d' u:=by refine ar (sn h h') fun es h3 h3'=>?_;refine bB h3 ?_;clear h3;intro e1 r1 z13 zz i1 zz;subst z13;refine bB h3' ?_;clear h3';intro f1 q1 ee zz j1 zz;(injection ee with q34 q35;subst q34;subst q35);exact bq _ i1 j1
theorem pp{a:PV}(h:Is prog w V a.d v)(hk:3<=knd a):∃x,v=.ref x:=by
 cases a with
 |null=>exact absurd hk (by decide)|bool _=>exact absurd hk (show ¬3<=1 by decide)|int _=>exact absurd hk (show ¬3<=2 by decide)|dict _=>exact sR h fun a _ _ z=>⟨a,z.1⟩
 |_=>exact ux h fun a _ _ _ z=>⟨a,z.1⟩
theorem nk{a b:Nat}{C:Prop}(h:ac a=ac b)(n:tR a b=ak):C:=absurd (aB h) (nY n)
set_option tactic.hygienic true in
mutual
theorem WR:∀(a b:PV)v,Is prog w V a.d v->Is prog w V b.d v->a=b
 |.null,b,v,h,h'=>by have hk:=(fw _ v h).symm.trans (fw b v h');cases b<;>first|rfl|exact nk hk rfl
 |.bool x,b,v,h,h'=>by
  have hk:=(fw _ v h).symm.trans (fw b v h');cases b<;>first|exact nk hk rfl|skip
  rw[PV.d] at h h';refine aZ (aT.mp h) fun z14 zz=>?_;subst z14;refine aZ (aT.mp h') fun e zz=>?_;(injection e with e;subst e);rfl
 |.int x,b,v,h,h'=>by
  have hk:=(fw _ v h).symm.trans (fw b v h');cases b<;>first|exact nk hk rfl|skip
  rw[PV.d] at h h';refine aY (bA.mp h) fun t z15=>?_;subst z15;refine aY (bA.mp h') fun u e=>?_;(injection e with q32 q33;subst q32;subst q33);rfl
 |.name x,b,v,h,h'=>by
  have hk:=(fw _ v h).symm.trans (fw b v h');cases b<;>first|exact nk hk rfl|skip
  refine aY (pp h (aj rfl)) fun y z16=>?_;subst z16;rw[PV.d] at h h';rw[Gi h h']
 |.ref x y,b,v,h,h'=>by
  have hk:=(fw _ v h).symm.trans (fw b v h');cases b<;>first|exact nk hk rfl|skip
  refine aY (pp h (aj rfl)) fun y z17=>?_;subst z17;rw[PV.d] at h h';refine aZ (IP h h') fun e1 e2=>?_;rw[e1,e2]
 |.arr l,b,v,h,h'=>by
  have hk:=(fw _ v h).symm.trans (fw b v h');cases b<;>first|exact nk hk rfl|skip
  rename_i l';refine aY (pp h (aj rfl)) fun y z18=>?_;subst z18;refine bl (Fk h) fun o vs n h1 h2 h3=>?_;refine bl (Fk h') fun o' vs' n' h1' h2' h3'=>?_;rw[h1] at h1';(injection h1' with h1';subst h1');rw[h2] at h2';(injection h2' with q30 q31;subst q30;subst q31);rw[Vc l l' vs.toList h3 h3']
 |.dict l,b,v,h,h'=>by
  have hk:=(fw _ v h).symm.trans (fw b v h');cases b<;>first|exact nk hk rfl|skip
  rename_i l';refine aY (pp h (aj rfl)) fun y z19=>?_;subst z19;refine aM (ww h) fun o kvs h1 z20 h3=>?_;refine pI z20 ?_;clear z20;intro es ep zz hd zz hp zz;refine aM (ww h') fun o' kvs' h1' z21 h3'=>?_;refine pI z21 ?_;clear z21;intro es' ep' zz hd' zz hp' zz;rw[h1] at h1';(injection h1' with h1';subst h1');rw[hd] at hd';(injection hd' with q28 q29;subst q28;subst q29);rw[Vb l l' es.toList kvs kvs' hp hp' h3 h3']
 |.stream x,b,v,h,h'=>by
  have hk:=(fw _ v h).symm.trans (fw b v h');cases b<;>first|exact nk hk rfl|skip
  rename_i x';refine aY (pp h (aj rfl)) fun y z22=>?_;subst z22;rw[PV.d] at h h';refine ar (Bj h h') fun u a1 a2=>?_;rw[WR x x' u a1 a2]
theorem Vc:∀(l l':List PV)vs,Mine.gP prog w V (l.map PV.d) vs->Mine.gP prog w V (l'.map PV.d) vs->l=l'
 |[],[],vs,_,_=>rfl|[],b::r',vs,h,h'=>by obtain rfl:=be.mp h;refine cY (aG.mp h') fun zz zz e zz=>?_;injection e
 |a::r,[],vs,h,h'=>by obtain rfl:=be.mp h';refine cY (aG.mp h) fun zz zz e zz=>?_;injection e
 |a::r,b::r',vs,h,h'=>by refine aM (aG.mp h) fun v rs z23 a1 a2=>?_;subst z23;refine aM (aG.mp h') fun v' rs' e b1 b2=>?_;(injection e with q26 q27;subst q26;subst q27);rw[WR a b v a1 b1,Vc r r' rs a2 b2]
theorem Vb:∀l l' es kvs kvs',Pairs (strKind prog w) es kvs->Pairs (strKind prog w) es kvs'->Cy prog w V (PV.dS l) kvs->Cy prog w V (PV.dS l') kvs'->l=l'
 |[],[],_,_,_,_,_,_,_=>rfl|[],(y,b)::r',es,kvs,kvs',p,p',h,h'=>by subst h;refine cY h' ?_;clear h';intro zz zz z24 zz;subst z24;cases p;cases p'
 |(x,a)::r,[],es,kvs,kvs',p,p',h,h'=>by subst h';refine cY h ?_;clear h;intro zz zz z25 zz;subst z25;cases p';cases p
 |(x,a)::r,(y,b)::r',es,kvs,kvs',p,p',h,h'=>by refine aM h ?_;clear h;intro v rs z26 a1 a2;subst z26;refine aM h' ?_;clear h';intro v' rs' z27 b1 b2;subst z27;cases p with|cons p1 p2 p3=>cases p' with|cons q1 q2 q3=>have e1:x=y:=Value.isStrOf_inj _ _ _ p1 q1;have e2:v=v':=p2.symm.trans q2;subst e1 e2;rw[WR a b v a1 b1,Vb r r' _ rs rs' p3 q3 a2 b2]
end
noncomputable def eP:PV->Bool|.dict l=>!Rw (PV.dS l)|_=>ak
noncomputable def nw(v:PV):Bool:=if eP v then(match v with|.dict l=>HV (PV.dS l)|_=>ak) else nh v.d
theorem Gj:∀{tab:dG}{kvs:List (Int×aE)},CJ prog w V tab.d kvs->(∀p∈tab,nw p.2.2=ai)->gc tab->∃α,(∀n,α n≠aq->n∈tab.map (·.1))/\(∀p∈tab,eP p.2.2=ak->α p.1=aq)/\CJ prog w (nM V) (df α tab) kvs/\∀p∈tab,eP p.2.2=ai->∃a,α p.1=ac a/\Is prog w V p.2.2.d (.ref a):=by
 intro p0_;induction p0_ with
 |nil=>intro kvs h zz zz;exact qh (fun zz=>aq) (fun n h=>absurd rfl h) (fun zz zz zz=>rfl) h (fun p hp=>absurd hp cf)
 |cons p_ r ih=>
  rcases p_ with⟨k,g,v⟩
  intro kvs h hr hk;have hk':=av.mp hk;rw[show dG.d ((k,g,v)::r)=(k,DV.tup [.int g,v.d])::dG.d r from rfl] at h;refine aM h ?_;clear h;intro tv rs z1 ht hrest;subst z1;refine jE (ih hrest (fun p hp=>hr p (.tail _ hp)) hk'.2) fun α a1 a2 a3 a4=>?_;have ne:∀p∈r,p.1≠k:=fun p hp e=>hk'.1 (az.mpr (bq p hp e));have hrow:=hr (k,g,v) (.head _);dsimp only at hrow;have tl:∀x,df (fun n=>if n=k then x else α n) r=df α r:=fun x=>by
   unfold df;refine bM fun p hp=>?_;unfold nA;try dsimp only
   rw[if_neg (ne p hp)]
  refine bE ht ?_;clear ht;intro a0 o vs n z2 h1 h2 h3 h4 h5;subst z2;refine aM (aG.mp h5) fun x xs e1 i1 h6=>?_;refine aM (aG.mp h6) fun y ys e2 i2 h7=>?_;have e3:=be.mp h7;have mk:∀d,Is prog w (nM V) d y->Is prog w (nM V) (.tup [.int g,d]) (.ref a0):=fun d iy=>by show Exists _;exact cJ a0 o vs n rfl (lh h1 (by unfold g5;rw[h4])) h2 h3 h4 (aG.mpr (bO x xs e1 i1 (aG.mpr (bO y ys e2 iy (be.mpr e3)))))
  by_cases hh:eP v=ai
  .refine aY (pp i2 (by cases v<;>first|((first|(injection hh;done)|cases hh);done)|exact aj rfl)) fun a z3=>?_
   subst z3;refine qh (fun n=>if n=k then ac a else α n) (fun n hn=>?_) (fun p hp hq=>?_) ?_ (fun p hp hq=>?_)
   .dsimp only at hn
    by_cases e:n=k;.subst e;exact .head _
    .rw[if_neg e] at hn;exact .tail _ (a1 n hn)
   .rcases ao.mp hp with rfl|hp
    .rw[hh] at hq;injection hq
    .dsimp only;rw[if_neg (ne p hp)];exact a2 p hp hq
   .rw[show df (fun n=>if n=k then ac a else α n) ((k,g,v)::r)=(k,.tup [.int g,.ptr a])::df (fun n=>if n=k then ac a else α n) r from by unfold df nA;simp,tl]
    show Exists _;exact bO _ _ rfl (mk _ (aT.mpr ⟨rfl,rfl⟩)) a3
   .rcases ao.mp hp with rfl|hp
    .exact bq a (by simp) i2
    .dsimp only;rw[if_neg (ne p hp)];exact a4 p hp hq
  .have hf:eP v=ak:=by simpa using hh
   refine qh (fun n=>if n=k then aq else α n) (fun n hn=>?_) (fun p hp hq=>?_) ?_ (fun p hp hq=>?_)
   .dsimp only at hn
    by_cases e:n=k;.rw[if_pos e] at hn;exact absurd rfl hn
    .rw[if_neg e] at hn;exact .tail _ (a1 n hn)
   .rcases ao.mp hp with rfl|hp
    .simp
    .dsimp only;rw[if_neg (ne p hp)];exact a2 p hp hq
   .rw[show df (fun n=>if n=k then aq else α n) ((k,g,v)::r)=(k,.tup [.int g,v.d])::df (fun n=>if n=k then aq else α n) r from by unfold df nA;simp,tl]
    show Exists _;refine bO _ _ rfl (mk _ (mW v.d y i2 ?_)) a3;unfold nw at hrow;rwa[if_neg (by rw[hf];decide)] at hrow
   .rcases ao.mp hp with rfl|hp
    .rw[hf] at hq;injection hq
    .dsimp only;rw[if_neg (ne p hp)];exact a4 p hp hq
noncomputable def YR:MO->Bool|.lst l=>Po l|.sdic l=>HV l|.idic l=>WO l|.obj _=>ai|.pr _=>ai|.flds l=>HV l|.cell d=>nh d|.prV _ _=>ak
theorem GJ(z:jv prog w V h a mo)(e:YR mo=ai):jv prog w (nM V) h a mo:=by
 cases mo with
 |lst l=>exact bU z fun o vs n h1 h2 h3 h4 h5=>(c7 o vs n h1 h2 h3 h4 (rn _ _ h5 e))
 |sdic l=>exact bB z fun o kvs h1 h2 h3 h4=>(dw o kvs h1 h2 h3 (rj _ _ h4 e))
 |idic l=>exact bB z fun o kvs h1 h2 h3 h4=>(dw o kvs h1 h2 h3 (vN _ _ h4 e))
 |obj o=>exact z|pr p=>exact z|flds l=>exact cY z fun es n h1 h2=>(jP es n h1 (vP _ _ h2 e))
 |cell d=>exact aM z fun o x h1 h2 h3=>(bO o x h1 h2 (fun z=>ar (h3 z) fun v a b=>(bq v a (mW _ _ b e))))
 |prV p m=>injection e
section
variable {t : aW} {α : Al}
set_option tactic.hygienic true in
theorem vT(h:mj α p=ac q):∃l,p.2.2=.dict l/\α p.1=ac q.1/\q.2=.sdic (PV.dS l):=by
 unfold mj at h;split at h
 .rename_i a l h1 h2
  (injection h with h;subst h);exact cB l h2 h1 rfl
 .injection h
theorem Qv(h:q∈j6 α tab):∃p∈tab,∃l,p.2.2=.dict l/\α p.1=ac q.1/\q.2=.sdic (PV.dS l):=by refine ar (cm.mp h) fun p hp e=>?_;exact bq p hp (vT e)
theorem GR(h:V a=ac o)(n:g5 o=ai):nM V a=aq:=by
 unfold nM;rw[h];try dsimp only
 rw[n];rfl
theorem pD(h:V a=aq):nM V a=aq:=by unfold nM;rw[h]
theorem Ms(hh:eP v=ai)(h:Is G.prog G.w V v.d (.ref a)):∃o,V a=ac o/\g5 o=ai:=by
 cases v with
 |dict l=>refine aM (ww h) fun o kvs h1 h2 h3=>?_;refine bq o h1 ?_;rw[yo h2 h3];exact hh
 |_=>injection hh
theorem b9.thaw(S:b9 (cx G B) V Y ((t,.idic tab.d)::Z) s)(hA:B.A.handled=aq)(hV0:∀a o,B.V0 a=ac o->g5 o=ak)(hk:gc tab)(hr:∀p∈tab,nw p.2.2=ai)(hY:∀p∈Y,nh p.2=ai)(hZ:∀p∈Z,YR p.2=ai)(hd:tab.Pairwise fun p q=>eP p.2.2=ai->eP q.2.2=ai->p.2.2≠q.2.2):∃α,(∀n,α n≠aq->n∈tab.map (·.1))/\(∀p∈tab,eP p.2.2=ak->α p.1=aq)/\(∀p∈tab,eP p.2.2=ai->(α p.1).isSome=ai)/\b9 (cx G B) (nM V) Y ((t,.idic (df α tab))::(Z++j6 α tab)) s:=by
 refine bB (S.mu (t,.idic tab.d) (.head _)) fun o kvs ho low hdo hI=>?_;refine jE (Gj hI hr hk) fun α a1 a2 a3 a4=>?_;have hq:∀q∈j6 α tab,∃p∈tab,∃l,p.2.2=.dict l/\eP p.2.2=ai/\α p.1=ac q.1/\q.2=.sdic (PV.dS l)/\Is G.prog G.w V p.2.2.d (.ref q.1):=fun q h=>by
  refine wt (Qv h) fun p hp l e ea eq=>?_;have hh:eP p.2.2=ai:=by cases z:eP p.2.2 with|true=>rfl|false=>rw[a2 p hp z] at ea;injection ea
  refine ar (a4 p hp hh) fun a ea' i=>?_;rw[ea] at ea';(injection ea' with ea';subst ea');exact⟨p,hp,l,e,hh,ea,eq,i⟩
 have hqo:∀q∈j6 α tab,∃o,V q.1=ac o/\g5 o=ai:=fun q h=>by refine wr (hq q h) fun p hp l e hh ea eq i=>?_;exact Ms hh i
 have kl:=Ma V;have dj:=av.mp S.dj;have dj2:=av.mp dj.2;have nd:((j6 α tab).map (·.1)).Nodup:=by
  unfold rU;rw[td];unfold j6;rw[List.pairwise_filterMap];refine RS (fun {p p'} hp hp' hne q hq1 q' hq2 e=>?_) hd;refine bp (vT hq1) fun l e1 ea zz=>?_;refine bp (vT hq2) fun l' e1' ea' zz=>?_;have h1:eP p.2.2=ai:=by cases z:eP p.2.2 with|true=>rfl|false=>rw[a2 p hp z] at ea;injection ea
  have h2:eP p'.2.2=ai:=by cases z:eP p'.2.2 with|true=>rfl|false=>rw[a2 p' hp' z] at ea';injection ea'
  refine ar (a4 p hp h1) fun x ex i=>?_;refine ar (a4 p' hp' h2) fun x' ex' i'=>?_;rw[ea] at ex;(injection ex with ex;subst ex);rw[ea'] at ex';(injection ex' with ex';subst ex');rw[<-e] at i';exact hne h1 h2 (WR _ _ _ i i')
 have nm:∀q∈j6 α tab,q.1≠B.L/\∀p∈(t,MO.idic tab.d)::Z,p.1≠q.1:=fun q h=>by
  refine ar (hqo q h) fun o ho zz=>?_;refine⟨fun e=>?_,fun p hp e=>?_⟩
  .have:=S.vL
   rw[show(cx G B).L=B.L from rfl,<-e,ho] at this;injection this
  .have:=S.vm p hp
   rw[e,ho] at this;injection this
 refine ar S.m ?_;(try clear m);intro m hn he;refine qh α a1 a2 (fun p hp hh=>?_) ⟨(bq m hn (fun p hp=>⟨(he p hp).1,fun h=>?_⟩)),S.nd,fun p hp=>?_,?_,kl.trans S.vh,pD S.vL,fun p hp=>?_,fun a ha=>?_,fun a o e=>lh (S.v0 _ _ e) (hV0 a o e),S.b0,fun p hp=>?_,S.pr,S.sz,.inl hA,S.rest⟩
 .refine ar (a4 p hp hh) fun a ha zz=>?_
  rw[ha];rfl
 .refine ar ((he p hp).2 h) fun v h1 h2=>?_
  exact bq v h1 (mW _ _ h2 (hY p hp))
 .rcases ao.mp hp with rfl|hp
  .exact dw o kvs ho low hdo a3
  .rcases aJ.mp hp with hp|hp
   .exact GJ (S.mu p (.tail _ hp)) (hZ p hp)
   .refine wr (hq p hp) fun p' hp' l e hh ea eq i=>?_
    obtain⟨a,mo⟩:=p;subst eq;rw[e,PV.d] at i;refine bU i ?_;clear i;intro x o' kvs' ex h1 h2 h3 h4;(injection ex with ex;subst ex);refine dw o' kvs' (S.vh _ _ h1) h2 h3 (rj _ _ h4 ?_);have:=hr p' hp';unfold nw at this;rw[if_pos hh,e] at this;exact this
 .rw[au,aA]
  refine av.mpr ⟨fun q=>?_,av.mpr ⟨fun q=>?_,bC.mpr (jT dj2.2 nd (fun a ha b hb e=>?_))⟩⟩
  .rcases ao.mp q with q|q
   .exact dj.1 (q▸.head _)
   .rcases aJ.mp q with q|q
    .exact dj.1 (.tail _ q)
    .refine ar (az.mp q) fun p hp e=>?_
     exact(nm p hp).1 e
  .rcases aJ.mp q with q|q
   .exact dj2.1 q
   .refine ar (az.mp q) fun p hp e=>?_
    exact(nm p hp).2 _ (.head _) e.symm
  .refine ar (az.mp ha) fun p hp e1=>?_
   refine ar (az.mp hb) fun q hq e2=>?_;exact(nm q hq).2 p (.tail _ hp) (e1.trans (e.trans e2.symm))
 .rcases ao.mp hp with rfl|hp
  .exact pD (S.vm (t,.idic tab.d) (.head _))
  .rcases aJ.mp hp with hp|hp
   .exact pD (S.vm _ (.tail _ hp))
   .refine ar (hqo p hp) fun o ho hh=>?_
    exact GR ho hh
 .exact S.fr a fun e=>ha (pD e)
 .rcases ao.mp hp with rfl|hp
  .exact S.mf (t,.idic tab.d) (.head _)
  .rcases aJ.mp hp with hp|hp
   .exact S.mf _ (.tail _ hp)
   .refine ar (hqo p hp) fun o ho hh=>?_
    rcases S.fr p.1 (by rw[ho];simp) with z|z
    .exfalso
     cases e:(cx G B).V0 p.1 with|none=>exact z e|some o'=>have:=S.v0 _ _ e;rw[ho] at this;(injection this with this;subst this);have:=hV0 _ _ e;rw[hh] at this;injection this
    .exact .inr z
theorem KE.thaw{Q:Fl->aP->Mu->Prop}(hA:B.A.handled=aq)(hV0:∀a o,B.V0 a=ac o->g5 o=ak)(hk:gc tab)(hr:∀p∈tab,nw p.2.2=ai)(hY:∀p∈Y,nh p.2=ai)(hZ:∀p∈Z,YR p.2=ai)(hd:tab.Pairwise fun p q=>eP p.2.2=ai->eP q.2.2=ai->p.2.2≠q.2.2)(H:∀α,(∀n,α n≠aq->n∈tab.map (·.1))->(∀p∈tab,eP p.2.2=ak->α p.1=aq)->(∀p∈tab,eP p.2.2=ai->(α p.1).isSome=ai)->KE G B E b Y ((t,.idic (df α tab))::(Z++j6 α tab)) Q):KE G B E b Y ((t,.idic tab.d)::Z) Q:=fun V s S=>
 let ⟨α,a1,a2,a3,S'⟩:=S.thaw hA hV0 hk hr hY hZ hd
 H α a1 a2 a3 _ s S'
theorem b9.freezes:∀{hs:Mu}{V:Vw},b9 (cx G B) V Y (Z++hs) s->(∀p∈hs,p.1∉B.m0)->∃V',Kp V V'/\b9 (cx G B) V' Y Z s/\∀p∈hs,∃o,V' p.1=ac o/\s.heap.get? p.1=ac o:=by
 intro p0_;induction p0_ with
 |nil=>intro V S zz;exact cB V (.refl _) (by rw[bR] at S;exact S) (fun zz h=>nomatch h)
 |cons p_ hs ih=>
  rcases p_ with⟨a,mo⟩
  intro V S h;refine aY ((S.mu (a,mo) (aK _ (.head _))).at) fun o ho=>?_;have S1:=S.freeze (S.big (h _ (.head _))) ho;have k1:Kp V (fS V a o):=dc (S.vm (a,mo) (aK _ (.head _)));refine bp (ih S1 fun p hp=>h p (.tail _ hp)) fun V' k' S' h'=>?_;refine cB V' (k1.trans k') S' (fun p hp=>?_);rcases ao.mp hp with rfl|hp;.exact bq o (k' _ _ (bT _ _ _)) ho
  .exact h' p hp
theorem Df(k:Kp V V'):∀{tab:dG}{kvs:List (Int×aE)},CJ prog w V (df α tab) kvs->qL α tab->(∀q∈j6 α tab,∀l,q.2=.sdic (PV.dS l)->Is prog w V' (PV.dict l).d (.ref q.1))->CJ prog w V' tab.d kvs:=by
 intro p0_;induction p0_ with
 |nil=>intro kvs h zz zz;exact h
 |cons p_ r ih=>
  rcases p_ with⟨n,g,v⟩
  intro kvs h ho hq;rw[show df α ((n,g,v)::r)=(n,.tup [.int g,nA α (n,g,v)])::df α r from rfl] at h;rw[show dG.d ((n,g,v)::r)=(n,DV.tup [.int g,v.d])::dG.d r from rfl];show Exists _;refine aM h ?_;clear h;intro tv rs z1 ht hrest;subst z1;refine bO tv rs rfl ?_ (ih hrest (fun p hp=>ho p (.tail _ hp)) fun q hq'=>hq q ?_)
  .have ho1:=ho (n,g,v) (.head _)
   unfold nA at ht;dsimp only at ht ho1;cases ha:α n with|none=>rw[ha] at ht;exact ht.mono k|some a=>rw[ha] at ht ho1;refine aY (ho1 (by simp)) fun l z2=>?_;subst z2;have i:=hq (a,.sdic (PV.dS l)) (by unfold j6;rw[iB (b:=(a,.sdic (PV.dS l))) (by unfold mj;dsimp only;rw[ha])];exact .head _) l rfl;show Exists _;refine bE ht ?_;clear ht;intro a0 o vs n' z3 h1 h2 h3 h4 h5;subst z3;refine aM (aG.mp h5) fun x xs e1 i1 h6=>?_;refine aM (aG.mp h6) fun y ys e2 i2 h7=>?_;refine aZ (aT.mp i2) fun z4 zz=>?_;subst z4;exact cJ a0 o vs n' rfl (k _ _ h1) h2 h3 h4 (aG.mpr (bO x xs e1 (i1.mono k) (aG.mpr (bO _ ys e2 i (be.mpr (be.mp h7))))))
  .unfold j6 at hq' ⊢
   rw[fM];cases mj α (n,g,v) with|none=>exact hq'|some x=>exact .tail _ hq'
theorem WP.refreeze{Q:β->aP->Mu->Prop}(hal:qL α tab)(hm0:∀a∈B.m0,a∈t::Z.map (·.1))(H:WP G B E rel b Y ((t,.idic tab.d)::Z) Q):WP G B E rel b Y ((t,.idic (df α tab))::(Z++j6 α tab)) Q:=by
 intro V s S;have dj:=av.mp S.dj;have S0:b9 (cx G B) V Y (((t,MO.idic (df α tab))::Z)++j6 α tab) s:=S;have hn:∀p∈j6 α tab,p.1∉B.m0:=fun p hp h=>by have:=hm0 _ h;rw[show((t,MO.idic (df α tab))::(Z++j6 α tab)).map (·.1)=(t::Z.map (·.1))++(j6 α tab).map (·.1) from by simp] at dj;exact(bC.mp dj.2).2.2 _ this _ (ax hp) rfl
 refine bp (S0.freezes hn) fun V' k' S1 hh=>?_;refine bB (S.mu (t,.idic (df α tab)) (.head _)) fun o kvs ho low hdo hI=>?_;have hI':CJ G.prog G.w V' tab.d kvs:=Df k' hI hal fun q hq l e=>by obtain⟨a,mo⟩:=q;subst e;refine ar (hh _ hq) fun o' ho' hg=>?_;rw[PV.d];exact sI (mo:=.sdic (PV.dS l)) rfl (S.mu _ (.tail _ (aK _ hq))) hg k' ho'
 have S2:=S1.turn (Z1:=[]) (mo':=.idic tab.d) (t:=s.toks) (h':=s.heap) ⟨rfl,fun zz zz=>rfl⟩ (dw o kvs ho low hdo hI');exact WP.step (rel':=rel) k' H S2
end
noncomputable def vK:PV->Bool|.ref _ _=>ai|_=>ak
noncomputable def pQ(l:List (aV×PV)):List aV->List (aV×PV)->Option (List (aV×PV))|[],i=>ac i|k::r,i=>match fN l k with|none=>pQ l r i|some v=>if vK v then aq else if v.isNull then pQ l r i else pQ l r (eJ i k v)
theorem zW(l){k r i}:pQ l (k::r) i=(match fN l k with|none=>pQ l r i|some v=>if vK v then aq else if v.isNull then pQ l r i else pQ l r (eJ i k v)):=rfl
noncomputable def tu(l:List (aV×PV)):Option Bool:=match fN l (aa "Type") with
 |some (.name x)=>if x=aa "Pages" then ac ai else if x=aa "Page" then ac ak else aq
 |_=>aq
noncomputable def p9(l:List (aV×PV)):Option (List PV):=match fN l (aa "Kids") with|some (.arr k)=>ac k|_=>aq
noncomputable def qz(lk:Lk)(v:PV)(a:List (Int×Int))(i:List (aV×PV)):Option bk:=match v with
 |.ref n g=>match lk n with
  |some (ac (g',.dict l))=>if g'=g then(match pQ l eY i,tu l with|some i',ac b=>ac ⟨n,g,l,a,i',!b⟩|_,_=>aq) else aq
  |_=>aq
 |_=>aq
noncomputable def eR(lk:Lk):Nat->List nG->List bk->List Int->Option (List bk)
 |0,_,_,_=>aq
 |_+1,[],found,_=>ac found
 |n+1,(v,a,i)::rest,found,seen=>
  if 900<i.length\/900<rest.length\/900<a.length then aq else
  match qz lk v a i with
  |none=>aq
  |some s=>if s.n∈seen\/(found.isEmpty&&s.page)=ai then aq else
   if s.page then eR lk n rest (found++[s]) (seen++[s.n]) else
   match p9 s.head with
   |some ks=>if 900<ks.length then aq else eR lk n (ks.map (fun k=>(k,a++[(s.n,s.k)],s.inh))++rest) (found++[s]) (seen++[s.n])
   |none=>aq
theorem po(lk){n v a i rest found seen}:eR lk (n+1) ((v,a,i)::rest) found seen=(
  if 900<i.length\/900<rest.length\/900<a.length then aq else
  match qz lk v a i with
  |none=>aq
  |some s=>if s.n∈seen\/(found.isEmpty&&s.page)=ai then aq else
   if s.page then eR lk n rest (found++[s]) (seen++[s.n]) else
   match p9 s.head with
   |some ks=>if 900<ks.length then aq else eR lk n (ks.map (fun k=>(k,a++[(s.n,s.k)],s.inh))++rest) (found++[s]) (seen++[s.n])
   |none=>aq):=rfl
theorem jL(h:vK v=ak)(n):cc lk n v=ac v:=m3 (by cases v<;>first|rfl|injection h)
theorem wc{c g:Int}(h:lk c=ac (ac (g,.dict l)))(n):cc lk (n+1) (.ref c g)=ac (.dict l):=by(first|rw[yr]|rw[fetchP_e1]|unfold cc);rw[h];dsimp only;rw[if_neg (fun e=>e rfl),jL rfl]
theorem Qs:∀{ks:List aV}{i i':List (aV×PV)},pQ l ks i=ac i'->pR lk l ks i=ac i':=by
 intro p0_;induction p0_ with
 |nil=>intro zz zz h;exact h
 |cons k r ih=>
  intro i i' h;(first|rw[inhQ_e0] at h|rw[zW] at h|unfold pQ at h);(first|rw[inhP_e0]|rw[E8]|unfold pR);unfold dD;cases e:fN l k with|none=>rw[e] at h;exact ih h|some v=>
   rw[e] at h;dsimp only at h;by_cases hr:vK v=ai;.rw[if_pos hr] at h;injection h
   rw[if_neg hr] at h;rw[eH,jL (by simpa using hr)];cases v<;>first|exact ih h
set_option tactic.hygienic true in
theorem LV(h:tu l=ac b):lj lk l=ac b:=by
 unfold tu at h;unfold lj dD;split at h
 .rename_i x e
  rw[e,eH,jL rfl];exact h
 .injection h
set_option tactic.hygienic true in
theorem Md(h:p9 l=ac k):tx lk l=ac (ac k):=by
 unfold p9 at h;unfold tx dD;split at h
 .rename_i x e
  (injection h with h;subst h);rw[e,eH,jL rfl];rfl
 .injection h
set_option tactic.hygienic true in
theorem zG{a:List (Int×Int)}{s:bk}(h:qz lk v a i=ac s):v=.ref s.n s.k/\lk s.n=ac (ac (s.k,.dict s.head))/\pQ s.head eY i=ac s.inh/\tu s.head=ac (!s.page)/\s.above=a:=by
 unfold qz at h;split at h
 .rename_i n g
  split at h
  .rename_i g' l e
   split at h
   .rename_i eg
    subst eg;split at h
    .rename_i i' b e1 e2
     (injection h with h;subst h);exact⟨rfl,e,e1,(by rw[e2,nQ]),rfl⟩
    .injection h
   .injection h
  .injection h
 .injection h
theorem L7{n g:Int}{a:List (Int×Int)}(h:lk n=ac (ac (g,.dict l)))(h1:pQ l eY i=ac i')(h2:tu l=ac b):qz lk (.ref n g) a i=ac ⟨n,g,l,a,i',!b⟩:=by unfold qz;dsimp only;rw[h];dsimp only;rw[if_pos rfl,h1,h2]
theorem Dq{a:List (Int×Int)}{s:bk}(h:qz lk v a i=ac s):ub lk v a i=ac (ac s):=by
 refine rH (zG h) fun z1 e h1 h2 z2=>?_;subst z1;subst z2;unfold ub;have hh:fP lk 64 [] (.ref s.n s.k)=ac (ac (s.n,s.k)):=by(first|rw[Jw]|rw[homeP_e1]|unfold fP);rw[if_neg (fun h=>nomatch h),e];dsimp only;rw[if_neg (fun e=>e rfl)]
 rw[hh];dsimp only;rw[wc e 29];dsimp only;rw[Qs h1,LV h2];dsimp only;rw[nQ]
theorem A7{a:List (Int×Int)}{seen:List Int}{s:bk}(h1:¬(900<i.length\/900<rest.length\/900<a.length))(h2:qz lk v a i=ac s)(h3:¬(s.n∈seen\/(found.isEmpty&&s.page)=ai))(h4:s.page=ai):eR lk (n+1) ((v,a,i)::rest) found seen=eR lk n rest (found++[s]) (seen++[s.n]):=by rw[po,if_neg h1,h2];dsimp only;rw[if_neg h3,if_pos h4]
theorem A8{a:List (Int×Int)}{seen:List Int}{s:bk}(h1:¬(900<i.length\/900<rest.length\/900<a.length))(h2:qz lk v a i=ac s)(h3:¬(s.n∈seen\/(found.isEmpty&&s.page)=ai))(h4:¬s.page=ai)(h5:p9 s.head=ac ks)(h6:¬900<ks.length):eR lk (n+1) ((v,a,i)::rest) found seen=eR lk n (ks.map (fun k=>(k,a++[(s.n,s.k)],s.inh))++rest) (found++[s]) (seen++[s.n]):=by rw[po,if_neg h1,h2];dsimp only;rw[if_neg h3,if_neg h4,h5];dsimp only;rw[if_neg h6]
theorem pA{x:α}{C:Prop}(h:aq=ac x):C:=by injection h
theorem vJ[Decidable c]{x:α}{C:Prop}(h:(if c then aq else b)=ac x)(k:¬c->b=ac x->C):C:=by
 by_cases hc:c;.rw[if_pos hc] at h;exact pA h
 .rw[if_neg hc] at h;exact k hc h
theorem mN{P:Nat->List nG->List bk->List Int->Prop}(h0:∀n seen,P (n+1) [] res seen)(hp:∀n v a i rest found seen s,¬(900<i.length\/900<rest.length\/900<a.length)->qz lk v a i=ac s->¬(s.n∈seen\/(found.isEmpty&&s.page)=ai)->s.page=ai->eR lk n rest (found++[s]) (seen++[s.n])=ac res->P n rest (found++[s]) (seen++[s.n])->P (n+1) ((v,a,i)::rest) found seen)(hk:∀n v a i rest found seen s ks,¬(900<i.length\/900<rest.length\/900<a.length)->qz lk v a i=ac s->¬(s.n∈seen\/(found.isEmpty&&s.page)=ai)->¬s.page=ai->p9 s.head=ac ks->¬900<ks.length->eR lk n (ks.map (fun k=>(k,a++[(s.n,s.k)],s.inh))++rest) (found++[s]) (seen++[s.n])=ac res->P n (ks.map (fun k=>(k,a++[(s.n,s.k)],s.inh))++rest) (found++[s]) (seen++[s.n])->P (n+1) ((v,a,i)::rest) found seen)(n):∀{line:List nG}{found:List bk}{seen:List Int},eR lk n line found seen=ac res->P n line found seen:=by
 induction n with
 |zero=>exact fun h=>pA h
 |succ n ih=>
  intro line found seen h;cases line with|nil=>exact aB h▸h0 n seen|cons x rest=>
  rcases x with⟨v,a,i⟩
  rw[po] at h;refine vJ h fun h1 h=>?_;cases e:qz lk v a i with|none=>rw[e] at h;exact pA h|some s=>
   rw[e] at h;refine vJ h fun h2 h=>?_;by_cases h3:s.page=ai
   .rw[if_pos h3] at h
    exact hp n v a i rest found seen s h1 e h2 h3 h (ih h)
   .rw[if_neg h3] at h
    cases ek:p9 s.head with|none=>rw[ek] at h;exact pA h|some ks=>rw[ek] at h;exact vJ h fun h4 h=>hk n v a i rest found seen s ks h1 e h2 h3 ek h4 h (ih h)
theorem IH{seen:List Int}:eR lk n line found seen=ac res->iP lk n line found seen=ac (ac res):=by
 refine mN (P:=fun n line found seen=>iP lk n line found seen=ac (ac res)) (fun n seen=>rfl) (fun n v a i rest found seen s h1 h2 h3 h4 _ ih=>?_) (fun n v a i rest found seen s ks h1 h2 h3 h4 h5 h6 _ ih=>?_) n;.rw[xO,if_neg h1,Dq h2];dsimp only;rw[if_neg h3,if_pos h4];exact ih
 .rw[xO,if_neg h1,Dq h2];dsimp only;rw[if_neg h3,if_neg h4,Md h5];dsimp only;rw[if_neg h6];exact ih
theorem uS{seen:List Int}:eR lk n line found seen=ac res->found <+: res:=mN (P:=fun _ _ found _=>found <+: res) (fun _ _=>List.prefix_refl _) (fun _ _ _ _ _ _ _ _ _ _ _ _ _ ih=>(HP _ _).trans ih) (fun _ _ _ _ _ _ _ _ _ _ _ _ _ _ _ _ ih=>(HP _ _).trans ih) n
def lA(l l':List (aV×PV)):Prop:=∀k∈aa "Type" :: aa "Kids" :: eY,fN l k=fN l' k
theorem lA.refl(l):lA l l:=fun zz zz=>rfl
theorem lA.trans(h:lA l l')(k:lA l' l''):lA l l'':=fun x hx=>(h x hx).trans (k x hx)
theorem DD{l l':List (aV×PV)}:∀{ks:List aV}{i:List (aV×PV)},(∀k∈ks,fN l k=fN l' k)->pQ l ks i=pQ l' ks i:=by
 intro p0_;induction p0_ with
 |nil=>intro zz zz;exact rfl
 |cons k r ih=>
  intro i h;rw[zW,zW];rw[h k (.head _)];have ih:∀i,pQ l r i=pQ l' r i:=fun i=>ih fun x hx=>h x (.tail _ hx);split;.exact ih _
  .rw[ih,ih]
noncomputable def nR(lk:Lk)(s:bk):bk:=match lk s.n with|some (ac (_,.dict l))=>{s with head:=l}|_=>s
def xD(lk:Lk)(s:bk):Prop:=∃l,lk s.n=ac (ac (s.k,.dict l))/\lA s.head l
theorem uO{s:bk}{g:Int}(h:lk s.n=ac (ac (g,.dict l))):nR lk s={s with head:=l}:=by unfold nR;rw[h]
theorem uP(lk s):(nR lk s).n=s.n:=by unfold nR;split<;>rfl
theorem NJ(lk s):(nR lk s).k=s.k:=by unfold nR;split<;>rfl
theorem jI(lk s):(nR lk s).page=s.page:=by unfold nR;split<;>rfl
theorem F8(lk s):(nR lk s).above=s.above:=by unfold nR;split<;>rfl
theorem LF(lk s):(nR lk s).inh=s.inh:=by unfold nR;split<;>rfl
theorem GN{a:List (Int×Int)}{s:bk}(h:qz lk v a i=ac s)(w:xD lk' s):qz lk' v a i=ac (nR lk' s)/\p9 (nR lk' s).head=p9 s.head:=by
 refine ar w ?_;clear w;intro l' h1 h2;refine rH (zG h) fun z3 e e1 e2 z4=>?_;subst z3;subst z4;rw[uO h1];refine⟨?_,?_⟩
 .rw[DD (l':=l') fun k hk=>h2 k (.tail _ (.tail _ hk))] at e1
  have:tu l'=tu s.head:=by unfold tu;rw[h2 _ (.head _)]
  rw[L7 h1 e1 (this.trans e2),nQ]
 .unfold p9
  dsimp only;rw[h2 _ (.tail _ (.head _))]
theorem A6{found:List bk}{seen:List Int}(h:eR lk n line found seen=ac res)(w:∀s∈res,xD lk' s):eR lk' n line (found.map (nR lk')) seen=ac (res.map (nR lk')):=by
 refine mN (P:=fun n line found seen=>eR lk' n line (found.map (nR lk')) seen=ac (res.map (nR lk'))) (fun n seen=>rfl) (fun n v a i rest found seen s h1 h2 h3 h4 hr ih=>?_) (fun n v a i rest found seen s ks h1 h2 h3 h4 h5 h6 hr ih=>?_) n h;all_goals
  have hs:s∈res:=(uS hr).subset (aK _ (.head _));have em:(found.map (nR lk')).isEmpty=found.isEmpty:=by cases found<;>rfl
  rw[aA,au,bI] at ih;refine aZ (GN h2 (w s hs)) fun e1 e2=>?_
 .exact(A7 h1 e1 (by rw[uP,jI,em];exact h3) (by rw[jI];exact h4)).trans (by rw[uP];exact ih)
 .exact(A8 h1 e1 (by rw[uP,jI,em];exact h3) (by rw[jI];exact h4) (e2.trans h5) h6).trans (by rw[uP,NJ,LF];exact ih)
noncomputable def qH(lk:Lk)(tr:List (aV×PV)):Option (List bk):=match fN tr (aa "Root") with
 |some (.ref c g)=>match lk c with
  |some (ac (g',.dict l))=>if g'=g then eR lk 100 [(dD l (aa "Pages"),[],[])] [] [] else aq
  |_=>aq
 |_=>aq
set_option tactic.hygienic true in
theorem rO(h:qH lk tr=ac ks):∃c g l,fN tr (aa "Root")=ac (.ref c g)/\lk c=ac (ac (g,.dict l))/\eR lk 100 [(dD l (aa "Pages"),[],[])] [] []=ac ks:=by
 unfold qH at h;split at h
 .rename_i c g e
  split at h
  .rename_i g' l e2
   split at h
   .rename_i eg
    subst eg;exact i5 c g' l e e2 h
   .injection h
  .injection h
 .injection h
theorem Bl{c g:Int}(h:fN tr (aa "Root")=ac (.ref c g))(h2:lk c=ac (ac (g,.dict l))):vg lk tr=ac l:=by unfold vg dD;rw[h,eH,wc h2 29];rfl
theorem AD(h:qH lk tr=ac ks):cE lk tr=ac (ac ks):=by refine bl (rO h) fun c g l h1 h2 h3=>?_;unfold cE;rw[Bl h1 h2];exact IH h3
theorem HG(h:qH lk tr=ac ks):∃s r,ks=s::r/\l8 lk tr=ac (ac s):=by
 refine bl (rO h) fun c g l h1 h2 h3=>?_;unfold l8;rw[Bl h1 h2,tb];(first|rw[spotsQ_e0] at h3|rw[spotsQ_e1] at h3|rw[po] at h3|unfold eR at h3);split at h3;.injection h3
 .split at h3
  .injection h3
  .rename_i s e
   have fin:∀{m:Nat}{line:List nG}{seen:List Int},eR lk m line ([]++[s]) seen=ac ks->∃r,ks=s::r:=fun h=>by refine aY (uS h) fun r hr=>?_;exact⟨r,hr.symm⟩
   have:∃r,ks=s::r:=by
    split at h3;.injection h3
    .split at h3
     .exact fin h3
     .split at h3
      .split at h3
       .injection h3
       .exact fin h3
      .injection h3
   refine aY this ?_;clear this;intro r hr;exact jP s r hr (Dq e)
theorem yD{lk lk':Lk}(h:qH lk tr=ac ks)(hc:∀c g,fN tr (aa "Root")=ac (.ref c g)->lk' c=lk c)(w:∀s∈ks,xD lk' s):qH lk' tr=ac (ks.map (nR lk')):=by refine bl (rO h) fun c g l h1 h2 h3=>?_;unfold qH;rw[h1];dsimp only;rw[hc c g h1,h2];dsimp only;rw[if_pos rfl];exact A6 (found:=[]) h3 w
theorem Hx(lk):∀l c,Av (l.map (nR lk)) c=Av l c:=by
 intro p0_;induction p0_ with
 |nil=>intro zz;exact rfl
 |cons s r ih=>intro c;rw[au];rw[Fp,Fp];rw[uP,jI,ih]
theorem Hw(lk):∀l c,uh (l.map (nR lk)) c=uh l c:=by
 intro p0_;induction p0_ with
 |nil=>intro zz;exact rfl
 |cons s r ih=>intro c;rw[au];rw[Fo,Fo];rw[jI,F8];simp only[ih]
theorem tI(lk l):fU (l.map (nR lk))=fU l:=by unfold fU;rw[Hx,Hw]
theorem tG{lk lk':Lk}(h:qH lk' tr=ac (ks.map (nR lk')))(hc:fU ks=ac c)(hf:fD lk' c (ks.map (nR lk')) []=ac f):faultsP lk' tr=ac (ac f):=by unfold faultsP;rw[AD h];dsimp only;rw[tI,hc];dsimp only;rw[hf];rfl
theorem Bf{lk lk':Lk}(h:qH lk' tr=ac (ks.map (nR lk')))(hc:fU ks=ac c)(hf:dQ c lk' (ks.map (nR lk')) []=ac f):iS lk' tr=ac (ac f):=by unfold iS;rw[AD h];dsimp only;rw[tI,hc];dsimp only;rw[hf];rfl
theorem oG(h:x≠k):fN (eJ l k v) x=fN l x:=by
 have e:∀l,fN (l.map fun kv=>if kv.1=k then(kv.1,v) else kv) x=fN l x:=by
  intro l;induction l with|nil=>rfl|cons p r ih=>
   unfold fN at ih ⊢;rw[au,bh,bh];by_cases hp:p.1=k
   .have hx:¬p.1=x:=fun e=>h (e.symm.trans hp)
    simp only[hp,if_true];rw[decide_eq_false (fun e:k=x=>h e.symm)];exact ih
   .simp only[hp,if_false]
    by_cases hx:p.1=x;.simp[hx]
    .simp only[hx,decide_false];exact ih
 unfold eJ;split;.exact e l
 .unfold fN
  rw[te];cases l.find? (fun kv=>decide (kv.1=x)) with|some y=>rfl|none=>have hkx:¬k=x:=fun e=>h e.symm;simp[hkx]
theorem tw(h:x≠k):∀l,fN (sv l k) x=fN l x:=by
 intro p0_;induction p0_ with|nil=>exact rfl|cons p r ih=>
  have ih:=ih;unfold fN sv at ih ⊢;rw[d4];by_cases hp:p.1=k
  .have hx:¬p.1=x:=fun e=>h (e.symm.trans hp)
   rw[if_neg (by simp[hp]),bh,decide_eq_false hx];exact ih
  .rw[if_pos (by simpa using hp),bh,bh]
   by_cases hx:p.1=x;.simp[hx]
   .simp only[hx,decide_false];exact ih
theorem ut:∀x∈aa "Type" :: aa "Kids" :: eY,x≠aa "Count"/\x≠aa "Parent":=by decide +kernel
theorem tK:lA l (eJ l (aa "Count") v):=fun x hx=>(oG (ut x hx).1).symm
theorem AF:lA l (eJ l (aa "Parent") v):=fun x hx=>(oG (ut x hx).2).symm
theorem wG(l way right):lA l (jf l way right):=by
 unfold jf;split;.exact tK.trans fun x hx=>(tw (ut x hx).1 _).symm
 .exact tK
theorem FZ:∀{ks:List aV}{f h:List (aV×PV)},eX ch ks f=ac h->x∉ks->fN h x=fN f x:=by
 intro p0_;induction p0_ with
 |nil=>intro f h e zz;(injection e with e;subst e);rfl
 |cons k r ih=>
  intro f h e n;(first|rw[turnedGo_e0] at e|rw[A3] at e|unfold eX at e);have nk:x≠k:=fun q=>n (q▸.head _);have nr:x∉r:=fun q=>n (.tail _ q);split at e;.injection e
  .split at e
   .rw[ih e nr,tw nk]
   .rw[ih e nr,oG nk]
theorem AE{s:bk}{n:Int}(e:gI s.head (fW s p q n)=ac h):lA s.head h:=fun x hx=>by
 unfold gI at e;refine(FZ e fun hm=>?_).symm;refine aZ (ut x hx) fun a b=>?_;unfold fW at hm;rw[aA,aJ] at hm;rcases hm with hm|hm
 .cases p
  .rw[if_neg (by decide)] at hm
   exact b (ap.mp hm)
  .rw[if_pos rfl] at hm;cases hm
 .cases q
  .rw[if_neg (by decide)] at hm
   exact a (ap.mp hm)
  .rw[if_pos rfl] at hm;cases hm
def Vt(ks:List bk)(w:Int×Int×PV):Prop:=∀s∈ks,s.n=w.1->w.2.1=s.k/\∃h,w.2.2=.dict h/\lA s.head h
theorem Bg:∀{l:List bk}{lk:Lk}{ws ws':Wr},dQ c lk l ws=ac ws'->∀w∈ws',w∈ws\/∃s∈l,w.1=s.n/\w.2.1=s.k/\∃h,w.2.2=.dict h/\lA s.head h:=by
 intro p0_;induction p0_ with
 |nil=>intro zz zz zz h w hw;(first|rw[ow] at h|rw[ou] at h|unfold dQ at h);(injection h with h;subst h);exact .inl hw
 |cons s r ih=>
  intro lk ws ws' h w hw;(first|rw[ow] at h|rw[ou] at h|unfold dQ at h);split at h;.injection h
  .split at h
   .injection h
   .split at h
    .injection h
    .split at h
     .rcases ih h w hw with z|⟨x,hx,y⟩
      .exact .inl z
      .exact .inr (bq x (.tail _ hx) y)
     .split at h
      .injection h
      .split at h
       .injection h
       .rename_i hd e
        rcases ih h w hw with z|⟨x,hx,y⟩
        .rcases aJ.mp z with z|z
         .exact .inl z
         .cases ap.mp z
          exact .inr ⟨s,.head _,rfl,rfl,hd,rfl,AE e⟩
        .exact .inr (bq x (.tail _ hx) y)
theorem LD:∀{ws:Wr}{lk:Lk},(∀s∈ks,xD lk s)->(∀w∈ws,Vt ks w)->∀s∈ks,xD (bN lk ws) s:=by
 intro p0_;induction p0_ with
 |nil=>intro zz h zz;exact h
 |cons w r ih=>
  intro lk h hw;show ∀s∈ks,xD (bN (j4 lk w.1 w.2.1 w.2.2) r) s;refine ih (fun s hs=>?_) fun x hx=>hw x (.tail _ hx);unfold xD j4;by_cases e:s.n=w.1
  .rw[if_pos e]
   refine sS (hw w (.head _) s hs e) fun a l b d=>?_;exact bq l (by rw[a,b]) d
  .rw[if_neg e]
   exact h s hs
theorem qu{k:Int}:∀{ws:Wr}{lk:Lk},(∀w∈ws,w.1≠k)->bN lk ws k=lk k:=by
 intro p0_;induction p0_ with
 |nil=>intro zz zz;exact rfl
 |cons w r ih=>intro lk h;show bN (j4 lk w.1 w.2.1 w.2.2) r k=_;rw[ih fun x hx=>h x (.tail _ hx)];unfold j4;rw[if_neg (h w (.head _)).symm]
theorem Ga{seen:List Int}:eR lk n line found seen=ac res->∀s∈res,s∈found\/lk s.n=ac (ac (s.k,.dict s.head)):=by
 have fin:∀{v a i s found},qz lk v a i=ac s->(∀x∈res,x∈found++[s]\/lk x.n=ac (ac (x.k,.dict x.head)))->∀x∈res,x∈found\/lk x.n=ac (ac (x.k,.dict x.head)):=fun e h x hx=>by
  rcases h x hx with z|z
  .rcases aJ.mp z with z|z
   .exact .inl z
   .cases ap.mp z
    exact .inr (zG e).2.1
  .exact .inr z
 exact mN (P:=fun _ _ found _=>∀s∈res,s∈found\/lk s.n=ac (ac (s.k,.dict s.head))) (fun _ _ s hs=>.inl hs) (fun _ _ _ _ _ _ _ _ _ h2 _ _ _ ih=>fin h2 ih) (fun _ _ _ _ _ _ _ _ _ _ h2 _ _ _ _ _ ih=>fin h2 ih) n
theorem lz(h:qH lk tr=ac ks):∀s∈ks,lk s.n=ac (ac (s.k,.dict s.head)):=by refine bl (rO h) fun c g l h1 h2 h3=>?_;exact fun s hs=>(Ga h3 s hs).resolve_left fun h=>nomatch h
theorem GP:∀{l:List α}{r:List β},fi f l=ac r->(∀x∈l,∀y∈r,f x=ac y->f' x=ac y)->fi f' l=ac r:=by
 intro p0_;induction p0_ with
 |nil=>intro zz h zz;exact h
 |cons x l ih=>intro r h k;(first|rw[mapO_e0] at h ⊢|rw[q9] at h ⊢|unfold fi at h ⊢);cases e:f x with|none=>rw[e] at h;injection h|some y=>rw[e] at h;refine ar (aD.mp h) fun q hq z1=>?_;subst z1;rw[k x (.head _) y (.head _) e];dsimp only;rw[ih hq fun x hx y hy=>k x (.tail _ hx) y (.tail _ hy)];rfl
def KD(lk lk':Lk)(m:Int):Prop:=∀g l,lk m=ac (ac (g,.dict l))->∃g' l',lk' m=ac (ac (g',.dict l'))/\fN l' (aa "Kids")=fN l (aa "Kids")
set_option tactic.hygienic true in
theorem uH:∀{f:Nat}{n:Int}{w:List Int},gf lk f n=ac w->(∀m∈w,KD lk lk' m)->gf lk' f n=ac w
 |0,_,_,h,_=>by injection h
 |f+1,n,w,h,k=>by
  (first|rw[walkP_e0] at h ⊢|rw[A1] at h ⊢|unfold gf at h ⊢);split at h
  .rename_i g l e
   have hn:n∈w:=by
    split at h;· (injection h with h;subst h);exact .head _
    .split at h
     .injection h
     .split at h
      .injection h
      ·(injection h with h;subst h);exact .head _
    .injection h
   refine cY (k n hn g l e) fun g' l' e' ek=>?_;rw[e'];dsimp only;rw[ek];split at h;.exact h
   .split at h
    .injection h
    .rename_i ls em
     rw[GP em fun x hx y hy ex=>?_];.exact h
     .cases x with
      |ref m g2=>
       refine uH ex fun z hz=>k z ?_;split at h;.injection h
       ·(injection h with h;subst h)
        exact .tail _ (List.mem_flatten.mpr (bq y hy hz))
      |_=>injection ex
   .injection h
  .injection h
theorem Kq{root n right:Int}{w:List Int}(h1:lk n=ac (ac (0,.dict l)))(hl:l.length<=800)(h2:gE lk 20 n=ac right)(h3:bN lk [(900,0,.int right),(901,0,.bool (right==1)),(902,0,.null),(n,0,.dict (jf l way right))] root=ac (ac (0,.dict lt)))(hlt:lt.length<=800)(h4:gf (bN lk (gD 0 n 0 root l lt right way other)) 20 root=ac w):rN lk root n way other=ac (gD 0 n 0 root l lt right way other,rI w root n way other):=by unfold rN;rw[h1];dsimp only;rw[if_neg (bu.mpr hl),h2];dsimp only;rw[h3];dsimp only;rw[if_neg (bu.mpr hlt),h4]
noncomputable def fT(lk:Lk)(n:Int):List (aV×PV):=match lk n with|some (ac (_,.dict l))=>l|_=>[]
noncomputable def Jl(many:Int)(v:Option PV):Bool:=match v with|some (.int i)=>i==many&&decide (0<=i)|_=>ak
noncomputable def zM(root:Int)(due:eM)(par kept:PV):Bool:=if !(due.contains (root,aa "Parent"))&&!par.isNull then(match par,kept with|.ref a b,.ref c d=>a==c&&b==d|_,_=>ak) else kept.isNull
noncomputable def Kv(lk:Lk)(root many:Int)(ks:List bk)(c:wV)(due:eM)(par:PV):Bool:=decide (fD lk c (ks.map (nR lk)) []=ac [])&&Jl many (cc lk 30 (dD (fT lk root) (aa "Count")))&&zM root due par (dD (fT lk root) (aa "Parent"))
noncomputable def Fu(lk:Lk)(root many:Int)(ks:List bk)(c:wV)(n:Int)(due:eM):Bool:=
 decide (fD lk c (ks.map (nR lk)) []=ac due)&&(cc lk 30 (dD (fT lk root) (aa "Count"))).isSome &&
 (match dQ c lk (ks.map (nR lk)) [] with|none=>ak|some ws=>decide (ws.length<=20)&&ws.all (fun w=>w.1==n||w.1==root)&&Kv (bN lk ws) root many ks c due (dD (fT lk root) (aa "Parent")))
noncomputable def Ds(n root right:Int)(l lt0:List (aV×PV))(way:Nat):List (aV×PV):=if n=root then jf l way right else lt0
noncomputable def tV(n root right:Int)(l lt0:List (aV×PV))(way other:Nat):Wr:=gD 0 n 0 root l (Ds n root right l lt0 way) right way other
noncomputable def sU:PV->Option Int
 |.int i=>if 0<=i then ac i else aq
 |_=>aq
structure AI (lk:Lk) (tr:List (aV×PV)) (root many:Int) (leaves:List Int) (due:eM):Prop where
 faults:faultsP lk tr=ac (ac due)
 rest:∃g l v ws,lk root=ac (ac (g,.dict l))/\cc lk 30 (dD l (aa "Count"))=ac v/\fg lk tr=ac (sU v)/\iS lk tr=ac (ac ws)/\ws.length<=20/\
  faultsP (bN lk ws) tr=ac (ac [])/\fg (bN lk ws) tr=ac (ac many)/\
  (∃k,cE (bN lk ws) tr=ac (ac k)/\(k.filter (·.page)).map (·.n)=leaves/\∀s∈k,s.page=ai->jK (bN lk ws) s=ai)/\
  ∃g' l',bN lk ws root=ac (ac (g',.dict l'))/\zM root due (dD l (aa "Parent")) (dD l' (aa "Parent"))=ai
noncomputable def uw(l:List (aV×PV)):Bool:=decide (l.length<=900)&&eY.all fun k=>!vK (dD l k)
theorem tF{s:bk}(h:uw s.head=ai):jK lk s=ai:=by unfold uw at h;unfold jK;rw[aO] at h ⊢;refine⟨h.1,aU.mpr fun k hk=>?_⟩;have:=aU.mp h.2 k hk;rw[jL (by simpa using this)];rfl
structure oZ (lk0:Lk) (tr:List (aV×PV)) (root:Int) (ks:List bk) (c:wV) (lt0:List (aV×PV)):Prop where
 all:qH lk0 tr=ac ks
 cnt:fU ks=ac c
 low:∀s∈ks,s.n<900
 top:ks.head?.map (·.n)=ac root
 cat:∀a g,fN tr (aa "Root")=ac (.ref a g)->a<900/\∀s∈ks,s.n≠a
 walk:gf lk0 20 root=ac (ks.map (·.n))
 page:∀s∈ks,s.page=ai->uw s.head=ai/\s.n≠root
 root:lk0 root=ac (ac (0,.dict lt0))
 len:lt0.length<=100
theorem HE(l way right):(jf l way right).length<=l.length+1:=by
 unfold jf;split;.exact ae (dW _ _) (l5 ..)
 .exact l5 ..
section
variable {lk0 : Lk} {root : Int} {ks : List bk} {c : wV} {lt0 : List (aV × PV)} (T : oZ lk0 tr root ks c lt0)
include T
theorem oZ.top':∃s r,ks=s::r/\s.n=root:=by have:=T.top;cases hk:ks with|nil=>rw[hk] at this;injection this|cons s r=>rw[hk] at this;exact jP s r rfl (aB this)
theorem oZ.sw0:∀s∈ks,xD lk0 s:=fun s hs=>(bq s.head (lz T.all s hs) (.refl _))
theorem oZ.swap(hw:∀w∈ws,Vt ks w)(hc:∀w∈ws,∀a g,fN tr (aa "Root")=ac (.ref a g)->w.1≠a):qH (bN lk0 ws) tr=ac (ks.map (nR (bN lk0 ws)))/\∀s∈ks,xD (bN lk0 ws) s:=by have h:=LD T.sw0 hw;exact⟨yD T.all (fun a g e=>qu fun w hm=>hc w hm a g e) h,h⟩
theorem wx(h:qH lk tr=ac (ks.map (nR lk)))(hs:∀s∈ks,xD lk s)(hv:cc lk 30 (dD (fT lk root) (aa "Count"))=ac v):fg lk tr=ac (sU v)/\∃g l,lk root=ac (ac (g,.dict l))/\fT lk root=l:=by
 refine cY T.top' fun s r e en=>?_;refine cY (HG h) fun s1 r1 e1 h1=>?_;refine ar (hs s (e▸.head _)) fun l hl zz=>?_;have hh:fT lk root=l:=by unfold fT;rw[<-en,hl]
 rw[e,au] at e1;injection e1 with e1 _;refine⟨?_,_,l,en▸hl,hh⟩;unfold fg;rw[h1];dsimp only;rw[<-e1,uO hl];dsimp only;rw[<-hh,hv];cases v<;>rfl
set_option tactic.hygienic true in
theorem M9{n many:Int}(hp:∀s∈ks,s.page=ai->s.n≠n)(hca:∀a g,fN tr (aa "Root")=ac (.ref a g)->a≠n/\a≠root)(hw:∀w∈W,Vt ks w)(hnum:∀w∈W,w.1=900\/w.1=901\/w.1=902\/w.1=n\/w.1=root)(hcat:∀w∈W,∀a g,fN tr (aa "Root")=ac (.ref a g)->w.1≠a)(h:Fu (bN lk0 W) root many ks c n due=ai):AI (bN lk0 W) tr root many ((ks.filter (·.page)).map (·.n)) due:=by
 refine aZ (T.swap hw hcat) fun hA hS=>?_;unfold Fu at h;rw[aO,aO,decide_eq_true_eq] at h;refine aZ h ?_;clear h;intro z2 h3;refine aZ z2 ?_;clear z2;intro h1 h2;refine aY (cu.mp h2) fun v hv=>?_;refine Fh (wx T hA hS hv) fun hpc g lr hlr hhr=>?_;refine⟨tG (lk:=lk0) hA T.cnt h1,?_⟩;split at h3;.injection h3
 .rename_i wsS eS
  rw[aO,aO,decide_eq_true_eq] at h3;refine aZ h3 ?_;clear h3;intro z3 h6;refine aZ z3 ?_;clear z3;intro h4 h5;unfold Kv at h6;rw[aO,aO,decide_eq_true_eq] at h6;refine aZ h6 ?_;clear h6;intro z4 h9;refine aZ z4 ?_;clear z4;intro h7 h8;have hput:bN (bN lk0 W) wsS=bN lk0 (W++wsS):=by unfold bN;rw[lQ]
  have hwS:∀w∈W++wsS,Vt ks w:=by
   intro w hm;rcases aJ.mp hm with hm|hm;.exact hw w hm
   .rcases Bg eS w hm with z|⟨s',hs',e1,e2,hh,e3,e4⟩
    .cases z
    .refine ar (az.mp hs') fun s hs z5=>?_
     subst z5;intro s2 hs2 e;rw[uP] at e1;rw[NJ] at e2;have a1:=lz T.all s hs;have a2:=lz T.all s2 hs2;have en:s2.n=s.n:=e.trans e1;rw[en,a1] at a2;injection a2 with a2;injection a2 with a2;injection a2 with q1 q2;injection q2 with q2;refine ar (hS s hs) fun l' b1 b2=>?_;rw[uO b1] at e4;exact⟨e2.trans q1,hh,e3,q2▸b2.trans e4⟩
  have hcS:∀w∈W++wsS,∀a g,fN tr (aa "Root")=ac (.ref a g)->w.1≠a:=by
   intro w hm a g e q;rcases aJ.mp hm with hm|hm;.exact hcat w hm a g e q
   .have:=aU.mp h5 w hm
    simp only[iJ,beq_iff_eq] at this;refine aZ (hca a g e) fun n1 n2=>?_;rcases this with z|z;.exact n1 (q.symm.trans z)
    .exact n2 (q.symm.trans z)
  refine aZ (T.swap hwS hcS) fun hA2 hS2=>?_;rw[<-hput] at hA2 hS2;obtain⟨v2,hv2,hm2⟩:∃v2,cc (bN (bN lk0 W) wsS) 30 (dD (fT (bN (bN lk0 W) wsS) root) (aa "Count"))=ac v2/\sU v2=ac many:=by
   unfold Jl at h8;split at h8
   .rename_i i e
    rw[aO,beq_iff_eq,decide_eq_true_eq] at h8;refine bq _ e ?_;unfold sU;dsimp only;rw[if_pos h8.2,h8.1]
   .injection h8
  refine Fh (wx T hA2 hS2 hv2) fun hpc2 g2 lr2 hlr2 hhr2=>?_;refine⟨g,lr,v,wsS,hlr,hhr▸hv,hpc,Bf (lk:=lk0) hA T.cnt eS,h4,tG (lk:=lk0) hA2 T.cnt h7,hm2▸hpc2,(cB _ (AD hA2) ?_ ?_),g2,lr2,hlr2,?_⟩
  .rw[List.filter_map,bS]
   have f1:((fun s:bk=>s.page)∘nR (bN (bN lk0 W) wsS))=fun s=>s.page:=funext fun s=>jI _ s;have f2:((fun s:bk=>s.n)∘nR (bN (bN lk0 W) wsS))=fun s=>s.n:=funext fun s=>uP _ s;rw[f1,f2]
  .intro s' hs' hpg
   refine ar (az.mp hs') fun s hs z6=>?_;subst z6;rw[jI] at hpg;refine tF ?_;refine aZ (T.page s hs hpg) fun f1 f2=>?_;have f3:=hp s hs hpg;have:bN (bN lk0 W) wsS s.n=lk0 s.n:=by
    rw[hput];refine qu fun w hm q=>?_;rcases aJ.mp hm with hm|hm
    .have lo:=T.low s hs
     rcases hnum w hm with z|z|z|z|z;.exact NU q lo z
     .exact NT q lo z
     .exact NS q lo z
     .exact f3 (q.symm.trans z)
     .exact f2 (q.symm.trans z)
    .have:=aU.mp h5 w hm
     simp only[iJ,beq_iff_eq] at this;rcases this with z|z;.exact f3 (q.symm.trans z)
     .exact f2 (q.symm.trans z)
   rw[uO (this.trans (lz T.all s hs))];exact f1
  .rw[hhr,hhr2] at h9
   exact h9
set_option tactic.hygienic true in
theorem Na{n right many:Int}(h0:0<n)(hn:lk0 n=ac (ac (0,.dict l)))(hl:l.length<=100)(hb:gE lk0 20 n=ac right)(hp:∀s∈ks,s.page=ai->s.n≠n)(hl9:n<900)(hr9:root<900)(hca:∀a g,fN tr (aa "Root")=ac (.ref a g)->a≠n/\a≠root)(h:Fu (bN lk0 (tV n root right l lt0 way other)) root many ks c n (rI (ks.map (·.n)) root n way other)=ai):rN lk0 root n way other=ac (tV n root right l lt0 way other,rI (ks.map (·.n)) root n way other)/\AI (bN lk0 (tV n root right l lt0 way other)) tr root many ((ks.filter (·.page)).map (·.n)) (rI (ks.map (·.n)) root n way other):=by
 have hrt:bN lk0 [(900,0,.int right),(901,0,.bool (right==1)),(902,0,.null),(n,0,.dict (jf l way right))] root=ac (ac (0,.dict (Ds n root right l lt0 way))):=by
  unfold Ds;show j4 (j4 (j4 (j4 lk0 900 _ _) 901 _ _) 902 _ _) n _ _ root=_;unfold j4;by_cases e:root=n;.rw[if_pos e,if_pos e.symm]
  .rw[if_neg e,if_neg (T5 hr9),if_neg (T4 hr9),if_neg (T1 hr9),if_neg (fun q=>e q.symm),T.root]
 have hroot:lk0 root=ac (ac (0,.dict lt0)):=T.root;have agL:lA lt0 (Ds n root right l lt0 way):=by
  unfold Ds;split
  .rename_i e
   subst e;rw[hn] at hroot;(injection hroot with hroot;injection hroot with hroot;injection hroot with _ q3;injection q3 with q3;subst q3);exact wG _ _ _
  .exact .refl _
 have hw:∀w∈tV n root right l lt0 way other,Vt ks w:=by
  intro w hm s hs e;have at_:=lz T.all s hs;have lo:=T.low s hs;unfold tV gD at hm;rcases aJ.mp hm with hm|hm
  .simp only[ao,cf,or_false] at hm
   rcases hm with rfl|rfl|rfl|rfl;.rw[e] at lo;exact absurd lo (show ¬(900:Int)<900 by decide)
   .rw[e] at lo;exact absurd lo (show ¬(901:Int)<900 by decide)
   .rw[e] at lo;exact absurd lo (show ¬(902:Int)<900 by decide)
   .dsimp only at e ⊢
    rw[e,hn] at at_;injection at_ with at_;injection at_ with at_;injection at_ with a1 a2;injection a2 with a2;exact⟨a1,_,rfl,a2▸wG _ _ _⟩
  .split at hm
   .cases hm
   .cases ap.mp hm
    dsimp only at e ⊢;rw[e,hroot] at at_;injection at_ with at_;injection at_ with at_;injection at_ with a1 a2;injection a2 with a2;exact⟨a1,_,rfl,a2▸agL.trans AF⟩
 have hnum:∀w∈tV n root right l lt0 way other,w.1=900\/w.1=901\/w.1=902\/w.1=n\/w.1=root:=by
  intro w hm;unfold tV gD at hm;rcases aJ.mp hm with hm|hm
  .simp only[ao,cf,or_false] at hm
   rcases hm with rfl|rfl|rfl|rfl<;>simp
  .split at hm
   .cases hm
   .cases ap.mp hm
    simp
 have hcat:∀w∈tV n root right l lt0 way other,∀a g,fN tr (aa "Root")=ac (.ref a g)->w.1≠a:=by
  intro w hm a g e q;have h9:=(T.cat a g e).1;refine aZ (hca a g e) fun n1 n2=>?_;rcases hnum w hm with z|z|z|z|z;.exact NU q h9 z
  .exact NT q h9 z
  .exact NS q h9 z
  .exact n1 (q.symm.trans z)
  .exact n2 (q.symm.trans z)
 refine aZ (T.swap hw hcat) fun hA hS=>?_;have hwalk:gf (bN lk0 (tV n root right l lt0 way other)) 20 root=ac (ks.map (·.n)):=by refine uH T.walk fun m hm g lm em=>?_;refine ar (az.mp hm) fun s hs z1=>?_;subst z1;refine ar (hS s hs) fun l' e' ag=>?_;rw[lz T.all s hs] at em;(injection em with em;injection em with em;injection em with q1 q2;subst q1;injection q2 with q2;subst q2);exact jP _ l' e' ((ag _ (.tail _ (.head _))).symm)
 have hlen:(Ds n root right l lt0 way).length<=800:=by
  unfold Ds;split;.have:=HE l way right;exact T0 hl this
  .have:=T.len;exact je this rfl
 exact⟨Kq hn (je hl rfl) hb hrt hlen hwalk,M9 T hp hca hw hnum hcat h⟩
end
theorem I6{f:α->Option β}{P:β->Prop}:∀{l:List α},(∀x∈l,∃y,f x=ac y/\P y)->∃r,fi f l=ac r/\∀y∈r,P y:=by
 intro p0_;induction p0_ with
 |nil=>intro zz;exact bq [] rfl (fun zz h=>nomatch h)
 |cons x l ih=>
  intro h;refine ar (h x (.head _)) fun y hy py=>?_;refine ar (ih fun x hx=>h x (.tail _ hx)) fun r hr pr=>?_;refine bq (y::r) (by(first|rw[mapO_e0]|rw[q9]|unfold fi);rw[hy];dsimp only;rw[hr];rfl) (fun z hz=>?_);rcases ao.mp hz with rfl|hz;.exact py
  .exact pr z hz
theorem Dh:∀{l:List DV},(∀d∈l,oB d=ai)->kI l=ai:=by
 intro p0_;induction p0_ with
 |nil=>intro zz;exact rfl
 |cons d r ih=>intro h;rw[kI,h d (.head _),ih fun x hx=>h x (.tail _ hx)];rfl
theorem J9:∀{l:List DV},(∀d∈l,Hs d<=n)->wv l<=n:=by
 intro p0_;induction p0_ with
 |nil=>intro zz;rw[wv];exact a7 _
 |cons d r ih=>intro h;rw[wv];exact lD.mpr ⟨h d (.head _),ih fun x hx=>h x (.tail _ hx)⟩
noncomputable def kZ(f:Nat)(v:PV):Bool:=match iC f v with|some d=>oB d&&decide (Hs d<=50)|none=>ak
noncomputable def trB(f:Nat)(tr:List (aV×PV)):Bool:=match (if 63<tr.length then aq else(fi (lW (iC f) tr) (ot xq (tr.map (·.1)))).map fun ds=>DV.tup (.str (aa "dict")::ds.flatten)) with|some d=>oB d&&decide (Hs d<=50)|none=>ak
set_option tactic.hygienic true in
theorem C2(ht:∀p∈tab,kZ f p.2.2=ai)(htr:trB f tr=ai):∃res,mP f tab tr=ac (.tup res)/\kI res=ai/\wv res<=60:=by
 have hT:fq f=iC f:=funext (EA f);obtain⟨rs,hrs,hp⟩:=I6 (f:=zp f tab) (P:=fun d=>oB d=ai/\Hs d<=51) (l:=k8 (tab.map (·.1))) fun n hn=>by
  refine g7 (sE ((im _).mem_iff.mp hn)) fun gn v e=>?_;have:=ht _ (sF e);unfold kZ at this;dsimp only at this;unfold zp;rw[e];dsimp only;rw[hT];split at this
  .rename_i d ed
   rw[ed];rw[aO,decide_eq_true_eq] at this;refine cB _ rfl ?_ ?_;.show(ai&&(ai&&(oB d&&ai)))=ai;rw[this.1];rfl
   .have h2:=this.2
    exact b6 (lD.mpr ⟨a7 _,lD.mpr ⟨a7 _,lD.mpr ⟨h2,a7 _⟩⟩⟩)
  .injection this
 unfold trB at htr;split at htr
 .rename_i d ed
  rw[aO,decide_eq_true_eq] at htr;have et:Rv f tr=ac d:=by unfold Rv;rw[hT,zf];exact ed
  refine cB [.tup rs,d] ?_ ?_ ?_
  .unfold mP
   rw[hrs,et]
  .show(kI rs&&(oB d&&ai))=ai;rw[htr.1,Dh fun d hd=>(hp d hd).1];rfl
  .have h1:=J9 fun d hd=>(hp d hd).2
   have h2:=htr.2;exact lD.mpr ⟨ae (b6 h1) (by decide),lD.mpr ⟨ae h2 (by decide),a7 _⟩⟩
 .injection htr
theorem BG{k g:Int}(h:p∈cR tab k g v):p∈tab\/p=(k,g,v):=by
 unfold cR at h;split at h
 .refine ar (az.mp h) fun q hq e=>?_
  split at e
  .rename_i hk
   subst e;exact .inr (by rw[hk])
  .subst e
   exact .inl hq
 .rcases aJ.mp h with h|h
  .exact .inl h
  .exact .inr (ap.mp h)
theorem GO:∀{ws:Wr}{tab:dG}{p:Int×Int×PV},p∈bW tab ws->p∈tab\/p∈ws:=by
 intro p0_;induction p0_ with
 |nil=>intro zz zz h;exact .inl h
 |cons w r ih=>
  intro tab p h;have h:p∈bW (cR tab w.1 w.2.1 w.2.2) r:=h;rcases ih h with h|h
  .rcases BG h with h|h
   .exact .inl h
   .exact .inr (h▸.head _)
  .exact .inr (.tail _ h)
theorem F4(f a b):kZ (f+1) (.ref a b)=ai:=rfl
theorem F3(h:∀p∈tab,kZ f p.2.2=ai)(hw:∀w∈ws,kZ f w.2.2=ai):∀p∈bW tab ws,kZ f p.2.2=ai:=fun p hp=>(GO hp).elim (h p) (hw p)
theorem IC{s:bk}(h:lk s.n=ac (ac (s.k,.dict s.head))):nR lk s=s:=by rw[uO h]
theorem oZ.same{root:Int}(T:oZ lk0 tr root ks c lt0)(h:∀k r,k<900->lk0 k=ac (ac r)->lk k=lk0 k):cE lk tr=ac (ac ks):=by
 have at_:∀s∈ks,lk s.n=ac (ac (s.k,.dict s.head)):=fun s hs=>(h s.n _ (T.low s hs) (lz T.all s hs)).trans (lz T.all s hs);have:=yD T.all (lk':=lk) (fun a g e=>by refine bl (rO T.all) fun a' g' l e1 e2 zz=>?_;rw[e] at e1;(injection e1 with e1;injection e1 with q1 q2;subst q1;subst q2);exact h a _ (T.cat a g e).1 e2) fun s hs=>(bq s.head (at_ s hs) (.refl _))
 have e:ks.map (nR lk)=ks:=(bM (g:=id) fun s hs=>IC (at_ s hs)).trans (lP _);rw[e] at this;exact AD this
noncomputable def kT(tab:dG)(tr:List (aV×PV)):List bk:=(qH (mG tab) tr).getD []
noncomputable def Ci(tab:dG)(tr:List (aV×PV)):wV:=(fU (kT tab tr)).getD []
noncomputable def ez(k:List bk):List Int:=(k.filter (·.page)).map (·.n)
noncomputable def Iv(tab:dG)(tr:List (aV×PV))(root:Int)(many:Nat):Bool:=
 (qH (mG tab) tr).isSome&&(fU (kT tab tr)).isSome&&(kT tab tr).all (fun s=>decide (s.n<900))&&decide ((kT tab tr).head?.map (·.n)=ac root) &&
 (match fN tr (aa "Root") with|some (.ref a _)=>decide (a<900)&&(kT tab tr).all (fun s=>!decide (s.n=a))&&!decide (a=root)|_=>ak) &&
 decide (gf (mG tab) 20 root=ac ((kT tab tr).map (·.n)))&&(kT tab tr).all (fun s=>!s.page||(uw s.head&&!decide (s.n=root))) &&
 (match mG tab root with|some (ac (g,.dict l))=>decide (g=0)&&decide (l.length<=100)|_=>ak)&&decide ((ez (kT tab tr)).length=many)&&decide (root<900)
set_option tactic.hygienic true in
theorem Iu{root:Int}(h:Iv tab tr root many=ai):oZ (mG tab) tr root (kT tab tr) (Ci tab tr) (fT (mG tab) root)/\(ez (kT tab tr)).length=many/\root<900/\(∀a g,fN tr (aa "Root")=ac (.ref a g)->a≠root):=by
 unfold Iv at h;simp only[aO,decide_eq_true_eq,aU] at h;refine aZ h ?_;clear h;intro z1 h10;refine aZ z1 ?_;clear z1;intro z2 h9;refine aZ z2 ?_;clear z2;intro z3 h8;refine aZ z3 ?_;clear z3;intro z4 h7;refine aZ z4 ?_;clear z4;intro z5 h6;refine aZ z5 ?_;clear z5;intro z6 h5;refine aZ z6 ?_;clear z6;intro z7 h4;refine aZ z7 ?_;clear z7;intro z8 h3;refine aZ z8 ?_;clear z8;intro h1 h2;refine aY (cu.mp h1) fun ks hks=>?_;refine aY (cu.mp h2) fun c hc=>?_;have ek:kT tab tr=ks:=by unfold kT;rw[hks];rfl
 have ec:Ci tab tr=c:=by unfold Ci;rw[hc];rfl
 have h8':mG tab root=ac (ac (0,.dict (fT (mG tab) root)))/\(fT (mG tab) root).length<=100:=by
  unfold fT;split at h8
  .rename_i g l e
   simp only[aO,decide_eq_true_eq] at h8;rw[e,h8.1];exact⟨rfl,h8.2⟩
  .injection h8
 refine o7 ⟨by rw[ek];exact hks,by rw[ec];exact hc,h3,h4,fun a g e=>?_,h6,fun s hs hp=>?_,h8'.1,h8'.2⟩ h9 h10 (fun a g e=>?_)
 .rw[e] at h5
  simp only[aO,decide_eq_true_eq,aU] at h5;exact⟨h5.1.1,fun s hs q=>by have:=h5.1.2 s hs;rw[decide_eq_true q] at this;injection this⟩
 .have:=h7 s hs
  rw[hp] at this;simp only[Bool.not_true,AR,aO] at this;exact⟨this.1,fun q=>by have:=this.2;rw[decide_eq_true q] at this;injection this⟩
 .rw[e] at h5
  simp only[aO] at h5;intro q;have:=h5.2;rw[decide_eq_true q] at this;injection this
noncomputable def EQ(tab:dG)(tr:List (aV×PV))(root many n:Int):Bool:=
 (match mG tab n with|some (ac (g,.dict l))=>decide (g=0)&&decide (l.length<=100)&&eP (.dict l)|_=>ak)&&(gE (mG tab) 20 n).isSome&&(kT tab tr).all (fun s=>!s.page||!decide (s.n=n))&&decide (0<n)&&decide (n<900) &&
 (match fN tr (aa "Root") with|some (.ref a _)=>!decide (a=n)|_=>ak)
noncomputable def zq(tab:dG)(n:Int):Int:=(gE (mG tab) 20 n).getD 0
noncomputable def HU(tab:dG)(root n:Int)(way other:Nat):Wr:=tV n root (zq tab n) (fT (mG tab) n) (fT (mG tab) root) way other
noncomputable def fj(tab:dG)(tr:List (aV×PV))(root many n:Int):Bool:=(dH 7).all fun way=>(dH 6).all fun other=>Fu (bN (mG tab) (HU tab root n way other)) root many (kT tab tr) (Ci tab tr) n (rI ((kT tab tr).map (·.n)) root n way other)&&(HU tab root n way other).all fun w=>kZ 6 w.2.2
set_option tactic.hygienic true in
theorem HB{root many n:Int}(T:oZ (mG tab) tr root (kT tab tr) (Ci tab tr) (fT (mG tab) root))(hr:root<900)(ha:∀a g,fN tr (aa "Root")=ac (.ref a g)->a≠root)(hn:EQ tab tr root many n=ai)(hc:fj tab tr root many n=ai):∀way,way<7->∀other,other<6->rN (mG tab) root n way other=ac (HU tab root n way other,rI ((kT tab tr).map (·.n)) root n way other)/\AI (bN (mG tab) (HU tab root n way other)) tr root many (ez (kT tab tr)) (rI ((kT tab tr).map (·.n)) root n way other)/\∀w∈HU tab root n way other,kZ 6 w.2.2=ai:=by
 intro way hw other ho;unfold EQ at hn;simp only[aO,decide_eq_true_eq,aU] at hn;refine aZ hn ?_;clear hn;intro z9 n6;refine aZ z9 ?_;clear z9;intro z10 n5;refine aZ z10 ?_;clear z10;intro z11 n4;refine aZ z11 ?_;clear z11;intro z12 n3;refine aZ z12 ?_;clear z12;intro n1 n2;refine aY (cu.mp n2) fun right hright=>?_;have er:zq tab n=right:=by unfold zq;rw[hright];rfl
 have hl:mG tab n=ac (ac (0,.dict (fT (mG tab) n)))/\(fT (mG tab) n).length<=100:=by
  unfold fT;split at n1
  .rename_i g l e
   simp only[aO,decide_eq_true_eq] at n1;rw[e,n1.1.1];exact⟨rfl,n1.1.2⟩
  .injection n1
 unfold fj at hc;have hc:=aU.mp (aU.mp hc way (xJ.mpr hw)) other (xJ.mpr ho);rw[aO] at hc;obtain⟨c1,c2⟩:=Na T (many:=many) n4 hl.1 hl.2 hright (fun s hs hp q=>by have:=n3 s hs;rw[hp,decide_eq_true q] at this;injection this) n5 hr (fun a g e=>⟨fun q=>(by rw[e] at n6;dsimp only at n6;rw[decide_eq_true q] at n6;exact absurd n6 (by decide)),ha a g e⟩) (by rw[<-er];exact hc.1);unfold HU;rw[er];refine jT c1 c2 (fun w hw'=>aU.mp hc.2 w ?_);unfold HU;rw[er];exact hw'
noncomputable def Xm:PV->Int
 |.dict l=>match fN l (aa "Kids") with|some (.arr (.ref n _::_))=>n|some _=>-1|none=>0
 |_=>0
noncomputable def C5(tab:dG)(tr:List (aV×PV)):Bool:=decide (tab.length<=20)&&decide ((tab.map (·.1)).Nodup)&&tab.all (fun p=>nw p.2.2)&&decide (((tab.filter fun p=>eP p.2.2).map fun p=>Xm p.2.2).Nodup)&&tab.all (fun p=>kZ 6 p.2.2)&&trB 6 tr&&(tab.map (·.1)).all (fun k=>decide (k<900))&&HV (PV.dS tr)
theorem F7(h:C5 tab tr=ai):tab.length<=20/\gc tab/\(∀p∈tab,nw p.2.2=ai)/\(tab.Pairwise fun p q=>eP p.2.2=ai->eP q.2.2=ai->p.2.2≠q.2.2)/\(∀p∈tab,kZ 6 p.2.2=ai)/\trB 6 tr=ai/\(∀k∈tab.map (·.1),k<900)/\HV (PV.dS tr)=ai:=by unfold C5 at h;simp only[aO,decide_eq_true_eq,aU] at h;refine aZ h ?_;clear h;intro z13 h8;refine aZ z13 ?_;clear z13;intro z14 h7;refine aZ z14 ?_;clear z14;intro z15 h6;refine aZ z15 ?_;clear z15;intro z16 h5;refine aZ z16 ?_;clear z16;intro z17 h4;refine aZ z17 ?_;clear z17;intro z18 h3;refine aZ z18 ?_;clear z18;intro h1 h2;refine⟨h1,h2,h3,?_,h5,h6,h7,h8⟩;unfold rU at h4;rw[td,Es] at h4;exact h4.imp fun h a b e=>h a b (by rw[e])
noncomputable def ym(lk:Lk)(v:PV)(ks:List bk)(i:Int):Bool:=match fP lk 64 [] v with|some h=>decide (lG ks h=i)|none=>ak
theorem BW{i:Int}(h:ym lk v ks i=ai):∃r,fP lk 64 [] v=ac r/\lG ks r=i:=by
 unfold ym at h;split at h
 .rename_i r e
  exact bq r e (of_decide_eq_true h)
 .injection h
noncomputable def sW(tab:dG)(ks:List bk):Nat->List Int->Bool|_,[]=>ai|i,one::r=>((dH 4).all fun m=>ym (bN (mG tab) (ei i one m)) (lp i one m) ks i)&&sW tab ks (i+1) r
theorem HA(tab ks){i one r}:sW tab ks i (one::r)=(((dH 4).all fun m=>ym (bN (mG tab) (ei i one m)) (lp i one m) ks i)&&sW tab ks (i+1) r):=rfl
theorem Hz:∀{l:List Int}{j:Nat},sW tab ks j l=ai->∀(i:Nat)(one:Int),l[i]?=ac one->∀m,m<4->ym (bN (mG tab) (ei (j+i) one m)) (lp (j+i) one m) ks ((j+i:Nat):Int)=ai:=by
 intro p0_;induction p0_ with
 |nil=>intro zz zz zz zz h zz zz;injection h
 |cons x r ih=>intro j hb i one h m hm;(first|rw[chainB_e0] at hb|rw[HA] at hb|unfold sW at hb);rw[aO] at hb;cases i with|zero=>(injection h with h;subst h);exact aU.mp hb.1 m (xJ.mpr hm)|succ i=>have:=ih hb.2 i one h m hm;rwa[show j+1+i=j+(i+1) from by exact TZ] at this
noncomputable def UR(tab:dG)(ks:List bk)(n0:Int):Bool:=(n8 n0 (ez ks)).all (fun v=>ym (md (bW tab wW)) v ks (-1))&&sW tab ks 0 (ez ks)&&decide ((((ot (fun a b=>decide (a<=b)) ((bW tab wW).map (·.1))).filter (lF (bW tab wW)))[0]?)=ac n0)
noncomputable def dT(t:dG):List Int:=(t.map (·.1)).filter (lF t)
noncomputable def fA(tab:dG)(tr:List (aV×PV))(root:Int)(many:Nat)(n0:Int):Bool:=Iv tab tr root many&&C5 tab tr&&(dT tab).all (EQ tab tr root many)&&decide (root∈dT tab)&&UR tab (kT tab tr) n0
noncomputable def jO(many:Nat):List Int:=(dH many).map fun(i:Nat)=>(i:Int)
def dk(many:Nat)(w:Int):Prop:=∃tab tr root n0,eL (jO many) w=ac (tab,tr,root)/\fA tab tr root many n0=ai/\(dT tab).all (fj tab tr root many)=ai
theorem mX{k:Int}(h:k<900):Ju k=ak:=by unfold Ju;rw[Bool.eq_false_iff];intro e;simp only[iJ,aO,decide_eq_true_eq,beq_iff_eq] at e;exact TG h e
theorem zK{k:Int}(h:k<900):mG tab k=ac (tab.lk k):=by unfold mG;rw[if_neg (by rw[mX h];decide)]
theorem Il:Kx wW:=by intro w hw;simp only[wW,ao,cf,or_false] at hw;rcases hw with rfl|rfl<;>exact⟨rfl,_,_,rfl⟩
structure qI (tab tab':dG):Prop where
 keys:gc tab'
 lk:∀k,Ju k=ak->tab'.lk k=tab.lk k
 mem:∀p∈tab',p∈tab\/(Ju p.1=ai/\∃a b,p.2.2=.ref a b)
 heads:tab'.filter (fun p=>eP p.2.2)=tab.filter fun p=>eP p.2.2
 sub:∀k∈tab.map (·.1),k∈tab'.map (·.1)
 low:∀k∈tab.map (·.1),k<900
theorem vO(a b):eP (.ref a b)=ak:=rfl
theorem tE{k g a b:Int}:∀{tab:dG},(∀p∈tab,p.1=k->eP p.2.2=ak)->(tab.map fun r=>if r.1=k then(r.1,g,PV.ref a b) else r).filter (fun p=>eP p.2.2)=tab.filter fun p=>eP p.2.2
 |[],_=>rfl|p::r,h=>by
  have ih:=tE (g:=g) (a:=a) (b:=b) fun q hq=>h q (.tail _ hq);have hp:=h p (.head _);rw[au,d4,d4,ih];by_cases e:p.1=k;.rw[if_pos e,hp e,vO,if_neg (by decide),if_neg (by decide)]
  .rw[if_neg e]
theorem B6{k g a b:Int}(h:∀p∈tab,p.1=k->eP p.2.2=ak):(cR tab k g (.ref a b)).filter (fun p=>eP p.2.2)=tab.filter fun p=>eP p.2.2:=by
 unfold cR;split;.exact tE h
 .rw[rT,d4,if_neg (by rw[vO];decide),List.filter_nil,bR]
theorem xr{k g x:Int}(h:x∈tab.map (·.1)):x∈(cR tab k g v).map (·.1):=by
 refine ar (az.mp h) fun p hp z1=>?_;subst z1;unfold cR;split
 .refine az.mpr (bq (if p.1=k then(p.1,g,v) else p) (az.mpr (bq p hp rfl)) ?_)
  split<;>rfl
 .exact az.mpr (bq p (bF _ hp) rfl)
theorem pi:∀{ws:Wr}{tab':dG},qI tab tab'->Kx ws->qI tab (bW tab' ws)
 |[],_,T,_=>T|w::r,tab',T,h=>by
  show qI tab (bW (cR tab' w.1 w.2.1 w.2.2) r);refine pi ?_ fun x hx=>h x (.tail _ hx);refine As (h w (.head _)) fun hu a b e=>?_;rw[e];have nohd:∀p∈tab',p.1=w.1->eP p.2.2=ak:=fun p hp ek=>by
   rcases T.mem p hp with z|⟨_,a,b,z⟩
   .have:=mX (T.low p.1 (ax z))
    rw[ek,hu] at this;injection this
   .rw[z];rfl
  refine⟨mi _ _ _ _ T.keys,fun k hk=>?_,fun p hp=>?_,(B6 nohd).trans T.heads,fun k hk=>xr (T.sub k hk),T.low⟩
  .rw[mS,if_neg (fun q=>by rw[q,hu] at hk;injection hk)]
   exact T.lk k hk
  .rcases BG hp with z|z
   .exact T.mem p z
   .subst z
    exact .inr ⟨hu,a,b,rfl⟩
theorem Gk(a b):nw (.ref a b)=ai:=by unfold nw;rw[vO,if_neg (by decide)];kernel_rfl
section
variable (T : qI tab tab')
include T
theorem qI.rows(h:∀p∈tab,nw p.2.2=ai):∀p∈tab',nw p.2.2=ai:=fun p hp=>by
 rcases T.mem p hp with z|⟨_,a,b,z⟩;.exact h p z
 .rw[z];exact Gk a b
theorem qI.dist(h:tab.Pairwise fun p q=>eP p.2.2=ai->eP q.2.2=ai->p.2.2≠q.2.2):tab'.Pairwise fun p q=>eP p.2.2=ai->eP q.2.2=ai->p.2.2≠q.2.2:=by rw[<-Es (p:=fun x:Int×Int×PV=>eP x.2.2) (R:=fun p q=>p.2.2≠q.2.2)] at h ⊢;rw[T.heads];exact h
theorem qI.told(h:∀p∈tab,kZ 6 p.2.2=ai):∀p∈tab',kZ 6 p.2.2=ai:=fun p hp=>by
 rcases T.mem p hp with z|⟨_,a,b,z⟩;.exact h p z
 .rw[z];exact F4 5 a b
set_option tactic.hygienic true in
theorem qI.nodes{n:Int}(h:n∈fh tab'):n∈dT tab:=by
 unfold fh at h;refine aZ (iI.mp h) fun h1 h2=>?_;unfold lF at h2;split at h2
 .rename_i g v e
  rcases T.mem _ (sF e) with z|⟨hu,a,b,z⟩
  .have hk:n∈tab.map (·.1):=ax (f:=(·.1)) z
   refine iI.mpr ⟨hk,?_⟩;unfold lF;rw[<-T.lk n (mX (T.low n hk)),e];exact h2
  .dsimp only at z
   rw[z] at h2;injection h2
 .injection h2
theorem qI.nodes'{n:Int}(h:n∈dT tab):n∈fh tab':=by refine aZ (iI.mp h) fun h1 h2=>?_;refine iI.mpr ⟨(im _).mem_iff.mpr (T.sub n h1),?_⟩;unfold lF at h2 ⊢;rw[T.lk n (mX (T.low n h1))];exact h2
theorem qI.nodesLen:(fh tab').length<=tab'.length:=by unfold fh;refine ae (dW _ _) ?_;rw[(im _).length_eq,af];exact aI _
theorem qI.key{k:Int}(h:k∈tab'.map (·.1)):k<900\/Ju k=ai:=by
 refine ar (az.mp h) fun p hp z2=>?_;subst z2;rcases T.mem p hp with z|⟨hu,_⟩;.exact .inl (T.low _ (ax z))
 .exact .inr hu
end
theorem FA{α:Al}:∀{ws:Wr}{tab:dG},qL α tab->(∀w∈ws,α w.1≠aq->∃l,w.2.2=.dict l)->qL α (bW tab ws)|[],_,h,_=>h|w::r,tab,h,hw=>by show qL α (bW (cR tab w.1 w.2.1 w.2.2) r);exact FA (sY h (hw w (.head _))) fun x hx=>hw x (.tail _ hx)
theorem Ln(tab root n way other):(HU tab root n way other).length<=5:=by
 unfold HU tV gD;rw[aS];show 4+_<=5;split;.exact aj rfl
 .exact aj rfl
theorem Ow{α:Al}{root n:Int}(a0:α 900=aq)(a1:α 901=aq)(a2:α 902=aq):∀w∈HU tab root n way other,α w.1≠aq->∃l,w.2.2=.dict l:=by
 intro w hm ha;unfold HU tV gD at hm;rcases aJ.mp hm with hm|hm
 .simp only[ao,cf,or_false] at hm
  rcases hm with rfl|rfl|rfl|rfl;.exact absurd a0 ha
  .exact absurd a1 ha
  .exact absurd a2 ha
  .exact⟨_,rfl⟩
 .split at hm
  .cases hm
  .cases ap.mp hm
   exact⟨_,rfl⟩
theorem Hr(w root n way other):∀p∈rI w root n way other,p.2=aa "Parent"\/p.2=aa "Count":=by
 intro p hp;unfold rI at hp;refine ar (List.mem_flatMap.mp hp) ?_;clear hp;intro one zz hp;unfold lI at hp;rcases aJ.mp hp with hp|hp
 .split at hp
  .cases ap.mp hp;exact .inl rfl
  .cases hp
 .split at hp
  .cases ap.mp hp;exact .inr rfl
  .cases hp
structure KA (many:Nat) (w:Int) (tab:dG) (tr:List (aV×PV)) (root n0:Int) (ks:List bk) (ws:Int->Nat->Nat->Wr) (due:Int->Nat->Nat->eM):Prop where
 build:eL (jO many) w=ac (tab,tr,root)
 pages:cE (md tab) tr=ac (ac ks)
 fields:∀s∈ks,s.page=ai->jK (md tab) s=ai
 leaves:(ez ks).length=many
 len:tab.length<=20
 tabU:qI tab tab
 rows:∀p∈tab,nw p.2.2=ai
 dist:tab.Pairwise fun p q=>eP p.2.2=ai->eP q.2.2=ai->p.2.2≠q.2.2
 told:∀p∈tab,kZ 6 p.2.2=ai
 trB:trB 6 tr=ai
 trN:HV (PV.dS tr)=ai
 hW:cE (md (bW tab wW)) tr=ac (ac ks)
 hn:(fh (bW tab wW))[0]?=ac n0
 hwr:∀v∈n8 n0 (ez ks),∃h,fP (md (bW tab wW)) 64 [] v=ac h/\lG ks h=-1
 hch:∀i one,(ez ks)[i]?=ac one->∀m,m<4->cE (bN (mG tab) (ei i one m)) tr=ac (ac ks)/\∃h,fP (bN (mG tab) (ei i one m)) 64 [] (lp i one m)=ac h/\lG ks h=i
 rootIn:root∈dT tab
 nodes:∀n∈dT tab,∃g l,(n,g,PV.dict l)∈tab/\eP (.dict l)=ai
 cases:∀n∈dT tab,∀way,way<7->∀other,other<6->rN (mG tab) root n way other=ac (ws n way other,due n way other)/\AI (bN (mG tab) (ws n way other)) tr root many (ez ks) (due n way other)/\(∀w∈ws n way other,kZ 6 w.2.2=ai)/\(ws n way other).length<=5/\(∀p∈due n way other,p.2=aa "Parent"\/p.2=aa "Count")/\∀α:Al,α 900=aq->α 901=aq->α 902=aq->∀w∈ws n way other,α w.1≠aq->∃l,w.2.2=.dict l
theorem Kf(i one)(hi:i<8)(m)(hm:m<=4):Kx (ei i one m):=(D4 hi one m hm).1
set_option tactic.hygienic true in
theorem Pa(hmany:many<9){w:Int}(h:dk many w):∃tab tr root n0 ks ws due,KA many w tab tr root n0 ks ws due:=by
 refine fE h ?_;clear h;intro tab tr root n0 hb hs hc;unfold fA at hs;simp only[aO,decide_eq_true_eq,aU] at hs hc;refine aZ hs ?_;clear hs;intro z3 h5;refine aZ z3 ?_;clear z3;intro z4 h4;refine aZ z4 ?_;clear z4;intro z5 h3;refine aZ z5 ?_;clear z5;intro h1 h2;refine jY (Iu h1) fun T hlv hr9 hra=>?_;refine DW (F7 h2) fun t1 t2 t3 t4 t5 t6 t7 t8=>?_;have TU:qI tab tab:=⟨t2,fun zz zz=>rfl,fun zz h=>.inl h,rfl,fun zz h=>h,t7⟩
 have TW:qI tab (bW tab wW):=pi TU Il;have off:∀k r,k<900->mG tab k=ac (ac r)->md tab k=mG tab k:=fun k r hk zz=>(zK hk).symm;unfold UR at h5;simp only[aO,decide_eq_true_eq,aU] at h5;refine aZ h5 ?_;clear h5;intro z6 i3;refine aZ z6 ?_;clear z6;intro i1 i2;refine⟨tab,tr,root,n0,kT tab tr,HU tab root,rI ((kT tab tr).map (·.n)) root,hb,T.same off,fun s hs hp=>tF (T.page s hs hp).1,hlv,t1,TU,t3,t4,t5,t6,t8,?_,?_,fun v hv=>BW (i1 v hv),fun i one hi m hm=>⟨?_,?_⟩,h4,fun n hn=>?_,fun n hn way hw other ho=>?_⟩
 .refine T.same fun k r hk zz=>?_
  rw[zK hk];show ac _=ac _;rw[TW.lk k (mX hk)]
 .unfold fh
  rw[EI];exact i3
 .have hi8:i<8:=by have:=(cq.mp hi).1;exact TF hmany hlv this
  refine T.same fun k r hk zz=>qu fun w hw=>?_;have:=(Kf i one hi8 m (xn hm rfl) w hw).1;intro e;rw[e,mX hk] at this;injection this
 .have:=Hz i2 i one hi m hm
  rw[Nat.zero_add] at this;exact BW this
 .have:=h3 n hn
  unfold EQ at this;simp only[aO] at this;have:=this.1.1.1.1.1;split at this
  .rename_i g l e
   simp only[aO] at this;have hk:n<900:=t7 n (iI.mp hn).1;rw[zK hk] at e;exact jP g l (sF (aB e)) this.2
  .injection this
 .refine jM (HB T hr9 hra (h3 n hn) (hc n hn) way hw other ho) fun c1 c2 c3=>?_
  exact⟨c1,c2,c3,Ln ..,Hr _ _ _ _ _,fun α a0 a1 a2=>Ow a0 a1 a2⟩
theorem vD:∀l:List Int,Po (l.map DV.int)=ai|[]=>rfl|x::r=>vD r
theorem Pn(cells turn left):HV (iq cells turn left)=ai:=by show(Po (cells.map DV.int)&&(ai&&(ai&&ai)))=ai;rw[vD];rfl
theorem vp:∀Z,∃f,i4 Z Z f/\∀l,l.length=Z.length->f l=l|[]=>(bq _ .nil (fun l h=>(fO.mp h).symm))|p::m=>by refine ar (vp m) fun f h e=>?_;refine bq _ (.take h) (fun l hl=>?_);cases l with|nil=>injection hl|cons q r=>show q::f r=_;rw[e r (j3 hl)]
theorem D6(O:B.Ok G)(H:gj G hd k f ds Zc R (fun zz zz zz zz zz=>False))(hh:hd=ai\/B.hd=ak)(P:i4 Z Zc re)(hk:k<=B.k)(q:∀d Zc',Zc'.map (·.1)=Zc.map (·.1)->R d Zc'->Q d Y (re Zc')):cI G B E f ds Y Z Q:=by intro V s vs S hi;refine kA (dR (H B.A V s vs (O.room.le hk) (fun e=>hh.elim (fun z=>by rw[z] at e;injection e) O.calm) S.hk ((S.stk O).less fun a z=>P.sublist.subset z) (S.pre P) hi) (o8.mono (fun r s' z7=>bl z7 fun d Z' V' T i h=>?_) fun zz zz x=>x.elim));exact⟨d,Y,re Z',V',S.post O P T,T.v0,i,q d Z' T.as h⟩
noncomputable def gQ(p:Int×aV):fz:=.tuple [.int p.1,.str p.2]
theorem pF:∀l:eM,Bt (l.map gA)=ac (l.map gQ)|[]=>rfl|p::r=>by rw[au,Bt,pF r];rfl
def BM(x:aV):Prop:=x=aa "Parent"\/x=aa "Count"
theorem GY(h:BM x):PyData.strOk x=ai:=by rcases h with rfl|rfl<;>decide +kernel
theorem yt(h:BM p.2):(gQ p).canLay0=ai/\(gQ p).depth=1:=by
 unfold gQ;refine⟨?_,?_⟩;.simp only[wQ,i6,GY h];rfl
 .simp only[AP,j0];rfl
theorem qd{p:Int×aV}(h:BM p.2):a6 (gQ p)=ai:=by refine aZ (yt h) fun a b=>?_;unfold a6;rw[a,b];rfl
theorem wd:∀{l:eM},(∀p∈l,BM p.2)->i6 (l.map gQ)=ai/\j0 (l.map gQ)<=1|[],_=>⟨rfl,aj rfl⟩|p::r,h=>by refine aZ (wd fun q hq=>h q (.tail _ hq)) fun a b=>?_;refine aZ (yt (h p (.head _))) fun c d=>?_;rw[au,i6,j0,a,c,d];exact⟨rfl,lD.mpr ⟨aI _,b⟩⟩
theorem qc{l:eM}(h:∀p∈l,BM p.2):a6 (.list (l.map gQ))=ai:=by refine aZ (wd h) fun a b=>?_;unfold a6;rw[wQ,a,AP,Ov,decide_eq_true_eq];exact GH b rfl
theorem yx(p q):a8 (gQ p) (gQ q)=decide (p=q):=by obtain⟨a,x⟩:=p;obtain⟨b,y⟩:=q;unfold gQ;by_cases h1:a=b<;>by_cases h2:x=y<;>simp[a8,f7,h1,h2]
theorem wm:∀l:eM,f7 (l.map gQ) (l.map gQ)=ai|[]=>rfl|p::r=>by rw[au,f7,wm r,yx,decide_eq_true rfl];rfl
theorem yC(p):∀l:eM,((l.map gQ).any fun y=>a8 y (gQ p))=l.contains p|[]=>rfl|q::r=>by rw[au,dF,yC p r,yx,dt];congr 1;rw[wT,decide_eq_true_eq,beq_iff_eq];exact⟨Lj,Lj⟩
theorem DG(l k):(ku (PV.dS l) k).getD DV.none=(dD l k).d:=by rw[gy];unfold dD;cases fN l k with|none=>rw[PV.d.eq_def];rfl|some v=>rfl
theorem WP.dropMu{Q:β->aP->Mu->Prop}(h:WP G B E rel t Y Z Q):WP G B E rel t Y (p::Z) Q:=fun V s S=>h V s S.drop
theorem WP.dropAll{Q:β->aP->Mu->Prop}(h:WP G B E rel t Y Z Q):∀X,WP G B E rel t Y (X++Z) Q|[]=>h|_::X=>WP.dropMu (WP.dropAll h X)
theorem JK{Q:Fl->aP->Mu->Prop}(J:aP->Mu->Prop)(h:EX G B E t Y Z fun f Y' Z'=>f=.next/\J Y' Z')(q:∀Y' Z',J Y' Z'->Q .next Y' Z'):EX G B E t Y Z Q:=h.mono fun zz zz zz h=>h.1▸q _ _ h.2
theorem QG{b o:List jW}{Q:Fl->aP->Mu->Prop}(c)(h:EB G B E (isTrue t B.env (a9 t B.env)) Y Z fun b' Y' Z'=>b'=c/\Y'=Y/\Z'=Z)(h1:c=ai->EX G B E (eG b B.env) Y Z Q)(h2:c=ak->EX G B E (eG o B.env) Y Z Q):EX G B E (fc (.If t b o pos) B.env) Y Z Q:=JJ (h.mono fun b' Y' Z' z8=>jM z8 fun e1 e2 e3=>by subst e1 e2 e3;exact⟨h1,h2⟩)
theorem Kr{a b d0:DV}{Q:aP->Mu->Prop}(O:B.Ok G)(hn:B.hd=ak)(h1:pK Y x a Y1)(hcc:dg B.env y c)(R:fF c (.cell d0) (.cell b) Z Z')(q:Q Y1 Z'):AS G B E (.Tuple [.Name x px,.Name y py] k pos) (.tup [a,b]) Y Z Q:=by
 intro V s v S hi;refine d5 hi ?_;clear hi;intro t o vs n z1 y18;refine oS y18 ?_;clear y18;intro ho hc zz hd u1 y19;refine mq y19 ?_;clear y19;intro zz hv iu1 u2 r y20;refine jM y20 ?_;clear y20;intro z2 iu2 z3;subst z1;subst z2;subst z3;have hT:s.heap.IsTuple t vs:=(dK o (S.vh _ _ ho) hc n hd)
 have hsz:vs.size=2:=by rw[<-aF,hv];rfl
 rw[yJ];refine ah (cG ?_);show bd _ _ (unpack (.ref t) [(ak,assign (.Name x px) B.env),(ak,assign (.Name y py) B.env)]) _ _ _;unfold unpack;show bd _ _ (holding _ (rY (.ref t) 2 aq) >>= _) _ _ _;rw[<-hsz];refine ah (bG (b5 (fY (O.calm hn) hT fun h' hx hz=>?_)));rw[hv];have S1:b9 (cx G B) V Y Z {s with heap:=h'}:=(S.grow0 hx hz)
 refine ah (bG (ah (cG (c8 (gK O S1 iu1 h1 fun s2 S2=>?_)))));refine aM (S2.mu _ R.mem) fun oc xv hoc hdt hxv=>?_;refine ah (bG (ah (cG (c8 (KU O.c.fn hcc.kind hcc.at_ (bq oc hoc hdt) fun h' hc hs=>?_)))));refine ar hc ?_;clear hc;intro o' ho' hd';exact aH ⟨(),Y1,Z',V,S2.repl (t:=s2.toks) R hs (bO o' _ ho' hd' (fun zz=>(bq _ rfl iu2))),.refl _,trivial,q⟩
theorem Ch(g:dN G):∀h,G.K.In h->Xd h 616 614:=fun h X=>⟨_,_,_,_,_,_,_,_,_,X _ _ (by rfl),rfl,rfl,rfl,rfl,rfl,rfl,rfl,rfl,by decide⟩
theorem QZ{many i x:Nat}(h:(dH (many:Int).toNat)[i]?=ac x):(jO many)[i]?=ac (x:Int):=by unfold jO;rw[bj];rw[show(many:Int).toNat=many from rfl] at h;rw[h];rfl
theorem ET(e:ez ks=L){i:Nat}{x:bk}(h:(ks.filter (·.page))[i]?=ac x):L[i]?=ac x.n:=by subst e;unfold ez;rw[bj,h];rfl
theorem WP.mu_eq{Z Z':Mu}{Q:β->aP->Mu->Prop}(e:Z=Z')(w:WP G B E rel t Y Z' Q):WP G B E rel t Y Z Q:=e▸w
theorem Ku{w root n0:Int}{α:Al}(TU:qI tab tabA)(F:KA many w tab tr root n0 ks ws due)(a1:∀n,α n≠aq->n∈tabA.map (·.1))(a2:∀p∈tabA,eP p.2.2=ak->α p.1=aq)(a3:∀p∈tabA,eP p.2.2=ai->(α p.1).isSome=ai):α 900=aq/\α 901=aq/\α 902=aq/\qL α tabA/\∀n∈dT tab,(α n).isSome=ai:=by
 have noKey:∀x,¬x<900->Ju x=ak->α x=aq:=fun x h1 h2=>by
  cases e:α x with|none=>rfl|some a=>
   rcases TU.key (a1 x (by rw[e];simp)) with z|z;.exact absurd z h1
   .rw[h2] at z;injection z
 refine⟨noKey 900 (by decide) (by decide),noKey 901 (by decide) (by decide),noKey 902 (by decide) (by decide),fun p hp ha=>?_,fun n hn=>?_⟩
 .cases e:eP p.2.2 with
  |false=>exact absurd (a2 p hp e) ha|true=>
   revert e;cases p.2.2 with
   |dict l=>exact fun zz=>⟨l,rfl⟩
   |_=>exact fun e=>nomatch e
 .refine cY (F.nodes n hn) fun gn l hm hd=>?_
  have hn9:=F.tabU.low n (ax (f:=(·.1)) hm);have e1:tab.lk n=ac (gn,.dict l):=by refine g7 (sE (ax (f:=(·.1)) hm)) fun g' v' e'=>?_;have:=zk F.tabU.keys e' _ hm rfl;(injection this with _ q1;injection q1 with q2 q3;subst q2;subst q3);exact e'
  have:=sF ((TU.lk n (mX hn9)).trans e1);exact a3 _ this hd
theorem Gq{x y:fz}{b:Bool}(W:Wk G B gs ff)(P:PD Z d x)(P':PD Z d' y)(hx:a6 x=ai)(hy:a6 y=ai)(e:(!a8 x y)=b)(q:Q (.bool b) Y Z):O2 G B E (Is G.prog G.w) (bi .NotEq) d d' Y Z Q:=Bw W.O P P' hx hy (by rw[e];exact q)
theorem cI.permD{Z Z':Mu}(h:Z.Perm Z')(w:cI G B E f ds Y Z' Q):cI G B E f ds Y Z Q:=fun V s vs S hi=>w V s vs (S.perm h) hi
theorem y0(g:dN G)(hs:d6 lk tab)(hl:tab.length<=900)(ws)(hr:iS lk tr=ac (ac ws)):iz G 6 (.ref 540) [bg t r] (bz t r tab tr) (fun d Z'=>d=.none/\Z'=bz t r (bW tab ws) tr):=by intro A V s vs a b c d e f;refine dR (gj.sureOf rfl (om g hs hl (ac ws) hr) A V s vs a b c d e f) (o8.mono (fun r s' h=>?_) fun e s' x=>x);refine bl h ?_;clear h;intro d Z' V' x y y21;refine bp y21 ?_;clear y21;intro ws' h1 h2 h3;(injection h2 with h2;subst h2);exact eB d Z' V' x y h1 h3
theorem GZ{root:Int}(hkept:zM root due par kept=ai):∃bK,(!due.contains (root,aa "Parent")&&!par.isNull)=bK/\((bK=ai/\∃a b,par=.ref a b/\kept=.ref a b)\/(bK=ak/\kept=.null)):=by
 refine bq _ rfl ?_;unfold zM at hkept;split at hkept
 .rename_i h0
  refine .inl ⟨h0,?_⟩;split at hkept
  .simp only[aO,beq_iff_eq] at hkept
   refine aZ hkept ?_;clear hkept;intro z4 z5;subst z4;subst z5;exact jP _ _ rfl rfl
  .injection hkept
 .rename_i h0
  refine .inr ⟨by simpa using h0,?_⟩;cases kept<;>first|rfl|injection hkept
noncomputable def UI(ns:List Int)(k:aW)(many wid root leaves due parent count kept iskept:DV):aP:=[(aa "script",.lst (ns.map DV.int)),(aa "keg",.ptr k),(aa "many",many),(aa "width",wid),(aa "root",root),(aa "leaves",leaves),(aa "due",due),(aa "parent",parent),(aa "count",count),(aa "kept",kept),(aa "is_kept",iskept)]
noncomputable def GT(L t r k:aW)(tab:dG)(tr:List (aV×PV))(keg:List (aV×DV))(l1 l2:List xH):Mu:=[(t,MO.idic tab.d),(r,.sdic (PV.dS tr)),(k,.sdic keg),(L,.cell (bg t r)),(607,.pr (jm l1)),(614,.pr (jm l2))]
section
variable (g : dN G)
include g
theorem IK(Bm:Nr G)(hsh:∀many,many<9->∀w:Int,w=2\/w=3->dk many w)(ns:List Int)(hl:ns.length<=900)(hV0:∀a o,V0 a=ac o->g5 o=ak):∀A s vs,qJ A 31->A.handled=aq->m7 A ([((607:aW),MO.pr (jm [])),(614,.pr (jm []))].map (·.1)) V0 s->Eh G V0 [(607,.pr (jm [])),(614,.pr (jm []))] s->gP G.prog G.w V0 [.lst (ns.map DV.int)] vs->fJ (bf G.prog G.w) A (.call (.ref 617) ⟨vs,[]⟩) (o8 (fun r s'=>∃d Z' V',KC G A [(607,.pr (jm [])),(614,.pr (jm []))] s V' Z' s'/\Is G.prog G.w V' d r/\(d=.bool ai/\∃l1 l2,Z'=[(607,.pr (jm l1)),(614,.pr (jm l2))])) fun zz zz=>False) s:=by
 refine MZ (R:=fun d Z'=>d=.bool ai/\∃l1 l2,Z'=[(607,.pr (jm l1)),(614,.pr (jm l2))]) (Y0:=(aa "script",.lst (ns.map DV.int))::[aa "keg",aa "many",aa "width",aa "root",aa "leaves",aa "due",aa "parent",aa "count",aa "kept",aa "is_kept"].map fun x=>(x,.any)) (Yc:=[.any]) (ps:=[aa "script"]) g.ok (by rfl) rfl rfl rfl rfl rfl rfl rfl rfl (by rfl) rfl (gC fun zz=>rfl) (by decide +kernel) ?_ ?_ ?_ (by simp only[au,bI];decide +kernel) ?_ ?_
 .intro n x hx
  cases ap.mp hx;exact .inl rfl
 .intro p hp
  rcases ao.mp hp with rfl|hp;.exact⟨rfl,fun zz=>.head _⟩
  .refine ar (az.mp hp) fun x hx z6=>?_
   subst z6;exact⟨RJ ((aU (p:=fun x=>Ev x _==ac NameKind.local)).mp (by kernel_rfl) x hx),fun h=>absurd rfl h⟩
 .intro n p hp
  cases ap.mp hp;exact jT rfl rfl (fun h=>absurd rfl h)
 .intro d Z' x mo h zz e
  refine aZ h ?_;clear h;intro z7 zz;subst z7;cases mo<;>cases e
 intro B O hk hh henv hm hv;refine(show KE G B _ _ _ [(B.L+1,MO.cell .any),(607,.pr (jm [])),(614,.pr (jm []))] _ from ?_);have W:Wk G B _ ai:=⟨O,fun zz=>hh,g,(.cons (DJ g) (.cons (B0 g) (.cons (lu g) (.cons (v7 g) (.cons (rq g) (.cons (BY g) (.cons (qD g) (.cons (oO g) (.cons (BZ g) (.cons (oN g) (.cons (cU g) (.cons (vX g) (.cons (uv g) (.cons (lH g) (.cons (lw g) (.cons (sL g) (.cons (rr g) .nil))))))))))))))))),by rw[henv];kernel_rfl⟩
 have hcs:dg B.env (aa "shelf") (B.L+1):=by rw[henv];exact⟨rfl,rfl⟩
 refine mn (qe (Lq W ?_) (by rw[henv];rfl) (by rw[henv];rfl));walk_at "v";refine Ey W (IL g ns hl) (.inr hh) .nil (cO hk rfl) ?_;intro d new Z' h;refine bB h ?_;clear h;intro k cells hc z8 z9 z10;subst z8;subst z9;subst z10;walk_at "w";refine Ey W (Bb g) (.inr hh) .nil (cO hk rfl) ?_;intro d new Z' h;refine aM h ?_;clear h;intro t r z11 z12 z13;subst z11;subst z12;subst z13;walk_at "w";refine Kr O hh (cH rfl) hcs (.tail (.tail (.tail .head))) ?_;refine mn (hG O hh ?_ (by rw[henv];rfl) (by rw[henv];kernel_rfl));walk_at "w";refine eV O (jo g k cells 0 0 9 hc (mE 0) (by decide) (mE 0) (by decide) (by decide)) (.inr hh) (.skip (.skip (.take .nil))) (cO hk rfl) ?_;intro d Z' h;refine eZ h ?_;clear h;intro manyI turn1 left1 z14 hm0 hm9 ht10 ht11 hl1 z15;subst z14;subst z15;walk_at "w";refine eV O (jo g k cells turn1 left1 2 hc (TY ht10) (TX ht11) hl1 (by decide) (by decide)) (.inr hh) (.skip (.skip (.take .nil))) (cO hk rfl) ?_;intro d Z' h;refine eZ h ?_;clear h;intro widI turn2 left2 z16 hw0 hw2 ht20 ht21 hl2 z17;subst z16;subst z17;walk_at "w";refine ED (cH rfl) (cH rfl) ?_;obtain⟨many,rfl,hmany⟩:∃m:Nat,manyI=(m:Int)/\m<9:=(bq manyI.toNat (by exact Pi hm0) (by exact TV hm9))
 have hwid:(2+widI:Int)=2\/(2+widI:Int)=3:=by exact TT hw0 hw2
 generalize(2+widI:Int)=wid at hwid ⊢;refine DT (Pa hmany (hsh many hmany wid hwid)) fun tab tr root n0 ks wsF dueF F=>?_;refine mn ?_;walk_at "w";refine bD W hcs (.tail _ (.tail _ (.tail _ (.head _)))) (by intro h;injection h) (by decide +kernel) ?_;walk_at "w";refine ij (cl:=[]) W ⟨by rw[henv];rfl,by decide +kernel,rfl,by decide +kernel⟩ rfl rfl ?_;walk_at "w";refine m5 O fun ra=>?_;walk_at "w";refine fu W .nil rfl (mV O hh (US hmany rfl) (TS)) (by rw[af,dI];exact TR hmany) (fun i out Z=>out=((jO many).take i).map (fun a=>(PV.dict (tq a)).d)/\Z=GT (B.L+1) t r k [] [] (iq cells turn2 left2) [] []) ⟨rfl,by unfold GT;rfl⟩ ?_ ?_
 .intro B' P i d' out Z2 hd hI W' hec hk' hh' zz hP
  refine aZ hI ?_;clear hI;intro e1 e2;subst e1;subst e2;refine ar (dM hd) fun x z18 hx=>?_;subst z18;have hx':=QZ hx;walk_at "w";refine jH W' rfl rfl (by simp) (by decide) fun da=>?_;walk_at "v";refine eN W'.O (ii W' ?_);walk_at "w";refine⟨aj rfl,?_⟩;walk_at "w";refine cB _ (by simp only[au,bI];decide +kernel) .head ?_;walk_at "w";exact hP _ _ ⟨by rw[ci,hx',ct,aA];rfl,rfl⟩
 intro out Z hI;refine aZ hI ?_;clear hI;intro e1 e2;subst e1;subst e2;have hal:(jO many).length=many:=by unfold jO;rw[af,dI]
 rw[af,dI,bt (by rw[hal];exact bv rfl)];walk_at "w";refine aw O (sj g (jO many) wid (by rw[hal];exact xn hmany rfl) (TQ hwid) (TP hwid) tab tr root F.build) (.inr hh) (.take (.take .nil)) (cO hk rfl) ?_;walk_at "w";refine mn ?_;walk_at "w";refine pc (cl:=[]) W ⟨by rw[henv];rfl,by decide +kernel,rfl,by decide +kernel⟩ rfl rfl (by rw[henv];kernel_rfl) ?_;walk_at "w";refine bD W hcs (.tail _ (.tail _ (.tail _ (.head _)))) (by intro h;injection h) (by decide +kernel) ?_;walk_at "w";have hkl:=fk F.pages;have hlv8:(ez ks).length<=8:=by rw[F.leaves];exact xn hmany rfl
 have hlvl:(ez ks).length=(ks.filter (·.page)).length:=af ..;refine aw O ((qr g (jr tab) (ac ks) F.pages fun k' e=>by(injection e with e;subst e);exact F.fields).sure rfl) (.inr hh) (.take (.take .nil)) (cO hk rfl) ?_;walk_at "w";refine fu W .nil rfl (cA O) (by rw[af];exact TO hlv8 hlvl) (fun i out Z=>out=((ez ks).take i).map DV.int/\Z=GT (B.L+1) t r k tab tr (iq cells turn2 left2) [] []) ⟨rfl,rfl⟩ ?_ ?_
 .intro B' P i d' out Z2 hd hI W' hec hk' hh' zz hP
  refine aZ hI ?_;clear hI;intro e1 e2;subst e1;subst e2;refine ar (dM hd) fun x z19 hx=>?_;subst z19;walk_at "w";exact hP _ _ ⟨iX (ET rfl hx),rfl⟩
 intro out Z hI;refine aZ hI ?_;clear hI;intro e1 e2;subst e1;subst e2;rw[af,<-hlvl,bt (aI _)];walk_at "w";refine mn ?_;walk_at "w";refine I8 (.inl rfl) (by rw[af];exact je hlv8 rfl) (by rw[af,F.leaves]) ?_;walk_at "w";refine i0 (bne_self_eq_false _) ?_;walk_at "w";refine bD W hcs (.tail _ (.tail _ (.tail _ (.head _)))) (by intro h;injection h) (by decide +kernel) ?_;walk_at "w";refine eV O (zd g k cells turn2 left2 (ez ks) ks n0 hc (ba ht10 ht20) (TN ht11 ht21) hl2 F.len hlv8 F.hW F.hn (TM (pi F.tabU Il).nodesLen (l4 tab wW) F.len rfl) F.hwr F.hch) (.inr hh) (.take (.take (.take .nil))) (cO hk rfl) ?_;intro d Z' h;refine eZ h ?_;clear h;intro wsU turn3 left3 z20 hwsU hwsl ht30 ht31 hl3 z21;subst z20;subst z21;walk_at "w";have TU:=pi F.tabU hwsU;have htl:=l4 tab wsU;have hlen:=F.len;have hlk:d6 (mG tab) (bW tab wsU):=IM hwsU;generalize bW tab wsU=tabA at TU htl hlk ⊢;have hA60:tabA.length<60:=by exact TL hwsl hlen htl
 refine KE.thaw (Z:=[(r,.sdic (PV.dS tr)),(k,.sdic (iq cells turn3 left3)),(B.L+1,.cell (bg t r)),(607,.pr (jm [])),(614,.pr (jm []))]) (O.calm hh) (by rw[hv];exact hV0) TU.keys (TU.rows F.rows) ?_ ?_ (TU.dist F.dist) ?_;.repeat(first|exact wU|refine dJ (by first|rfl|exact vD _) ?_)
 .repeat(first|exact wU|refine dJ (by first|rfl|exact F.trN|exact Pn _ _ _) ?_)
 intro α a1 a2 a3;refine rH (Ku TU F a1 a2 a3) fun a900 a901 a902 hal someHd=>?_;refine ar (vp (j6 α tabA)) fun pf hpf epf=>?_;refine KE.of (g6 ?_);walk_at "w";refine bD W hcs (.tail _ (.tail _ (.tail _ (.head _)))) (by intro h;injection h) (by decide +kernel) ?_;walk_at "w";refine D6 O (Gf g k cells turn3 left3 root hc (ba (ba ht10 ht20) ht30) (TK ht11 ht21 ht31) hl3 hlk hA60 hal TU.keys a900 a901 a902 (someHd root F.rootIn) (List.length_pos_of_mem (TU.nodes' F.rootIn)) (by have:=TU.nodesLen;exact TJ hwsl hlen htl this) (fun n hn=>someHd n (TU.nodes hn)) (fun n hn way hw other ho=>by rw[(F.cases n (TU.nodes hn) way hw other ho).1];rfl)) (.inr hh) (.take (.take (.take (.skip (.skip (.skip hpf)))))) (cO hk rfl) ?_;intro d Z' hks h;refine eu h ?_;clear h;intro n way other wsB due y22;refine bB y22 ?_;clear y22;intro turn4 left4 hn hway hother y23;refine iZ y23 ?_;clear y23;intro hbent ht40 ht41 hl4 z22 z23;subst z22;subst z23;refine iZ (F.cases n (TU.nodes hn) way hway other hother) fun c1 C c3 c4 c6 c5=>?_;rw[c1] at hbent;injection hbent with hbent;injection hbent with e1 e2;subst e1;subst e2;have hpl:(j6 α (bW tabA (wsF n way other))).length=(j6 α tabA).length:=by have:=congrArg RQ hks;simpa using this
 have hep:=epf _ hpl;have hal2:qL α (bW tabA (wsF n way other)):=FA hal (c5 α a900 a901 a902);have hlk2:=kF hlk (wsF n way other);have htl2:=l4 tabA (wsF n way other);have htold:=F3 (TU.told F.told) c3;clear hks hpl hpf epf a1 a2 a3 someHd;generalize bW tabA (wsF n way other)=tabB at hal2 hlk2 htl2 htold hep ⊢;generalize bN (mG tab) (wsF n way other)=lkB at C hlk2;generalize dueF n way other=due at C c6 ⊢;walk_at "w";refine WP.mu_eq (Z':=(t,MO.idic (df α tabB))::([(r,.sdic (PV.dS tr)),(k,.sdic (iq cells turn4 left4)),(B.L+1,.cell (bg t r)),(607,.pr (jm [])),(614,.pr (jm []))]++j6 α tabB)) (congrArg (fun z=>_::_::_::_::_::_::z) hep) ?_;refine WP.refreeze (t:=t) (tab:=tabB) (α:=α) hal2 (by rw[hm];intro a ha;simp only[au,bI,ao,cf,or_false] at ha ⊢;rcases ha with rfl|rfl<;>simp) ?_;refine d5 C.rest fun gl l v wsS hl1r y24=>iZ y24 fun hl2r hcnt hset hsl hf2 y25=>J6 y25 fun hc2 z24 g2 l2 hl3r hkept=>?_;refine bp z24 ?_;clear z24;intro ks2 hk2 hkl hkf;have hrow:ku tabB.d root=ac (.tup [.int gl,.sdic (PV.dS l)]):=by rw[dG.lkD,hlk2 _ _ hl1r];simp only[ie,PV.d]
 have htl4:tabB.length<64:=by exact TI hwsl hlen htl c4 htl2
 clear hal2 htl2 hep;refine sd W [453] ?_;walk_at "v";refine bD W hcs (.tail _ (.tail _ (.tail _ (.head _)))) (by intro h;injection h) (by decide +kernel) ?_;walk_at "w";refine cw (K:=Int) (l:=tabB.d) (x:=.tup [.int gl,.sdic (PV.dS l)]) (.inr (bq t rfl (.head _))) hrow ?_ (fun zz zz=>rfl);walk_at "w";refine ej (j:=1) (x:=.sdic (PV.dS l)) (by decide) (by decide) rfl rfl ?_ (fun zz zz=>rfl);walk_at "w";refine iW (K:=aV) W (.inl rfl) ?_;walk_at "w";have hpd:=PV.d_any (dD l (aa "Parent"));refine oU (K:=aV) (.inl rfl) (DG _ _) ?_;walk_at "w";refine bD W hcs (.tail _ (.tail _ (.tail _ (.head _)))) (by intro h;injection h) (by decide +kernel) ?_;walk_at "w";refine aw O ((jp g hlk2 (ac due) C.faults).sure rfl) (.inr hh) (.take (.take .nil)) (cO hk rfl) ?_;walk_at "w";refine Gq W (b:=ak) (.inr (bO _ _ (.inl rfl) (pF due) rfl)) (.inr (bO _ _ (.inl rfl) (pF due) rfl)) (qc c6) (qc c6) (by rw[a8,wm];rfl) ?_;walk_at "w";refine bD W hcs (.tail _ (.tail _ (.tail _ (.head _)))) (by intro h;injection h) (by decide +kernel) ?_;walk_at "w";refine bD W hcs (.tail _ (.tail _ (.tail _ (.head _)))) (by intro h;injection h) (by decide +kernel) ?_;walk_at "w";refine cw (K:=Int) (l:=tabB.d) (x:=.tup [.int gl,.sdic (PV.dS l)]) (.inr (bq t rfl (.head _))) hrow ?_ (fun zz zz=>rfl);walk_at "w";refine ej (j:=1) (x:=.sdic (PV.dS l)) (by decide) (by decide) rfl rfl ?_ (fun zz zz=>rfl);walk_at "w";refine iW (K:=aV) W (.inl rfl) ?_;walk_at "w";refine oU (K:=aV) (.inl rfl) (DG _ _) ?_;walk_at "w";refine aw O (kE g hlk2 _ v hl2r) (.inr hh) (.take (.take .nil)) (cO hk rfl) ?_;have hvd:=PV.d_any v;walk_at "w";refine g6 (JK (fun Y' Z'=>Y'=UI ns k (.int (many:Int)) (.int wid) (sA root) (.lst ((ez ks).map DV.int)) (.lst (due.map gA)) (dD l (aa "Parent")).d v.d .any .any/\∃X l2,Z'.Perm (X++GT (B.L+1) t r k tabB tr (iq cells turn4 left4) [] l2)) (QG (fV v) ?_ ?_ ?_) ?_)
 .walk_at "w"
  refine Dz W (PV.tgd _) rfl ?_;cases hq:gw v.tg with
  |false=>
   have e:fV v=ak:=by cases v<;>first|(cases hq;done)|rfl
   walk_at "w";exact jT e.symm rfl rfl
  |true=>
   walk_at "w";refine zS W (PV.tgd _) rfl ?_;cases hb:eT v.tg with
   |true=>
    have e:fV v=ak:=by cases v<;>first|((first|(injection hb;done)|cases hb);done)|rfl
    walk_at "w";exact jT e.symm rfl rfl
   |false=>
    obtain⟨i,rfl⟩:∃i,v=.int i:=by cases v<;>first|((first|(injection hq;done)|cases hq);done)|(cases hb;done)|exact⟨_,rfl⟩
    rw[PV.d];walk_at "w";by_cases h0:i>=0
    .refine oY (decide_eq_true h0) ?_
     walk_at "w";exact jT ((decide_eq_true h0).symm) rfl rfl
    .refine i0 (decide_eq_false h0) ?_
     walk_at "w";exact jT ((decide_eq_false h0).symm) rfl rfl
 .intro hcv
  obtain⟨i,rfl,hi⟩:∃i,v=.int i/\0<=i:=by cases v<;>first|((first|(injection hcv;done)|cases hcv);done)|exact bq _ rfl (of_decide_eq_true hcv)
  have hci:fg lkB tr=ac (ac i):=by rw[hcnt];unfold sU;dsimp only;rw[if_pos hi]
  rw[PV.d];walk_at "w";refine bD W hcs (.tail _ (.tail _ (.tail _ (.head _)))) (by intro h;injection h) (by decide +kernel) ?_;walk_at "w";refine aw O ((g9 g hlk2 (ac i) hci).sure rfl) (.inr hh) (.take (.take .nil)) (cO hk rfl) ?_;walk_at "w";refine i0 (bne_self_eq_false _) ?_;walk_at "w";exact⟨rfl,rfl,[],[],.refl _⟩
 .intro hcv
  have hci:fg lkB tr=ac aq:=by
   rw[hcnt];cases v<;>first|rfl|skip
   rename_i i;unfold fV at hcv;unfold sU;dsimp only;rw[if_neg (of_decide_eq_false hcv)]
  walk_at "w";refine bD W hcs (.tail _ (.tail _ (.tail _ (.head _)))) (by intro h;injection h) (by decide +kernel) ?_;walk_at "w";refine eN O (ii W ?_);walk_at "w";refine kx O Bm rfl (by rw[henv];rfl) (by rw[henv];rfl) (Ch g) (ls:=[]) rfl (.tail (.tail (.tail (.tail (.tail .head))))) (by decide) fun f1=>?_;walk_at "w";refine⟨aj rfl,?_⟩;refine bp (C2 htold F.trB) fun res hr1 hr2 hr3=>?_;walk_at "w";refine cI.permD (cP [_] [_,_] _) ?_;refine aw O (nt g (tab:=tabB) (tr:=tr) (A:=[_,_]) 6 res hr1 hr2 hr3 htl4 (by decide) [f1] (aj rfl) ?hf) (.inr hh) (.take (.take (.take (.skip (.take .nil))))) (cO hk rfl) ?_;case hf=>intro f hf;cases ap.mp hf;exact⟨_,_,_,_,_,_,_,_,.head _,.take (.take (.take (.take .nil))),lY g (lH g) (Dw g) (by decide +kernel) (by decide +kernel) (g9 g hlk2 aq hci) (by decide) (by decide) _ (B.L+1) _ _ _ _⟩
  walk_at "w";exact⟨rfl,rfl,[_],_,cP [_,_] [_] _⟩
 intro Y' Z' h;refine As h ?_;clear h;intro z25 X lt2 hp;subst z25;refine WP.permD hp (WP.dropAll ?_ X);have htl9:tabB.length<=900:=by exact xn htl4 rfl
 clear hp hcnt htold hl1r htl4 hl2r hrow;have hlk3:=kF hlk2 wsS;have hrow2:ku (bW tabB wsS).d root=ac (.tup [.int g2,.sdic (PV.dS l2)]):=by rw[dG.lkD,hlk3 _ _ hl3r];simp only[ie,PV.d]
 refine sd W [462] ?_;walk_at "v";refine bD W hcs (.tail _ (.tail _ (.tail _ (.head _)))) (by intro h;injection h) (by decide +kernel) ?_;walk_at "w";refine aw O (y0 g hlk2 htl9 wsS hset) (.inr hh) (.take (.take .nil)) (cO hk rfl) ?_;generalize bW tabB wsS=tabS at hlk3 hrow2 ⊢;generalize bN lkB wsS=lkS at hlk3 hf2 hc2 hk2 hkf;walk_at "w";refine bD W hcs (.tail _ (.tail _ (.tail _ (.head _)))) (by intro h;injection h) (by decide +kernel) ?_;walk_at "w";refine aw O ((jp g hlk3 (ac []) hf2).sure rfl) (.inr hh) (.take (.take .nil)) (cO hk rfl) ?_;walk_at "w";refine eN O (ii W ?_);walk_at "w";refine⟨a7 _,?_⟩;walk_at "w";refine qv W (b:=ak) (.inl rfl) rfl ?_;walk_at "w";refine bD W hcs (.tail _ (.tail _ (.tail _ (.head _)))) (by intro h;injection h) (by decide +kernel) ?_;walk_at "w";refine aw O ((g9 g hlk3 (ac many) hc2).sure rfl) (.inr hh) (.take (.take .nil)) (cO hk rfl) ?_;walk_at "w";refine i0 (bne_self_eq_false _) ?_;walk_at "w";refine ij (cl:=[]) W ⟨by rw[henv];rfl,by decide +kernel,rfl,by decide +kernel⟩ rfl rfl ?_;walk_at "w";refine bD W hcs (.tail _ (.tail _ (.tail _ (.head _)))) (by intro h;injection h) (by decide +kernel) ?_;walk_at "w";have hk2l:=fk hk2;have hk2f:=dW (fun s:bk=>s.page) ks2;have hkl2:(ez ks).length=(ks2.filter (·.page)).length:=by rw[<-hkl];exact af ..
 refine aw O ((qr g hlk3 (ac ks2) hk2 fun k' e=>by(injection e with e;subst e);exact hkf).sure rfl) (.inr hh) (.take (.take .nil)) (cO hk rfl) ?_;walk_at "w";refine fu W .nil rfl (cA O) (by rw[af];exact TH hk2l hk2f) (fun i out Z=>out=((ez ks).take i).map DV.int/\Z=GT (B.L+1) t r k tabS tr (iq cells turn4 left4) [] lt2) ⟨rfl,rfl⟩ ?_ ?_
 .intro B' P i d' out Z2 hd hI W' hec hk' hh' zz hP
  refine aZ hI ?_;clear hI;intro e1 e2;subst e1;subst e2;refine ar (dM hd) fun x z26 hx=>?_;subst z26;walk_at "w";exact hP _ _ ⟨iX (ET hkl hx),rfl⟩
 intro out Z hI;refine aZ hI ?_;clear hI;intro e1 e2;subst e1;subst e2;rw[af,<-hkl2,bt (aI _)];walk_at "w";refine vv O (.inl rfl) (.inl rfl) ?_;rw[decide_eq_true rfl];walk_at "w";refine bD W hcs (.tail _ (.tail _ (.tail _ (.head _)))) (by intro h;injection h) (by decide +kernel) ?_;walk_at "w";refine cw (K:=Int) (l:=tabS.d) (x:=.tup [.int g2,.sdic (PV.dS l2)]) (.inr (bq t rfl (.head _))) hrow2 ?_ (fun zz zz=>rfl);walk_at "w";refine ej (j:=1) (x:=.sdic (PV.dS l2)) (by decide) (by decide) rfl rfl ?_ (fun zz zz=>rfl);walk_at "w";refine iW (K:=aV) W (.inl rfl) ?_;walk_at "w";have hpd2:=PV.d_any (dD l2 (aa "Parent"));refine oU (K:=aV) (.inl rfl) (DG _ _) ?_;clear hrow2;generalize dD l (aa "Parent")=par at hpd hkept ⊢;generalize dD l2 (aa "Parent")=kept at hpd2 hkept ⊢;refine ar (GZ hkept) fun bK hbK hfact=>?_;walk_at "w";refine g6 (JK (fun Y' Z'=>Y'=UI ns k (.int (many:Int)) (.int wid) (sA root) (.lst ((ez ks).map DV.int)) (.lst (due.map gA)) par.d v.d kept.d (.bool bK)/\Z'=GT (B.L+1) t r k tabS tr (iq cells turn4 left4) [] lt2) ?_ ?_)
 .walk_at "w"
  refine zv O rfl (.inl rfl) (pF due) (qd (p:=(root,aa "Parent")) (.inl rfl)) (fun y hy=>by refine ar (az.mp hy) fun p hp z27=>?_;subst z27;exact qd (c6 p hp)) ?_;rw[show PyData.tuple [.int root,.str (aa "Parent")]=gQ (root,aa "Parent") from rfl,yC];cases hcn:due.contains (root,aa "Parent") with|true=>rw[hcn] at hbK;walk_at "w";exact jT rfl (by rw[<-hbK];rfl) rfl|false=>rw[hcn] at hbK;walk_at "w";refine gz (fC par) rfl ?_;walk_at "w";exact jT rfl (by rw[<-hbK];rfl) rfl
 intro Y' Z' h;refine aZ h ?_;clear h;intro z28 z29;subst z28;subst z29;refine yT W ?_;walk_at "v";rcases hfact with⟨rfl,a,b,rfl,rfl⟩|⟨rfl,rfl⟩
 .refine gz (fC (.ref a b)) (b:=ai) rfl ?_
  rw[PV.d];walk_at "w";refine l6 W (x:=.bool ai) (y:=.bool ai) (b:=ai) (.inl rfl) (.inl rfl) rfl rfl rfl ?_;walk_at "w";refine aw O (kq g a b) (.inr hh) .nil (cO hk rfl) ?_;walk_at "w";refine aw O (kq g a b) (.inr hh) .nil (cO hk rfl) ?_;walk_at "w";refine l6 W (x:=.tuple [.int a,.int b]) (y:=.tuple [.int a,.int b]) (b:=ai) (.inl rfl) (.inl rfl) rfl rfl (by simp[a8,f7]) ?_;walk_at "w";refine cI.permD (cP [_,_,_,_] [_] _) ?_;refine eV O (nq g Bm k cells turn4 left4 hc (by exact ba (ba (ba ht10 ht20) ht30) ht40) (NR ht11 ht21 ht31 ht41) hl4) (.inr hh) (.take (.skip (.skip (.take .nil)))) (cO hk rfl) ?_;intro d Z' h;refine fx h ?_;clear h;intro l1 t' l' z30 z31;subst z30;subst z31;walk_at "w";exact⟨[_,_,_,_],[_,_],_,cP [_] [_,_,_,_] _,rfl,⟨rfl,_,_,rfl⟩,.inl rfl⟩
 .refine gz (fC .null) (b:=ak) rfl ?_
  rw[show PV.d .null=DV.none from by rw[PV.d]];walk_at "w";refine l6 W (x:=.bool ak) (y:=.bool ak) (b:=ai) (.inl rfl) (.inl rfl) rfl rfl rfl ?_;walk_at "w";refine cI.permD (cP [_,_,_,_] [_] _) ?_;refine eV O (nq g Bm k cells turn4 left4 hc (by exact ba (ba (ba ht10 ht20) ht30) ht40) (NR ht11 ht21 ht31 ht41) hl4) (.inr hh) (.take (.skip (.skip (.take .nil)))) (cO hk rfl) ?_;intro d Z' h;refine fx h ?_;clear h;intro l1 t' l' z32 z33;subst z32;subst z33;walk_at "w";exact⟨[_,_,_,_],[_,_],_,cP [_] [_,_,_,_] _,rfl,⟨rfl,_,_,rfl⟩,.inl rfl⟩
end
theorem vA(h S a):(q6 h S).get? a=if S.contains a then h.get? a else aq:=by
 unfold Heap.get? q6;dsimp only;rw[Array.getElem?_ofFn];by_cases hl:a<h.objs.size
 .rw[dif_pos hl]
  by_cases hs:S.contains a=ai;.rw[if_pos hs,if_pos hs,xM hl];rfl
  .rw[if_neg hs,if_neg hs];rfl
 .rw[dif_neg hl,i9 (b7 hl)]
  by_cases hs:S.contains a=ai;.rw[if_pos hs]
  .rw[if_neg hs]
theorem ur(e:(q6 h S).get? a=ac o):a∈S/\h.get? a=ac o:=by
 rw[vA] at e;split at e
 .rename_i hs
  exact⟨dX.mp hs,e⟩
 .injection e
theorem zB(hs:a∈S)(e:h.get? a=ac o):(q6 h S).get? a=ac o:=by rw[vA,if_pos (dX.mpr hs)];exact e
theorem vE{K:Ot}(h:K.lookup a=ac o):(a,o)∈K:=by
 induction K with|nil=>injection h|cons p r ih=>
  obtain⟨b,x⟩:=p;rw[d1] at h;by_cases e:a=b
  .subst e
   rw[beq_self_eq_true] at h;(injection h with h;subst h);exact .head _
  .rw[beq_false_of_ne e] at h
   exact .tail _ (ih h)
theorem BJ{K:Ot}(h:a∈K.map (·.1)):∃o,K.lookup a=ac o:=by
 induction K with|nil=>cases h|cons p r ih=>
  obtain⟨b,x⟩:=p;rw[d1];by_cases e:a=b
  .subst e
   rw[beq_self_eq_true];exact⟨x,rfl⟩
  .rw[beq_false_of_ne e]
   rw[au] at h;exact ih ((ao.mp h).resolve_left e)
theorem zA(hs:a∈S)(n:h.Ns a m):(q6 h S).Ns a m:=by refine fx n ?_;clear n;intro o es ep e r;exact o6 o es ep (zB hs e) r
theorem LU{h:jl}(n:h.Ns a m)(e:h.get? a=ac o)(hm:m (aa "Type")=aq):g5 o=ak:=by refine eD n ?_;clear n;intro o' es ep e' hd hk hf;rw[e] at e';(injection e' with e';subst e');unfold g5;rw[hd];dsimp only;cases hes:es.toList with|nil=>rfl|cons x r=>dsimp only;cases hh:x.key.isStrOf (aa "Type") with|false=>rfl|true=>exfalso;have:=hf (aa "Type");rw[hm] at this;unfold nsFind findBy at this;rw[AQ,<-Array.find?_toList,hes,bh] at this;refine aY (kn hh) fun t ht=>?_;rw[ht] at this;simp[pN] at this
theorem Mn:∀{P:Params}{h:jl}{vs:List aE}{ns:List Int},WellAll P h vs (ns.map Ib)->∀{prog:gR}{w:f6}{V:Vw},Mine.gP prog w V (ns.map DV.int) vs:=by
 intro p0_ p1_ p2_ p3_;revert p0_ p1_ p2_;induction p3_ with
 |nil=>intro zz zz zz h zz zz zz;cases h;exact be.mpr rfl
 |cons n r ih=>intro zz zz zz h zz zz zz;rw[au] at h;cases h with|cons a b=>cases a with|int _ t=>exact aG.mpr (bO _ _ rfl (bA.mpr ⟨t,rfl⟩) (ih b))
theorem Dy{R:WRecords}:∀{xs:List WData},um R xs .int=ai->∃ns:List Int,xs=ns.map Ib:=by
 intro p0_;induction p0_ with
 |nil=>intro zz;exact⟨[],rfl⟩
 |cons x r ih=>
  intro h;have h':WShape.has R x .int=ai/\um R r .int=ai:=by simpa[um] using h
  refine aY (hasW_int h'.1) fun i z1=>?_;subst z1;refine aY (ih h'.2) fun ns z2=>?_;subst z2;exact⟨i::ns,rfl⟩
theorem Ks{args:List WData}(h:t9.claim.pre args=ai):∃ns:List Int,args=[.list (ns.map Ib)]/\ns.length<=63:=by refine aZ (pre_splitW h) fun h1 h2=>?_;refine aM (hasAllW_cons (e:=.list .int) (es:=[]) h1) fun d r z3 h3 h4=>?_;subst z3;obtain rfl:=hasAllW_nil h4;refine ar (hasW_list h3) fun xs z4 h5=>?_;subst z4;refine aY (Dy h5) fun ns z5=>?_;subst z5;refine bq ns rfl ?_;refine aZ (holds_andW (a:=.not (.lt (.lit (.int (63:Nat))) (.len (.arg 0)))) (b:=.lit (.bool ai)) h2) fun h6 zz=>?_;have h7:=condW_of h6 (by wtm_val);rw[Ik,decide_eq_false_iff_not,af] at h7;exact TE h7
theorem NW(g:G.Ok)(h:nsIn G.K ce x=ac (ac v)):G.mg x=ac v:=mg_of g.kin g.g h
theorem DE(P):((hdP.heap_1 P).all fun p=>!g5 p.2)=ai:=by kernel_rfl
theorem Mf(P):(((hdP.heap_1 P).map (·.1)).contains 607||((hdP.heap_1 P).map (·.1)).contains 614)=ak:=by kernel_rfl
theorem Ji(P):(((hdP.heap_1 P).map (·.1)).contains cStatics&&((hdP.heap_1 P).map (·.1)).contains ce)=ai:=by kernel_rfl
theorem Cg(x:Xd h c P):isCodeTable h P:=by refine eu x ?_;clear x;intro o vs zz zz zz y44;refine d5 y44 ?_;clear y44;intro zz zz zz zz h1 y45;refine jY y45 ?_;clear y45;intro h2 h3 h4 zz;exact eB c o vs h1 h2 h3 h4
theorem Qq(hsh:∀many,many<9->∀w:Int,w=2\/w=3->dk many w):Cw G:=by
 intro q loose R XP s_0 s_1 Gr KX hT8 a hmg hg args vals hpre hwl gp gh;rw[<-gp];refine ar (Ks hpre) fun ns z6 hlen=>?_;subst z6;cases hwl with|@cons v vs _ _ hw1 hw2=>
 cases hw2;cases hw1 with|@list sa ws _ hsa hws=>
 have T:=Gr.T;let S:List aW:=0::4::(hdP.heap_1 G.w.params).map (·.1);have hk2:=Ji G.w.params;rw[aO,dX,dX] at hk2;have gk:G.Ok:=⟨(by rw[gh];exact fun b o e=>zB (.tail _ (.tail _ (ax (f:=(·.1)) (vE e)))) (KX b o e)),(by rw[gh];exact(let ⟨mc,x,y⟩:=T.nolimit;⟨mc,zA (.tail _ (.tail _ hk2.1)) x,y⟩)),(by rw[gh];exact zA (.tail _ (.tail _ hk2.2)) T.g),(by rw[gh];exact zA (.head _) T.b),T.builtins⟩
 have g:dN G:=⟨gk⟩
 have hm4:G.mg "__builtins__" = ac (.ref 4):=NW gk (by kernel_rfl);have Bm:Nr G:=⟨hm4,by refine wo T.bmain fun bm ob h1 zz h3 h4 h5 h6=>?_;rw[hm4] at h1;(injection h1 with h1;injection h1 with h1;subst h1);exact(qh ob (by rw[gh];exact zB (.tail _ (.head _)) h3) h4 h5 h6)⟩
 obtain rfl:a=617:=by have:G.mg (aa "law")=ac (.ref 617):=NW gk (by kernel_rfl);rw[hmg] at this;cases this;rfl
 let V0:Vw:=fS (q6 s_1.heap S).get? sa {cls:=.type "list",data:=.seq ws.toArray};have hV0k:Kp (q6 s_1.heap S).get? V0:=fun b o e=>by
  by_cases q:b=sa
  .subst q
   have:=(ur e).2;rw[hsa] at this;(injection this with this;subst this);exact bT _ _ _
  .exact(dC _ _ q).trans e
 have hV0h:Kp V0 s_1.heap.get?:=fun b o e=>by
  by_cases q:b=sa
  .subst q
   have:V0 b=_:=bT _ _ _;rw[this] at e;(injection e with e;subst e);exact hsa
  .have:V0 b=_:=dC _ _ q
   rw[this] at e;exact(ur e).2
 have hV0:∀b o,V0 b=ac o->g5 o=ak:=fun b o e=>by
  by_cases q:b=sa
  .subst q
   have:V0 b=_:=bT _ _ _;rw[this] at e;(injection e with e;subst e);rfl
  .have:V0 b=_:=dC _ _ q
   rw[this] at e;refine aZ (ur e) ?_;clear e;intro hb e;rcases ao.mp hb with rfl|hb
   .refine LU T.b e ?_
    rw[T.builtins _ (by decide +kernel)];kernel_rfl
   .rcases ao.mp hb with rfl|hb
    .refine jE Bm.at4 fun ob h1 zz zz h2=>?_
     rw[gh] at h1;have:=(ur h1).2;rw[e] at this;(injection this with this;subst this);unfold g5;rw[h2]
    .refine aY (BJ hb) fun o' ho'=>?_
     have:=KX _ _ ho';rw[e] at this;(injection this with this;subst this);simpa using aU.mp (DE G.w.params) _ (vE ho')
 have nosa:∀b,b∈[607,614]->b≠sa:=fun b hb q=>by have:=hT8 b hb;rw[q,hsa] at this;(injection this with this;injection this with q3 _ q4 _;injection q3)
 have hno:∀b,b∈[607,614]->V0 b=aq:=fun b hb=>by
  have:V0 b=_:=dC _ _ (nosa b hb);rw[this,vA,if_neg];intro hc;have hc:=dX.mp hc;have h1:=Mf G.w.params;rw[fp] at h1;simp only[ao,cf,or_false] at hb;rcases hb with rfl|rfl
  .rcases ao.mp hc with q|hc
   .exact absurd q (by decide)
   .rcases ao.mp hc with q|hc
    .exact absurd q (by decide)
    .rw[dX.mpr hc] at h1;exact absurd h1.1 (by decide)
  .rcases ao.mp hc with q|hc
   .exact absurd q (by decide)
   .rcases ao.mp hc with q|hc
    .exact absurd q (by decide)
    .rw[dX.mpr hc] at h1;exact absurd h1.2 (by decide)
 have hP:Eh G V0 [((607:aW),MO.pr (jm [])),(614,.pr (jm []))] s_1:=by
  refine⟨(by rw[gh];exact hV0k),hV0h,fun p hp=>?_,by decide,fun p hp=>?_⟩
  .simp only[ao,cf,or_false] at hp
   rcases hp with rfl|rfl;.exact⟨_,hT8 607 (.head _),[],rfl,rfl⟩
   .exact⟨_,hT8 614 (.tail _ (.head _)),[],rfl,rfl⟩
  .simp only[ao,cf,or_false] at hp
   rcases hp with rfl|rfl;.exact hno 607 (.head _)
   .exact hno 614 (.tail _ (.head _))
 have hi:Mine.gP G.prog G.w V0 [.lst (ns.map DV.int)] [.ref sa]:=aG.mpr (bO _ _ rfl (by show Exists _;exact(cJ sa _ ws.toArray 0 rfl (bT _ _ _) rfl ⟨rfl,rfl⟩ rfl (by rw[kC];exact Mn hws))) (be.mpr rfl));refine enter_call (dR (IK g Bm hsh ns (je hlen rfl) hV0 callerA s_1 [.ref sa] ⟨by decide,by decide⟩ rfl (bq [] rfl (fun zz h=>nomatch h)) hP hi) fun r s' hr=>?_);rcases r with e|(v|_|_|_);.exact hr.elim
 all_goals first|exact hr.elim|skip
 refine bl hr ?_;clear hr;intro d Z' V' P iv y46;refine As y46 ?_;clear y46;intro z7 l1 l2 z8;subst z7;subst z8;refine aZ (aT.mp iv) fun z9 zz=>?_;subst z9;refine o7 (.inl (c7 _ (.bool ai) [] rfl (fun zz=>rfl) (.bool ai) (by wrow_post) (fun zz=>⟨xI,fun zz h=>nomatch h⟩))) ⟨fun b o e=>?_,fun b o e=>?_⟩ P.rest.2.2 (.of_eq (P.rest.1.trans hg))
 .by_cases hb:b∈[607,614]
  .refine .inr (.inl ?_)
   have ho:=hT8 b hb;rw[e] at ho;(injection ho with ho;subst ho);simp only[ao,cf,or_false] at hb;rcases hb with rfl|rfl
   .refine Ar (P.mu _ (.head _)) fun o h1 l z10 zz=>?_
    subst z10;exact⟨Cg (ms g _ KX),rfl,#[],(triples l).toArray,rfl,by rw[FU];exact h1⟩
   .refine Ar (P.mu _ (.tail _ (.head _))) fun o h1 l z11 zz=>?_
    subst z11;exact⟨Cg (Ch g _ KX),rfl,#[],(triples l).toArray,rfl,by rw[FU];exact h1⟩
  .refine ar (P.pr b o hb e) fun o' h1 h2=>?_
   refine .inl ?_;rw[h1,h2.1 (fun h=>nomatch h)]
 .by_cases hb:b∈[607,614]
  .simp only[ao,cf,or_false] at hb
   rcases hb with rfl|rfl;.exact(P.mu _ (.head _)).at
   .exact(P.mu _ (.tail _ (.head _))).at
  .refine ar (P.pr b o hb e) fun o' h1 zz=>?_
   exact⟨o',h1⟩
theorem YX{R:WRecords}(hsh:∀many,many<9->∀w:Int,w=2\/w=3->dk many w)(w s_0 s_1 mg mb)(Gr:Ground q loose R XP w s_0 mg mb s_1.heap)(KX:(hdP.heap_1 w.params).In s_1.heap)(hT8:∀P∈[607,614],s_1.heap.get? P=ac (tabObj #[]))(a)(hmg:mg (aa "law")=ac (.ref a))(hg:s_1.gens=#[])(args vals)(hpre:t9.claim.pre args=ai)(hwl:WellAll w.params s_1.heap vals args):bd (bf t9.prog w) callerA (RN (.ref a) vals) (fun v s'=>Xc t9.claim (Rn s_0.heap) (pX s_0.heap) args s_1 (.ok (.ret v)) s') (fun e s'=>Xc t9.claim (Rn s_0.heap) (pX s_0.heap) args s_1 (.error e) s') s_1:=G2 (Qq hsh) ⟨t9.prog,w,q6 s_1.heap (0::4::(hdP.heap_1 w.params).map (·.1)),mg,mb⟩ _ _ _ _ s_0 s_1 Gr KX hT8 a hmg hg args vals hpre hwl rfl rfl
noncomputable def gt(n p:Int):Int×Int×PV:=(n,0,.dict [(aa "MediaBox",.arr [.int 0,.int 0,.int 9,.int (n-1)]),(aa "Type",.name (aa "Page")),(aa "Parent",.ref p 0)])
noncomputable def ny(n:Int)(ks:List Int)(p c:Int):Int×Int×PV:=(n,0,.dict (gZ ks++[(aa "Parent",.ref p 0),(aa "Count",.int c)]))
noncomputable def AT(n:Int)(ks:List Int)(c:Int):Int×Int×PV:=(n,0,.dict (gZ ks++[(aa "Count",.int c)]))
noncomputable def AV(n root:Int):Int×Int×PV:=(n,0,.dict [(aa "Type",.name (aa "Catalog")),(aa "Pages",.ref root 0)])
noncomputable def jB(n:Int):List (aV×PV):=[(aa "Root",.ref n 0)]
noncomputable def WN:dG:=[AT 1 [] 0,AV 2 1]
theorem S9:eL (jO 0) 2=ac (WN,jB 2,1):=by kernel_rfl
theorem SZ:fA WN (jB 2) 1 0 1=ai:=by k_qdec
theorem S8:(dT WN).all (fj WN (jB 2) 1 0)=ai:=by k_qdec
theorem O6:dk 0 2:=⟨_,_,_,_,S9,SZ,S8⟩
noncomputable def WM:dG:=[AT 1 [] 0,AV 2 1]
theorem SY:eL (jO 0) 3=ac (WM,jB 2,1):=by kernel_rfl
theorem SW:fA WM (jB 2) 1 0 1=ai:=by k_qdec
theorem SX:(dT WM).all (fj WM (jB 2) 1 0)=ai:=by k_qdec
theorem O5:dk 0 3:=⟨_,_,_,_,SY,SW,SX⟩
noncomputable def WL:dG:=[gt 1 2,AT 2 [1] 1,AV 3 2]
theorem SV:eL (jO 1) 2=ac (WL,jB 3,2):=by kernel_rfl
theorem SS:fA WL (jB 3) 2 1 2=ai:=by k_qdec
theorem SU:(dT WL).all (fj WL (jB 3) 2 1)=ai:=by k_qdec
theorem O0:dk 1 2:=⟨_,_,_,_,SV,SS,SU⟩
noncomputable def WK:dG:=[gt 1 2,AT 2 [1] 1,AV 3 2]
theorem SR:eL (jO 1) 3=ac (WK,jB 3,2):=by kernel_rfl
theorem SP:fA WK (jB 3) 2 1 2=ai:=by k_qdec
theorem SQ:(dT WK).all (fj WK (jB 3) 2 1)=ai:=by k_qdec
theorem OZ:dk 1 3:=⟨_,_,_,_,SR,SP,SQ⟩
noncomputable def WJ:dG:=[gt 1 3,gt 2 3,AT 3 [1,2] 2,AV 4 3]
theorem SO:eL (jO 2) 2=ac (WJ,jB 4,3):=by kernel_rfl
theorem SM:fA WJ (jB 4) 3 2 3=ai:=by k_qdec
theorem SN:(dT WJ).all (fj WJ (jB 4) 3 2)=ai:=by k_qdec
theorem OY:dk 2 2:=⟨_,_,_,_,SO,SM,SN⟩
noncomputable def WI:dG:=[gt 1 3,gt 2 3,AT 3 [1,2] 2,AV 4 3]
theorem SL:eL (jO 2) 3=ac (WI,jB 4,3):=by kernel_rfl
theorem SJ:fA WI (jB 4) 3 2 3=ai:=by k_qdec
theorem SK:(dT WI).all (fj WI (jB 4) 3 2)=ai:=by k_qdec
theorem OX:dk 2 3:=⟨_,_,_,_,SL,SJ,SK⟩
noncomputable def WH:dG:=[gt 1 4,gt 2 5,gt 3 5,ny 4 [1] 6 1,ny 5 [2,3] 6 2,AT 6 [4,5] 3,AV 7 6]
theorem SI:eL (jO 3) 2=ac (WH,jB 7,6):=by kernel_rfl
theorem SG:fA WH (jB 7) 6 3 4=ai:=by k_qdec
theorem SH:(dT WH).all (fj WH (jB 7) 6 3)=ai:=by k_qdec
theorem OW:dk 3 2:=⟨_,_,_,_,SI,SG,SH⟩
noncomputable def WG:dG:=[gt 1 4,gt 2 4,gt 3 4,AT 4 [1,2,3] 3,AV 5 4]
theorem SE:eL (jO 3) 3=ac (WG,jB 5,4):=by kernel_rfl
theorem SC:fA WG (jB 5) 4 3 4=ai:=by k_qdec
theorem SD:(dT WG).all (fj WG (jB 5) 4 3)=ai:=by k_qdec
theorem OV:dk 3 3:=⟨_,_,_,_,SE,SC,SD⟩
noncomputable def WF:dG:=[gt 1 5,gt 2 5,gt 3 6,gt 4 6,ny 5 [1,2] 7 2,ny 6 [3,4] 7 2,AT 7 [5,6] 4,AV 8 7]
theorem SB:eL (jO 4) 2=ac (WF,jB 8,7):=by kernel_rfl
theorem Sz:fA WF (jB 8) 7 4 5=ai:=by k_qdec
theorem SA:(dT WF).all (fj WF (jB 8) 7 4)=ai:=by k_qdec
theorem OU:dk 4 2:=⟨_,_,_,_,SB,Sz,SA⟩
noncomputable def WE:dG:=[gt 1 5,gt 2 5,gt 3 6,gt 4 6,ny 5 [1,2] 7 2,ny 6 [3,4] 7 2,AT 7 [5,6] 4,AV 8 7]
theorem Sy:eL (jO 4) 3=ac (WE,jB 8,7):=by kernel_rfl
theorem Sw:fA WE (jB 8) 7 4 5=ai:=by k_qdec
theorem Sx:(dT WE).all (fj WE (jB 8) 7 4)=ai:=by k_qdec
theorem OT:dk 4 3:=⟨_,_,_,_,Sy,Sw,Sx⟩
noncomputable def WD:dG:=[gt 1 6,gt 2 7,gt 3 7,gt 4 8,gt 5 8,ny 6 [1] 9 1,ny 7 [2,3] 10 2,ny 8 [4,5] 10 2,ny 9 [6] 11 1,ny 10 [7,8] 11 4,AT 11 [9,10] 5,AV 12 11]
theorem Sv:eL (jO 5) 2=ac (WD,jB 12,11):=by kernel_rfl
theorem Ss:fA WD (jB 12) 11 5 6=ai:=by k_qdec
theorem Su:(dT WD).all (fj WD (jB 12) 11 5)=ai:=by k_qdec
theorem OS:dk 5 2:=⟨_,_,_,_,Sv,Ss,Su⟩
noncomputable def WC:dG:=[gt 1 6,gt 2 6,gt 3 7,gt 4 7,gt 5 7,ny 6 [1,2] 8 2,ny 7 [3,4,5] 8 3,AT 8 [6,7] 5,AV 9 8]
theorem Sr:eL (jO 5) 3=ac (WC,jB 9,8):=by kernel_rfl
theorem Sp:fA WC (jB 9) 8 5 6=ai:=by k_qdec
theorem Sq:(dT WC).all (fj WC (jB 9) 8 5)=ai:=by k_qdec
theorem OR:dk 5 3:=⟨_,_,_,_,Sr,Sp,Sq⟩
noncomputable def WB:dG:=[gt 1 7,gt 2 7,gt 3 8,gt 4 8,gt 5 9,gt 6 9,ny 7 [1,2] 10 2,ny 8 [3,4] 11 2,ny 9 [5,6] 11 2,ny 10 [7] 12 2,ny 11 [8,9] 12 4,AT 12 [10,11] 6,AV 13 12]
theorem So:eL (jO 6) 2=ac (WB,jB 13,12):=by kernel_rfl
theorem Sm:fA WB (jB 13) 12 6 7=ai:=by k_qdec
theorem Sn:(dT WB).all (fj WB (jB 13) 12 6)=ai:=by k_qdec
theorem OQ:dk 6 2:=⟨_,_,_,_,So,Sm,Sn⟩
noncomputable def WA:dG:=[gt 1 7,gt 2 7,gt 3 7,gt 4 8,gt 5 8,gt 6 8,ny 7 [1,2,3] 9 3,ny 8 [4,5,6] 9 3,AT 9 [7,8] 6,AV 10 9]
theorem Sl:eL (jO 6) 3=ac (WA,jB 10,9):=by kernel_rfl
theorem Sj:fA WA (jB 10) 9 6 7=ai:=by k_qdec
theorem Sk:(dT WA).all (fj WA (jB 10) 9 6)=ai:=by k_qdec
theorem OP:dk 6 3:=⟨_,_,_,_,Sl,Sj,Sk⟩
noncomputable def Wz:dG:=[gt 1 8,gt 2 9,gt 3 9,gt 4 10,gt 5 10,gt 6 11,gt 7 11,ny 8 [1] 12 1,ny 9 [2,3] 12 2,ny 10 [4,5] 13 2,ny 11 [6,7] 13 2,ny 12 [8,9] 14 3,ny 13 [10,11] 14 4,AT 14 [12,13] 7,AV 15 14]
theorem Si:eL (jO 7) 2=ac (Wz,jB 15,14):=by kernel_rfl
theorem Sg:fA Wz (jB 15) 14 7 8=ai:=by k_qdec
theorem Sh:(dT Wz).all (fj Wz (jB 15) 14 7)=ai:=by k_qdec
theorem OO:dk 7 2:=⟨_,_,_,_,Si,Sg,Sh⟩
noncomputable def Wy:dG:=[gt 1 8,gt 2 8,gt 3 9,gt 4 9,gt 5 10,gt 6 10,gt 7 10,ny 8 [1,2] 11 2,ny 9 [3,4] 11 2,ny 10 [5,6,7] 11 3,AT 11 [8,9,10] 7,AV 12 11]
theorem Sf:eL (jO 7) 3=ac (Wy,jB 12,11):=by kernel_rfl
theorem Sd:fA Wy (jB 12) 11 7 8=ai:=by k_qdec
theorem Se:(dT Wy).all (fj Wy (jB 12) 11 7)=ai:=by k_qdec
theorem ON:dk 7 3:=⟨_,_,_,_,Sf,Sd,Se⟩
noncomputable def Ww:dG:=[gt 1 9,gt 2 9,gt 3 10,gt 4 10,gt 5 11,gt 6 11,gt 7 12,gt 8 12,ny 9 [1,2] 13 2,ny 10 [3,4] 13 2,ny 11 [5,6] 14 2,ny 12 [7,8] 14 2,ny 13 [9,10] 15 4,ny 14 [11,12] 15 4,AT 15 [13,14] 8,AV 16 15]
theorem Sc:eL (jO 8) 2=ac (Ww,jB 16,15):=by kernel_rfl
theorem Sa:fA Ww (jB 16) 15 8 9=ai:=by k_qdec
theorem Sb:(dT Ww).all (fj Ww (jB 16) 15 8)=ai:=by k_qdec
theorem OM:dk 8 2:=⟨_,_,_,_,Sc,Sa,Sb⟩
noncomputable def Wv:dG:=[gt 1 9,gt 2 9,gt 3 10,gt 4 10,gt 5 10,gt 6 11,gt 7 11,gt 8 11,ny 9 [1,2] 12 2,ny 10 [3,4,5] 12 3,ny 11 [6,7,8] 12 3,AT 12 [9,10,11] 8,AV 13 12]
theorem R9:eL (jO 8) 3=ac (Wv,jB 13,12):=by kernel_rfl
theorem R7:fA Wv (jB 13) 12 8 9=ai:=by k_qdec
theorem R8:(dT Wv).all (fj Wv (jB 13) 12 8)=ai:=by k_qdec
theorem OK:dk 8 3:=⟨_,_,_,_,R9,R7,R8⟩
theorem AU{P:Nat->Prop}{n:Nat}(a:P 0)(b:∀m,m<n->P (m+1))(m:Nat):m<n+1->P m:=Nat.casesOn (motive:=fun m=>m<n+1->P m) m (fun _=>a) fun m h=>b m (f8 h)
theorem O9(many:Nat)(h:many<9)(w:Int)(hw:w=2\/w=3):dk many w:=hw.elim (fun e=>e▸AU (P:=fun m=>dk m 2) O6 (AU O0 (AU OY (AU OW (AU OU (AU OS (AU OQ (AU OO (AU OM fun m h=>absurd h (iL m))))))))) many h) fun e=>e▸AU (P:=fun m=>dk m 3) O5 (AU OZ (AU OX (AU OV (AU OT (AU OR (AU OP (AU ON (AU OK fun m h=>absurd h (iL m))))))))) many h
theorem law_holds:ck.Holds:=hdP.2 (by intro w s_0 s_1 mg mb Gr Yy a o pm cd doc dV kV ho hd' hcd hD hmg hg args vals as hpre hlay hrd hwl hlo;exact YX O9 w s_0 s_1 mg mb Gr (km_in_of Yy) (km_tabs_of Yy) a hmg hg args vals hpre hwl)
end Mine
theorem PySem.Challenge.cw_sa0516_01_holds : PySem.Challenge.rw_sa0516_01.Holds :=
 Mine.law_holds
