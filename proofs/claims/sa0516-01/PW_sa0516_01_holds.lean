import PyProof.Rows.All
import Wide.All
import OpenK.AllK
import Wide.FinOn
import PySem.Challenge.RW_sa0516_01
set_option maxRecDepth 100000
set_option linter.unusedVariables false
set_option maxHeartbeats 8000000
set_option linter.unusedSectionVars false
set_option Elab.async false
set_option tactic.hygienic false
set_option bootstrap.genMatcherCode false
set_option compiler.extract_closed false
set_option genSizeOf false
set_option genInjectivity false
open Array renaming length_toList->aF,getElem?_toList->dg,getElem?_eq_none->i7,any_toList->jE,getElem?_eq_some_iff->kP,toList_append->qh,isEmpty_iff_size_eq_zero->tO,getElem?_eq_getElem->xF,empty_append->FN,size_append->HM,isEmpty->NB
open Bool renaming true->ai,false->ak,and_eq_true->aO,and_eq_true_iff->cW,or_eq_false_iff->fm,or_eq_true->iH,noConfusion->jP,not_not->nM,or_false->qM,false_eq_true->rQ,or_true->td,eq_iff_iff->wN,false_or->AK,false_ne_true->HL,not_eq_true'->Ib,true_and->Oq
open Classical renaming epsilon_spec->aC',epsilon->aD',byContradiction->aE'
open Eq renaming symm->Ld
open Exists renaming elim->an
open ForInStep renaming yield->Eo
open Function renaming comp->ej
open Iff renaming rfl->CU
open Int renaming le_trans->ba,natCast_nonneg->cb,ofNat_lt->d5,add_le_add_right->d8,lt_of_lt_of_le->eO,le_of_eq->fq,lt_of_le_of_lt->f8,ofNat_le->gX,ne_of_lt->kO,toNat_natCast->my,le_refl->mz,add_assoc->mG,not_lt->nU,natCast_pos->o3,negSucc_lt_zero->qL,not_le->r0,le_of_lt->tM,natCast_sub->w0,natCast_add->w1,add_zero->CT,max_eq_right->K9,fdiv_nonneg->NA,ofNat_inj->Ro,ne_of_gt->RO,add_comm->RP
open LawfulBEq renaming eq_of_beq->RF
open List renaming length_map->af,mem_cons->ao,mem_singleton->ap,map_cons->au,nodup_cons->av,mem_map_of_mem->ax,mem_map->az,map_append->aA,mem_append->aJ,mem_append_right->aK,length_append->aS,all_eq_true->aU,find?_cons->bh,getElem?_map->bj,mem_cons_self->bo,take_of_length_le->bt,nodup_append->bC,mem_append_left->bF,map_nil->bI,map_congr_left->bM,length_singleton->bQ,append_nil->bR,map_map->bS,not_mem_nil->cf,take_add_one->ci,mem_filterMap->cm,getElem?_eq_some_iff->cq,mem_of_getElem?->cF,length_cons->cK,getElem?_eq_getElem->cM,perm_append_comm_assoc->cO,contains_cons->dq,any_eq_true->dw,any_cons->dD,range->dF,length_range->dG,length_filter_le->dT,contains_iff_mem->dU,lookup_cons->dY,filter_cons->dZ,replicate->d6,length_reverse->eA,drop_of_length_le->eG,any_map->fk,filterMap_cons->fK,length_eq_zero_iff->fN,of_mem_zip->gb,append_assoc->gq,perm_middle->gR,getElem?_eq_none_iff->gW,filterMap_cons_some->iz,mem_filter->iG,pairwise_cons->iK,map_fst_zip->jO,toList_toArray->kA,map->kR,getD_eq_getElem?_getD->kS,find?_eq_none->kT,size_toArray->lK,map_id->lL,foldl_append->lM,map_reverse->m5,zip->pR,length_take_le->qI,flatten_append->qJ,filter_append->rN,Nodup->rO,pairwise_map->sY,find?_append->sZ,nodup_nil->xB,mem_range->xC,getElem?_append_right->xD,mem_of_find?_eq_some->yJ,drop_eq_getElem_cons->yK,reverse_eq_nil_iff->AQ,pairwise_mergeSort->AR,pairwise_reverse->CQ,getElem?_eq_none->CR,filterMap_append->CS,reverse_reverse->Ej,pairwise_filter->Ek,mem_of_mem_drop->El,mem_cons_of_mem->Em,lookup->En,replicate_succ->FI,mergeSort_perm->FJ,length_pos_iff->FK,getElem?_range->FL,flatMap_append->FM,zip_cons_cons->HH,prefix_append->HI,reverse_cons->H6,flatten_cons->H7,flatMap_cons->H8,any_eq_false->H9,mem_reverse->KE,flatMap_nil->KF,cons_append->KG,range_succ->K6,foldl_cons->K7,find?_some->K8,forIn_nil->Ny,filterMap->Nz,length->RM,foldl->Wg,Perm->W6
open List.Pairwise renaming imp_of_mem->RN
open List.Perm renaming cons->ay'
open List.Sublist renaming refl->Wh,map->Wi,append->Wj
open List.cons renaming inj->HJ
open Nat renaming le_trans->ae,le_of_ble_eq_true->aj,le_refl->aI,zero_le->a7,add_le_add_left->bn,not_lt->bu,le_of_eq->bv,lt_of_le_of_lt->bJ,ne_of_lt->bP,add_le_add->bX,succ_le_succ->b6,le_of_not_lt->b7,le_of_lt->b8,le_add_right->cg,le_succ->cD,lt_succ_self->c8,lt_of_lt_of_le->dt,mul_le_mul_left->dM,lt_of_succ_lt_succ->f6,add_right_comm->f7,lt_succ_of_lt->gE,ne_of_gt->gT,lt_trans->gU,ble->gV,not_lt_zero->iJ,succ_pos->ji,max_le->lz,le_succ_of_le->mw,le_of_succ_le->mx,lt_irrefl->mF,ne_of_beq_eq_false->nT,le_of_lt_succ->tK,beq->tL,le_antisymm->wY,eq_of_beq_eq_true->Ei,add_le_add_right->FG,add_sub_cancel->H5,lt_succ_of_le->KD,succ_ne_self->K3,min_eq_right->K4,min_eq_left->Nw,add_assoc->Rm,le_total->RK,add_comm->RL
open Nat.succ renaming inj->jZ
open Ne renaming symm->oZ
open Option renaming some->ac,none->aq,map_eq_some_iff->aD,toList_some->ct,isSome_iff_exists->cu,bind_eq_some_iff->cC,getD_some->eE,map_some->hO,bind_some->sW,map_eq_none_iff->AJ,map->Eh,isSome_map->FF,none->On
open Option.some renaming inj->aB,injEq->W5
open Prod.mk renaming injEq->wU,inj->Nv
open PyProof.Rows renaming subscriptTail->i5,sortedHeap->uv,seqObj->yy,Assign_Tuple_swapped->Le,entry_list_sort->VU,tail_any->WM,slot_list_sort->WN,args_list_sort->W0
open PySem renaming wpAny_bind->ah,Shared->ay,Value->aE,wpAny_pure->aH,wpAny_mono->aQ,Str->aV,Addr->aW,eval->a9,wpAny->bd,model->bf,compareOp->bi,starEach->br,wpAny_holding->bG,Expr->bZ,mainGlobals->ce,backTo->cy,wpAny_standAt->cG,cellsFrom->cP,wpAny_bindName->c7,wpAny_newObj_type->dk,spliced->dA,codeAny_mono->dP,builtinsNs->d7,wpAny_loadPart_at->eC,execs->eD,rawInt->e9,exec->fb,callEnvC->fc,PyData->fy,sliceBounds->fG,codeAny->fH,binaryOp->fJ,sysModules->fP,Around->fQ,wpAny_unpackItems_tuple->fX,sizeLine->fY,compEnvC->gF,World->gG,swapsWith->gN,Program->gQ,Builtin->gS,wpAny_of_eq->g9,excClassObj->hG,treeTable->iF,typeOf->iL,bindArgs->i6,wpAny_execs_nil->i8,importedModules->i9,codeAny_builtin->ja,allTrue->jb,Heap->jk,keywordEach->jw,getMethod->jx,foldedSetIterable->jT,Stmt->jU,plainObj_wpAny_Assign_Attribute->j5,wpAny_call_entry->kx,wpAny_call->ky,wpAny_isSubtype_exc->lH,seqIndex?->mv,DictEntry->mA,callEnv->nI,swapsWithSole->nO,swappedStores->nP,plainId_quiet->nQ,behindInMarks->nS,backToKw->pG,wpAny_rule->qd,call_meetsIn->qe,call_meets->qf,Reads->qH,wpAny_field->rR,unpackItems->rS,subscripted->rT,refuseLoop_ref->rU,firstArgMember->rX,callWith->rY,standAt->sT,pairTrees->sU,evalPairs->sV,wpAny_evalPart_some->tH,wpAny_evalPart_none->tI,sliceRange->uw,Obj->ux,wpAny_typeOf->wQ,wpAny_pyIter_list->wR,notedBy->wS,getAttr?->wT,OsState->wV,FuncData->w2,ExcBaseFacts->w3,BindsTo->w4,Pos->xA,opaqueClassAbove->yz,noFill_tuple_add->yA,arm_assign_Tuple->yC,Result->yE,frameOf->yF,wpAny_typeNameOfWhole_keyiter->AD,sizeLine_eq->AE,importBound->AF,wpAny_updateSeq->AO,valueAt->Cz,wpAny_setField->CH,wpAny_runValue->CI,wpAny_loadPart->CJ,pyNext->CK,ReadsAll->CO,wpAt_of_wpAny->Eg,wpAny_typeNameOf_keyiter->Fx,wpAny_onRaise->Fy,wpAny_comprehension_free->Fz,wpAny_attempt->FA,seq_tuple_add->FC,attributeBase->FD,wpAny_callSpecial?_slot->HC,slicePick->HD,setFlight->HE,Sem->HG,wpAny_pyNext_list_item->HP,wpAny_pyNext_dict_item->HQ,operate->HS,newList->HT,intKind->HU,getItem->HW,entryPlaceOf->HX,concat_meets->HY,bootBuiltins->HZ,builtinLookup_eq_fast->KB,wpAt_bind->KC,wpAny_storeName_cell->KP,wpAny_pyIter_revIter->KQ,wpAny_pyIter_keyiter->KR,wpAny_newFunctionEnv->KS,unsupported->KT,setField->KU,meets_dict_pop_there->KY,codeAny_call_builtin->K0,cLine->K1,bm_if_false->K2,merged_nil_of_nodup->Nt,wpAny_load->N8,wpAny_Name->N9,typeLookup->Oa,slot_listiter_next->Ob,refuseLoop->Od,isType->Og,isInstance->Oh,getattributeRaised->Oi,codeAny_call_cells->Oj,closureFor->Ol,Env->Op,wpAny_pyIter_dict->Rb,wpAny_Assign_Name->Rc,slot_list_getitem->Re,getMethod_builtin->Rh,classAt->Rj,Scope->Rk,ItemsOf->Rn,wpAny_isInstance->Rv,wpAny_execs_cons->Rw,wpAny_Try_except->Rx,wpAny_Dict_empty->Ry,updateSeq->Rz,noteFrame->RC,isinstance_outer->RD,getAttrBy->RE,entryFor_of_tree->RG,codeAny_call_def->RH,checkBuiltinCall->RI,call->RJ,Arguments->RS,wpAny_looks_onW->VQ,wpAny_Dict_walk->VR,typeLookup_type->VS,letOwnedTupleGo->VT,wpAny_seqItems->WL,preSum->WO,newTuple->WS,newExc->WT,letTemporaryGo->WU,isSubtype_stop->WW,entryFor->WY,behindIsImport->WZ,IntMulOk->W7,wpAny_newList->ZP,wpAny_UnaryOp->ZQ,methodCallPos->ZR
open PySem.Around renaming frames_deeper->e8,under_plainId->jQ
open PySem.AutoListH renaming list___mul___list_int_3->aF'
open PySem.BindsTo renaming of_defaults->CB
open PySem.Builtin.Dict renaming updateFrom->tN,selfAndRest->Wm,pairItems->Wn
open PySem.Builtin.Dict_items renaming ownsTuple->KL
open PySem.Builtin.Int renaming intBits->Xa
open PySem.Builtin.List renaming listExtendWith->jy,listFitsIndex->rP,listTooLong->tb,listSameRef->tc
open PySem.Builtin.ObjectAttr renaming storeTaker?->KH,storeInOwnDict->KI,storeInDict->KJ
open PySem.Builtin.Range renaming rangeSize->s9,small->wM,rangeFitsLong->RQ
open PySem.Builtin.Tuple renaming tupleExact->r4
open PySem.Calls renaming call_function_entry->xE,Name_function_global->K5,loadGlobal_builtin->Of,loadGlobal_global->Rf
open PySem.Challenge renaming rw_sa0516_01->ck,pw_sa0516_01->Om
open PySem.Code renaming builtin->s8,quiet_builtin->HK
open PySem.DictEntry renaming refKey->aB'
open PySem.EntryCells renaming newEntry->nK
open PySem.ExcName renaming means->pS
open PySem.F renaming slot_list_getattribute->jh,args_tuple_add_2->lx,entry_tuple_add->lJ,slot_tuple_add->mD,entry_dict_pop->mE,slot_dict_pop->nG,slot_dict_keyiterator_next->qg,plain_extend_loop->wG,excBase_Exception->wH,store_Exception->xx,plain_list_iadd->xy,args_dict_pop_3->xz,entry_dict_get->yG,slot_int_rmul->AG,slot_dict_get->AH,args_object_init_2->Ia,type_list_extend->La,slot_list_extend->Lb,type_dict_pop->Rp,slot_dict_pop->Rq
open PySem.Heap renaming get?_push_size->aN,lt_size->aR,get?_push_of_some->aX,dictOf_iff->bc,size_push->bV,get?_update_self->cp,get?_update_other->jc,ExtBut->lN,size_update->m6,SameBut->nJ,update->uy
open PySem.Heap.DictOf renaming new->jj
open PySem.Heap.SameBut renaming update->cV,refl->Wl
open PySem.Manifest renaming isStub->FH
open PySem.MeetsSeq renaming list_pop_last->Rl
open PySem.Moved renaming eq_with->Nx
open PySem.NameKind renaming free->wL,globalImplicit->wZ
open PySem.Obj renaming data_mapFields->ly,isFreed_of_fields->pI,isFreed_of_seq->rZ,data_mapSeq->wX,mapSeq->yH,cls_mapSeq->yI,mapFields->AP,putName->Wf
open PySem.PyData renaming eqv->a8,eqvAll->fZ,int->iw,canLayAll0->i4,depthAll->jY,keyHash->wJ,canLay0->wK,depth->AI
open PySem.Sem renaming wp->CN,wp_mono->FE
open PySem.SeqAt renaming shaped->a6,canLay_of_shaped->nE,EqAt->nF
open PySem.SeqAt.EqAt renaming same->CM,str_str->ZT,of_refs->ZU,int_int->ZV
open PySem.SeqAt.RcAt renaming tuples->ZS
open PySem.SeqAt.RcNeAt renaming tuples->VV,lists_lengths->VW,lists->VX
open PySem.SeqAt.Reads renaming unique->yD
open PySem.Spec renaming ltCps->ZW
open PySem.Str renaming ofString->aa
open PySem.Value renaming ref->cs,type->cU,none->dm,isStrOf_shape->kj,isStr->pH,str->tJ,isInt_shape->HF,isStrOf->Nu
open PySem.W renaming instObj->cn,behindTheImports->eU,dictOf->jg,looks_findIn->jS,findIn->kz,Looks->lI,codeIn->nR,plainGet_of->rV,handedIn->rW,emptyDict->yB,topStub->CA,codeRec_of->CL,typeIn->HR,hideAll_none->HV,plainGet->KW,looks_clsIn->KZ,namesBound->Oe,Frag->Oo,subIn->Rd,hideAll->Rg,clsIn->Ri,staticsOk->RB,openSeen->WQ,openGood->WR,laidKept->WV,gensDone->WX,any_some->W4,GoodWG->W8,CodeHd->W9
open PySem.W.Fast renaming tw14364793385576792824->gD,tw9446332074065402090->VY,tw15667345088766844465->VZ,tw14082659384304107361->V8,tw10110043849684766642->V9,te9446332074065402090->Wa,te15667345088766844465->Wb,te14364793385576792824->Wc,te14082659384304107361->Wd,te10110043849684766642->We
open PySem.W.Looks renaming of_pure->hX,ld->CP
open PySem.W.OpenLaw renaming row->sX
open PySem.W.WData renaming int->H0
open PySem.W.WShape renaming hasItems->ug
open PySem PySem.W PySem.Calls PyProof.Rows
namespace Mine
theorem aZ{P1 P2 C:Prop}(h:P1/\P2)(k:P1->P2->C):C:=k h.1 h.2
theorem aY{α1:Type}{P1:α1->Prop}{C:Prop}(h:∃x1,(P1 x1))(k:∀x1,(P1 x1)->C):C:=an h fun x1 h1=>k x1 h1
theorem jK{P1 P2 P3 C:Prop}(h:P1/\P2/\P3)(k:P1->P2->P3->C):C:=k h.1 h.2.1 h.2.2
theorem Fc{α1:Type}{P1:Prop}{P2:α1->Prop}{C:Prop}(h:P1/\∃x1,(P2 x1))(k:P1->∀x1,(P2 x1)->C):C:=an h.2 fun x1 h1=>k h.1 x1 h1
theorem ar{α1:Type}{P1 P2:α1->Prop}{C:Prop}(h:∃x1,(P1 x1)/\(P2 x1))(k:∀x1,(P1 x1)->(P2 x1)->C):C:=an h fun x1 h1=>k x1 h1.1 h1.2
theorem g5{α1 α2:Type}{P1:α1->α2->Prop}{C:Prop}(h:∃x1,∃x2,(P1 x1 x2))(k:∀x1,∀x2,(P1 x1 x2)->C):C:=an h fun x1 h1=>an h1 fun x2 h2=>k x1 x2 h2
theorem jW{P1 P2 P3 P4 C:Prop}(h:P1/\P2/\P3/\P4)(k:P1->P2->P3->P4->C):C:=k h.1 h.2.1 h.2.2.1 h.2.2.2
theorem sM{α1:Type}{P1:Prop}{P2 P3:α1->Prop}{C:Prop}(h:P1/\∃x1,(P2 x1)/\(P3 x1))(k:P1->∀x1,(P2 x1)->(P3 x1)->C):C:=an h.2 fun x1 h1=>k h.1 x1 h1.1 h1.2
theorem Ak{α1 α2:Type}{P1:Prop}{P2:α1->α2->Prop}{C:Prop}(h:P1/\∃x1,∃x2,(P2 x1 x2))(k:P1->∀x1,∀x2,(P2 x1 x2)->C):C:=an h.2 fun x1 h1=>an h1 fun x2 h2=>k h.1 x1 x2 h2
theorem bp{α1:Type}{P1 P2 P3:α1->Prop}{C:Prop}(h:∃x1,(P1 x1)/\(P2 x1)/\(P3 x1))(k:∀x1,(P1 x1)->(P2 x1)->(P3 x1)->C):C:=an h fun x1 h1=>k x1 h1.1 h1.2.1 h1.2.2
theorem wm{α1 α2:Type}{P1:α1->Prop}{P2:α1->α2->Prop}{C:Prop}(h:∃x1,(P1 x1)/\∃x2,(P2 x1 x2))(k:∀x1,(P1 x1)->∀x2,(P2 x1 x2)->C):C:=an h fun x1 h1=>an h1.2 fun x2 h2=>k x1 h1.1 x2 h2
theorem cX{α1 α2:Type}{P1 P2:α1->α2->Prop}{C:Prop}(h:∃x1,∃x2,(P1 x1 x2)/\(P2 x1 x2))(k:∀x1,∀x2,(P1 x1 x2)->(P2 x1 x2)->C):C:=an h fun x1 h1=>an h1 fun x2 h2=>k x1 x2 h2.1 h2.2
theorem sL{α1 α2 α3:Type}{P1:α1->α2->α3->Prop}{C:Prop}(h:∃x1,∃x2,∃x3,(P1 x1 x2 x3))(k:∀x1,∀x2,∀x3,(P1 x1 x2 x3)->C):C:=an h fun x1 h1=>an h1 fun x2 h2=>an h2 fun x3 h3=>k x1 x2 x3 h3
theorem rB{P1 P2 P3 P4 P5 C:Prop}(h:P1/\P2/\P3/\P4/\P5)(k:P1->P2->P3->P4->P5->C):C:=k h.1 h.2.1 h.2.2.1 h.2.2.2.1 h.2.2.2.2
theorem Am{α1:Type}{P1 P2:Prop}{P3 P4:α1->Prop}{C:Prop}(h:P1/\P2/\∃x1,(P3 x1)/\(P4 x1))(k:P1->P2->∀x1,(P3 x1)->(P4 x1)->C):C:=an h.2.2 fun x1 h1=>k h.1 h.2.1 x1 h1.1 h1.2
theorem Fb{α1:Type}{P1:Prop}{P2 P3 P4:α1->Prop}{C:Prop}(h:P1/\∃x1,(P2 x1)/\(P3 x1)/\(P4 x1))(k:P1->∀x1,(P2 x1)->(P3 x1)->(P4 x1)->C):C:=an h.2 fun x1 h1=>k h.1 x1 h1.1 h1.2.1 h1.2.2
theorem Fa{α1 α2:Type}{P1:Prop}{P2 P3:α1->α2->Prop}{C:Prop}(h:P1/\∃x1,∃x2,(P2 x1 x2)/\(P3 x1 x2))(k:P1->∀x1,∀x2,(P2 x1 x2)->(P3 x1 x2)->C):C:=an h.2 fun x1 h1=>an h1 fun x2 h2=>k h.1 x1 x2 h2.1 h2.2
theorem jD{α1:Type}{P1 P2 P3 P4:α1->Prop}{C:Prop}(h:∃x1,(P1 x1)/\(P2 x1)/\(P3 x1)/\(P4 x1))(k:∀x1,(P1 x1)->(P2 x1)->(P3 x1)->(P4 x1)->C):C:=an h fun x1 h1=>k x1 h1.1 h1.2.1 h1.2.2.1 h1.2.2.2
theorem E9{α1 α2:Type}{P1 P2:α1->Prop}{P3:α1->α2->Prop}{C:Prop}(h:∃x1,(P1 x1)/\(P2 x1)/\∃x2,(P3 x1 x2))(k:∀x1,(P1 x1)->(P2 x1)->∀x2,(P3 x1 x2)->C):C:=an h fun x1 h1=>an h1.2.2 fun x2 h2=>k x1 h1.1 h1.2.1 x2 h2
theorem Aj{α1 α2:Type}{P1:α1->Prop}{P2 P3:α1->α2->Prop}{C:Prop}(h:∃x1,(P1 x1)/\∃x2,(P2 x1 x2)/\(P3 x1 x2))(k:∀x1,(P1 x1)->∀x2,(P2 x1 x2)->(P3 x1 x2)->C):C:=an h fun x1 h1=>an h1.2 fun x2 h2=>k x1 h1.1 x2 h2.1 h2.2
theorem MV{α1 α2 α3:Type}{P1:α1->Prop}{P2:α1->α2->α3->Prop}{C:Prop}(h:∃x1,(P1 x1)/\∃x2,∃x3,(P2 x1 x2 x3))(k:∀x1,(P1 x1)->∀x2,∀x3,(P2 x1 x2 x3)->C):C:=an h fun x1 h1=>an h1.2 fun x2 h2=>an h2 fun x3 h3=>k x1 h1.1 x2 x3 h3
theorem aM{α1 α2:Type}{P1 P2 P3:α1->α2->Prop}{C:Prop}(h:∃x1,∃x2,(P1 x1 x2)/\(P2 x1 x2)/\(P3 x1 x2))(k:∀x1,∀x2,(P1 x1 x2)->(P2 x1 x2)->(P3 x1 x2)->C):C:=an h fun x1 h1=>an h1 fun x2 h2=>k x1 x2 h2.1 h2.2.1 h2.2.2
theorem fw{α1 α2 α3:Type}{P1 P2:α1->α2->α3->Prop}{C:Prop}(h:∃x1,∃x2,∃x3,(P1 x1 x2 x3)/\(P2 x1 x2 x3))(k:∀x1,∀x2,∀x3,(P1 x1 x2 x3)->(P2 x1 x2 x3)->C):C:=an h fun x1 h1=>an h1 fun x2 h2=>an h2 fun x3 h3=>k x1 x2 x3 h3.1 h3.2
theorem uq{α1 α2 α3 α4:Type}{P1:α1->α2->α3->α4->Prop}{C:Prop}(h:∃x1,∃x2,∃x3,∃x4,(P1 x1 x2 x3 x4))(k:∀x1,∀x2,∀x3,∀x4,(P1 x1 x2 x3 x4)->C):C:=an h fun x1 h1=>an h1 fun x2 h2=>an h2 fun x3 h3=>an h3 fun x4 h4=>k x1 x2 x3 x4 h4
theorem iX{P1 P2 P3 P4 P5 P6 C:Prop}(h:P1/\P2/\P3/\P4/\P5/\P6)(k:P1->P2->P3->P4->P5->P6->C):C:=k h.1 h.2.1 h.2.2.1 h.2.2.2.1 h.2.2.2.2.1 h.2.2.2.2.2
theorem oM{α1:Type}{P1 P2 P3 P4:Prop}{P5:α1->Prop}{C:Prop}(h:P1/\P2/\P3/\P4/\∃x1,(P5 x1))(k:P1->P2->P3->P4->∀x1,(P5 x1)->C):C:=an h.2.2.2.2 fun x1 h1=>k h.1 h.2.1 h.2.2.1 h.2.2.2.1 x1 h1
theorem J2{α1 α2:Type}{P1 P2 P3:Prop}{P4:α1->α2->Prop}{C:Prop}(h:P1/\P2/\P3/\∃x1,∃x2,(P4 x1 x2))(k:P1->P2->P3->∀x1,∀x2,(P4 x1 x2)->C):C:=an h.2.2.2 fun x1 h1=>an h1 fun x2 h2=>k h.1 h.2.1 h.2.2.1 x1 x2 h2
theorem J1{α1 α2:Type}{P1 P2:Prop}{P3 P4:α1->α2->Prop}{C:Prop}(h:P1/\P2/\∃x1,∃x2,(P3 x1 x2)/\(P4 x1 x2))(k:P1->P2->∀x1,∀x2,(P3 x1 x2)->(P4 x1 x2)->C):C:=an h.2.2 fun x1 h1=>an h1 fun x2 h2=>k h.1 h.2.1 x1 x2 h2.1 h2.2
theorem J0{α1 α2:Type}{P1:Prop}{P2 P3 P4:α1->α2->Prop}{C:Prop}(h:P1/\∃x1,∃x2,(P2 x1 x2)/\(P3 x1 x2)/\(P4 x1 x2))(k:P1->∀x1,∀x2,(P2 x1 x2)->(P3 x1 x2)->(P4 x1 x2)->C):C:=an h.2 fun x1 h1=>an h1 fun x2 h2=>k h.1 x1 x2 h2.1 h2.2.1 h2.2.2
theorem JZ{α1 α2 α3:Type}{P1:Prop}{P2 P3:α1->α2->α3->Prop}{C:Prop}(h:P1/\∃x1,∃x2,∃x3,(P2 x1 x2 x3)/\(P3 x1 x2 x3))(k:P1->∀x1,∀x2,∀x3,(P2 x1 x2 x3)->(P3 x1 x2 x3)->C):C:=an h.2 fun x1 h1=>an h1 fun x2 h2=>an h2 fun x3 h3=>k h.1 x1 x2 x3 h3.1 h3.2
theorem JY{α1 α2 α3 α4:Type}{P1:Prop}{P2:α1->α2->α3->α4->Prop}{C:Prop}(h:P1/\∃x1,∃x2,∃x3,∃x4,(P2 x1 x2 x3 x4))(k:P1->∀x1,∀x2,∀x3,∀x4,(P2 x1 x2 x3 x4)->C):C:=an h.2 fun x1 h1=>an h1 fun x2 h2=>an h2 fun x3 h3=>an h3 fun x4 h4=>k h.1 x1 x2 x3 x4 h4
theorem JX{α1:Type}{P1 P2 P3 P4 P5:α1->Prop}{C:Prop}(h:∃x1,(P1 x1)/\(P2 x1)/\(P3 x1)/\(P4 x1)/\(P5 x1))(k:∀x1,(P1 x1)->(P2 x1)->(P3 x1)->(P4 x1)->(P5 x1)->C):C:=an h fun x1 h1=>k x1 h1.1 h1.2.1 h1.2.2.1 h1.2.2.2.1 h1.2.2.2.2
theorem mi{α1 α2 α3:Type}{P1 P2:α1->Prop}{P3:α1->α2->α3->Prop}{C:Prop}(h:∃x1,(P1 x1)/\(P2 x1)/\∃x2,∃x3,(P3 x1 x2 x3))(k:∀x1,(P1 x1)->(P2 x1)->∀x2,∀x3,(P3 x1 x2 x3)->C):C:=an h fun x1 h1=>an h1.2.2 fun x2 h2=>an h2 fun x3 h3=>k x1 h1.1 h1.2.1 x2 x3 h3
theorem wl{α1 α2:Type}{P1:α1->Prop}{P2 P3 P4:α1->α2->Prop}{C:Prop}(h:∃x1,(P1 x1)/\∃x2,(P2 x1 x2)/\(P3 x1 x2)/\(P4 x1 x2))(k:∀x1,(P1 x1)->∀x2,(P2 x1 x2)->(P3 x1 x2)->(P4 x1 x2)->C):C:=an h fun x1 h1=>an h1.2 fun x2 h2=>k x1 h1.1 x2 h2.1 h2.2.1 h2.2.2
theorem wj{α1 α2 α3 α4:Type}{P1:α1->Prop}{P2:α1->α2->α3->α4->Prop}{C:Prop}(h:∃x1,(P1 x1)/\∃x2,∃x3,∃x4,(P2 x1 x2 x3 x4))(k:∀x1,(P1 x1)->∀x2,∀x3,∀x4,(P2 x1 x2 x3 x4)->C):C:=an h fun x1 h1=>an h1.2 fun x2 h2=>an h2 fun x3 h3=>an h3 fun x4 h4=>k x1 h1.1 x2 x3 x4 h4
theorem bB{α1 α2:Type}{P1 P2 P3 P4:α1->α2->Prop}{C:Prop}(h:∃x1,∃x2,(P1 x1 x2)/\(P2 x1 x2)/\(P3 x1 x2)/\(P4 x1 x2))(k:∀x1,∀x2,(P1 x1 x2)->(P2 x1 x2)->(P3 x1 x2)->(P4 x1 x2)->C):C:=an h fun x1 h1=>an h1 fun x2 h2=>k x1 x2 h2.1 h2.2.1 h2.2.2.1 h2.2.2.2
theorem bl{α1 α2 α3:Type}{P1 P2 P3:α1->α2->α3->Prop}{C:Prop}(h:∃x1,∃x2,∃x3,(P1 x1 x2 x3)/\(P2 x1 x2 x3)/\(P3 x1 x2 x3))(k:∀x1,∀x2,∀x3,(P1 x1 x2 x3)->(P2 x1 x2 x3)->(P3 x1 x2 x3)->C):C:=an h fun x1 h1=>an h1 fun x2 h2=>an h2 fun x3 h3=>k x1 x2 x3 h3.1 h3.2.1 h3.2.2
theorem d1{α1 α2 α3 α4:Type}{P1 P2:α1->α2->α3->α4->Prop}{C:Prop}(h:∃x1,∃x2,∃x3,∃x4,(P1 x1 x2 x3 x4)/\(P2 x1 x2 x3 x4))(k:∀x1,∀x2,∀x3,∀x4,(P1 x1 x2 x3 x4)->(P2 x1 x2 x3 x4)->C):C:=an h fun x1 h1=>an h1 fun x2 h2=>an h2 fun x3 h3=>an h3 fun x4 h4=>k x1 x2 x3 x4 h4.1 h4.2
theorem ei{α1 α2 α3 α4 α5:Type}{P1:α1->α2->α3->α4->α5->Prop}{C:Prop}(h:∃x1,∃x2,∃x3,∃x4,∃x5,(P1 x1 x2 x3 x4 x5))(k:∀x1,∀x2,∀x3,∀x4,∀x5,(P1 x1 x2 x3 x4 x5)->C):C:=an h fun x1 h1=>an h1 fun x2 h2=>an h2 fun x3 h3=>an h3 fun x4 h4=>an h4 fun x5 h5=>k x1 x2 x3 x4 x5 h5
theorem Hi{α1 α2:Type}{P1 P2 P3:Prop}{P4 P5:α1->α2->Prop}{C:Prop}(h:P1/\P2/\P3/\∃x1,∃x2,(P4 x1 x2)/\(P5 x1 x2))(k:P1->P2->P3->∀x1,∀x2,(P4 x1 x2)->(P5 x1 x2)->C):C:=an h.2.2.2 fun x1 h1=>an h1 fun x2 h2=>k h.1 h.2.1 h.2.2.1 x1 x2 h2.1 h2.2
theorem sN{α1 α2:Type}{P1 P2:Prop}{P3 P4 P5:α1->α2->Prop}{C:Prop}(h:P1/\P2/\∃x1,∃x2,(P3 x1 x2)/\(P4 x1 x2)/\(P5 x1 x2))(k:P1->P2->∀x1,∀x2,(P3 x1 x2)->(P4 x1 x2)->(P5 x1 x2)->C):C:=an h.2.2 fun x1 h1=>an h1 fun x2 h2=>k h.1 h.2.1 x1 x2 h2.1 h2.2.1 h2.2.2
theorem Hh{α1 α2:Type}{P1:Prop}{P2 P3 P4 P5:α1->α2->Prop}{C:Prop}(h:P1/\∃x1,∃x2,(P2 x1 x2)/\(P3 x1 x2)/\(P4 x1 x2)/\(P5 x1 x2))(k:P1->∀x1,∀x2,(P2 x1 x2)->(P3 x1 x2)->(P4 x1 x2)->(P5 x1 x2)->C):C:=an h.2 fun x1 h1=>an h1 fun x2 h2=>k h.1 x1 x2 h2.1 h2.2.1 h2.2.2.1 h2.2.2.2
theorem pD{α1 α2:Type}{P1 P2 P3 P4 P5:α1->α2->Prop}{C:Prop}(h:∃x1,∃x2,(P1 x1 x2)/\(P2 x1 x2)/\(P3 x1 x2)/\(P4 x1 x2)/\(P5 x1 x2))(k:∀x1,∀x2,(P1 x1 x2)->(P2 x1 x2)->(P3 x1 x2)->(P4 x1 x2)->(P5 x1 x2)->C):C:=an h fun x1 h1=>an h1 fun x2 h2=>k x1 x2 h2.1 h2.2.1 h2.2.2.1 h2.2.2.2.1 h2.2.2.2.2
theorem Hg{α1 α2 α3:Type}{P1:α1->α2->Prop}{P2 P3 P4:α1->α2->α3->Prop}{C:Prop}(h:∃x1,∃x2,(P1 x1 x2)/\∃x3,(P2 x1 x2 x3)/\(P3 x1 x2 x3)/\(P4 x1 x2 x3))(k:∀x1,∀x2,(P1 x1 x2)->∀x3,(P2 x1 x2 x3)->(P3 x1 x2 x3)->(P4 x1 x2 x3)->C):C:=an h fun x1 h1=>an h1 fun x2 h2=>an h2.2 fun x3 h3=>k x1 x2 h2.1 x3 h3.1 h3.2.1 h3.2.2
theorem eB{α1 α2 α3:Type}{P1 P2 P3 P4:α1->α2->α3->Prop}{C:Prop}(h:∃x1,∃x2,∃x3,(P1 x1 x2 x3)/\(P2 x1 x2 x3)/\(P3 x1 x2 x3)/\(P4 x1 x2 x3))(k:∀x1,∀x2,∀x3,(P1 x1 x2 x3)->(P2 x1 x2 x3)->(P3 x1 x2 x3)->(P4 x1 x2 x3)->C):C:=an h fun x1 h1=>an h1 fun x2 h2=>an h2 fun x3 h3=>k x1 x2 x3 h3.1 h3.2.1 h3.2.2.1 h3.2.2.2
theorem fD{α1 α2 α3 α4:Type}{P1 P2 P3:α1->α2->α3->α4->Prop}{C:Prop}(h:∃x1,∃x2,∃x3,∃x4,(P1 x1 x2 x3 x4)/\(P2 x1 x2 x3 x4)/\(P3 x1 x2 x3 x4))(k:∀x1,∀x2,∀x3,∀x4,(P1 x1 x2 x3 x4)->(P2 x1 x2 x3 x4)->(P3 x1 x2 x3 x4)->C):C:=an h fun x1 h1=>an h1 fun x2 h2=>an h2 fun x3 h3=>an h3 fun x4 h4=>k x1 x2 x3 x4 h4.1 h4.2.1 h4.2.2
theorem pC{α1 α2 α3 α4 α5:Type}{P1 P2:α1->α2->α3->α4->α5->Prop}{C:Prop}(h:∃x1,∃x2,∃x3,∃x4,∃x5,(P1 x1 x2 x3 x4 x5)/\(P2 x1 x2 x3 x4 x5))(k:∀x1,∀x2,∀x3,∀x4,∀x5,(P1 x1 x2 x3 x4 x5)->(P2 x1 x2 x3 x4 x5)->C):C:=an h fun x1 h1=>an h1 fun x2 h2=>an h2 fun x3 h3=>an h3 fun x4 h4=>an h4 fun x5 h5=>k x1 x2 x3 x4 x5 h5.1 h5.2
theorem Hf{α1 α2 α3 α4 α5 α6:Type}{P1:α1->α2->α3->α4->α5->α6->Prop}{C:Prop}(h:∃x1,∃x2,∃x3,∃x4,∃x5,∃x6,(P1 x1 x2 x3 x4 x5 x6))(k:∀x1,∀x2,∀x3,∀x4,∀x5,∀x6,(P1 x1 x2 x3 x4 x5 x6)->C):C:=an h fun x1 h1=>an h1 fun x2 h2=>an h2 fun x3 h3=>an h3 fun x4 h4=>an h4 fun x5 h5=>an h5 fun x6 h6=>k x1 x2 x3 x4 x5 x6 h6
theorem DO{P1 P2 P3 P4 P5 P6 P7 P8 C:Prop}(h:P1/\P2/\P3/\P4/\P5/\P6/\P7/\P8)(k:P1->P2->P3->P4->P5->P6->P7->P8->C):C:=k h.1 h.2.1 h.2.2.1 h.2.2.2.1 h.2.2.2.2.1 h.2.2.2.2.2.1 h.2.2.2.2.2.2.1 h.2.2.2.2.2.2.2
theorem gz{α1 α2:Type}{P1:Prop}{P2 P3 P4 P5 P6:α1->α2->Prop}{C:Prop}(h:P1/\∃x1,∃x2,(P2 x1 x2)/\(P3 x1 x2)/\(P4 x1 x2)/\(P5 x1 x2)/\(P6 x1 x2))(k:P1->∀x1,∀x2,(P2 x1 x2)->(P3 x1 x2)->(P4 x1 x2)->(P5 x1 x2)->(P6 x1 x2)->C):C:=an h.2 fun x1 h1=>an h1 fun x2 h2=>k h.1 x1 x2 h2.1 h2.2.1 h2.2.2.1 h2.2.2.2.1 h2.2.2.2.2
theorem DN{α1 α2 α3:Type}{P1 P2:α1->Prop}{P3 P4 P5:α1->α2->α3->Prop}{C:Prop}(h:∃x1,(P1 x1)/\(P2 x1)/\∃x2,∃x3,(P3 x1 x2 x3)/\(P4 x1 x2 x3)/\(P5 x1 x2 x3))(k:∀x1,(P1 x1)->(P2 x1)->∀x2,∀x3,(P3 x1 x2 x3)->(P4 x1 x2 x3)->(P5 x1 x2 x3)->C):C:=an h fun x1 h1=>an h1.2.2 fun x2 h2=>an h2 fun x3 h3=>k x1 h1.1 h1.2.1 x2 x3 h3.1 h3.2.1 h3.2.2
theorem wk{α1 α2:Type}{P1:α1->Prop}{P2 P3 P4 P5 P6:α1->α2->Prop}{C:Prop}(h:∃x1,(P1 x1)/\∃x2,(P2 x1 x2)/\(P3 x1 x2)/\(P4 x1 x2)/\(P5 x1 x2)/\(P6 x1 x2))(k:∀x1,(P1 x1)->∀x2,(P2 x1 x2)->(P3 x1 x2)->(P4 x1 x2)->(P5 x1 x2)->(P6 x1 x2)->C):C:=an h fun x1 h1=>an h1.2 fun x2 h2=>k x1 h1.1 x2 h2.1 h2.2.1 h2.2.2.1 h2.2.2.2.1 h2.2.2.2.2
theorem wi{α1 α2:Type}{P1 P2 P3 P4 P5 P6:α1->α2->Prop}{C:Prop}(h:∃x1,∃x2,(P1 x1 x2)/\(P2 x1 x2)/\(P3 x1 x2)/\(P4 x1 x2)/\(P5 x1 x2)/\(P6 x1 x2))(k:∀x1,∀x2,(P1 x1 x2)->(P2 x1 x2)->(P3 x1 x2)->(P4 x1 x2)->(P5 x1 x2)->(P6 x1 x2)->C):C:=an h fun x1 h1=>an h1 fun x2 h2=>k x1 x2 h2.1 h2.2.1 h2.2.2.1 h2.2.2.2.1 h2.2.2.2.2.1 h2.2.2.2.2.2
theorem qB{α1 α2 α3:Type}{P1 P2:α1->α2->Prop}{P3 P4 P5:α1->α2->α3->Prop}{C:Prop}(h:∃x1,∃x2,(P1 x1 x2)/\(P2 x1 x2)/\∃x3,(P3 x1 x2 x3)/\(P4 x1 x2 x3)/\(P5 x1 x2 x3))(k:∀x1,∀x2,(P1 x1 x2)->(P2 x1 x2)->∀x3,(P3 x1 x2 x3)->(P4 x1 x2 x3)->(P5 x1 x2 x3)->C):C:=an h fun x1 h1=>an h1 fun x2 h2=>an h2.2.2 fun x3 h3=>k x1 x2 h2.1 h2.2.1 x3 h3.1 h3.2.1 h3.2.2
theorem bU{α1 α2 α3:Type}{P1 P2 P3 P4 P5:α1->α2->α3->Prop}{C:Prop}(h:∃x1,∃x2,∃x3,(P1 x1 x2 x3)/\(P2 x1 x2 x3)/\(P3 x1 x2 x3)/\(P4 x1 x2 x3)/\(P5 x1 x2 x3))(k:∀x1,∀x2,∀x3,(P1 x1 x2 x3)->(P2 x1 x2 x3)->(P3 x1 x2 x3)->(P4 x1 x2 x3)->(P5 x1 x2 x3)->C):C:=an h fun x1 h1=>an h1 fun x2 h2=>an h2 fun x3 h3=>k x1 x2 x3 h3.1 h3.2.1 h3.2.2.1 h3.2.2.2.1 h3.2.2.2.2
theorem d9{α1 α2 α3 α4:Type}{P1 P2 P3 P4:α1->α2->α3->α4->Prop}{C:Prop}(h:∃x1,∃x2,∃x3,∃x4,(P1 x1 x2 x3 x4)/\(P2 x1 x2 x3 x4)/\(P3 x1 x2 x3 x4)/\(P4 x1 x2 x3 x4))(k:∀x1,∀x2,∀x3,∀x4,(P1 x1 x2 x3 x4)->(P2 x1 x2 x3 x4)->(P3 x1 x2 x3 x4)->(P4 x1 x2 x3 x4)->C):C:=an h fun x1 h1=>an h1 fun x2 h2=>an h2 fun x3 h3=>an h3 fun x4 h4=>k x1 x2 x3 x4 h4.1 h4.2.1 h4.2.2.1 h4.2.2.2
theorem DM{α1 α2 α3 α4 α5 α6 α7:Type}{P1:α1->α2->α3->α4->α5->α6->α7->Prop}{C:Prop}(h:∃x1,∃x2,∃x3,∃x4,∃x5,∃x6,∃x7,(P1 x1 x2 x3 x4 x5 x6 x7))(k:∀x1,∀x2,∀x3,∀x4,∀x5,∀x6,∀x7,(P1 x1 x2 x3 x4 x5 x6 x7)->C):C:=an h fun x1 h1=>an h1 fun x2 h2=>an h2 fun x3 h3=>an h3 fun x4 h4=>an h4 fun x5 h5=>an h5 fun x6 h6=>an h6 fun x7 h7=>k x1 x2 x3 x4 x5 x6 x7 h7
theorem iE{α1 α2 α3 α4:Type}{P1 P2 P3 P4 P5:α1->α2->α3->α4->Prop}{C:Prop}(h:∃x1,∃x2,∃x3,∃x4,(P1 x1 x2 x3 x4)/\(P2 x1 x2 x3 x4)/\(P3 x1 x2 x3 x4)/\(P4 x1 x2 x3 x4)/\(P5 x1 x2 x3 x4))(k:∀x1,∀x2,∀x3,∀x4,(P1 x1 x2 x3 x4)->(P2 x1 x2 x3 x4)->(P3 x1 x2 x3 x4)->(P4 x1 x2 x3 x4)->(P5 x1 x2 x3 x4)->C):C:=an h fun x1 h1=>an h1 fun x2 h2=>an h2 fun x3 h3=>an h3 fun x4 h4=>k x1 x2 x3 x4 h4.1 h4.2.1 h4.2.2.1 h4.2.2.2.1 h4.2.2.2.2
theorem eY{α1 α2 α3:Type}{P1 P2 P3 P4 P5 P6 P7:α1->α2->α3->Prop}{C:Prop}(h:∃x1,∃x2,∃x3,(P1 x1 x2 x3)/\(P2 x1 x2 x3)/\(P3 x1 x2 x3)/\(P4 x1 x2 x3)/\(P5 x1 x2 x3)/\(P6 x1 x2 x3)/\(P7 x1 x2 x3))(k:∀x1,∀x2,∀x3,(P1 x1 x2 x3)->(P2 x1 x2 x3)->(P3 x1 x2 x3)->(P4 x1 x2 x3)->(P5 x1 x2 x3)->(P6 x1 x2 x3)->(P7 x1 x2 x3)->C):C:=an h fun x1 h1=>an h1 fun x2 h2=>an h2 fun x3 h3=>k x1 x2 x3 h3.1 h3.2.1 h3.2.2.1 h3.2.2.2.1 h3.2.2.2.2.1 h3.2.2.2.2.2.1 h3.2.2.2.2.2.2
theorem bE{α1 α2 α3 α4:Type}{P1 P2 P3 P4 P5 P6:α1->α2->α3->α4->Prop}{C:Prop}(h:∃x1,∃x2,∃x3,∃x4,(P1 x1 x2 x3 x4)/\(P2 x1 x2 x3 x4)/\(P3 x1 x2 x3 x4)/\(P4 x1 x2 x3 x4)/\(P5 x1 x2 x3 x4)/\(P6 x1 x2 x3 x4))(k:∀x1,∀x2,∀x3,∀x4,(P1 x1 x2 x3 x4)->(P2 x1 x2 x3 x4)->(P3 x1 x2 x3 x4)->(P4 x1 x2 x3 x4)->(P5 x1 x2 x3 x4)->(P6 x1 x2 x3 x4)->C):C:=an h fun x1 h1=>an h1 fun x2 h2=>an h2 fun x3 h3=>an h3 fun x4 h4=>k x1 x2 x3 x4 h4.1 h4.2.1 h4.2.2.1 h4.2.2.2.1 h4.2.2.2.2.1 h4.2.2.2.2.2
theorem bq{α1:Type}{P1 P2:α1->Prop}(x1:α1)(h1:P1 x1)(h2:P2 x1):∃x1,(P1 x1)/\(P2 x1):=⟨x1,h1,h2⟩
theorem jN{α1 α2:Type}{P1 P2:α1->α2->Prop}(x1:α1)(x2:α2)(h2:P1 x1 x2)(h3:P2 x1 x2):∃x1,∃x2,(P1 x1 x2)/\(P2 x1 x2):=⟨x1,x2,h2,h3⟩
theorem oW{α1 α2 α3:Type}{P1 P2:α1->α2->α3->Prop}(x1:α1)(x2:α2)(x3:α3)(h3:P1 x1 x2 x3)(h4:P2 x1 x2 x3):∃x1,∃x2,∃x3,(P1 x1 x2 x3)/\(P2 x1 x2 x3):=⟨x1,x2,x3,h3,h4⟩
theorem jR{P1 P2 P3:Prop}(h0:P1)(h1:P2)(h2:P3):(P1)/\(P2)/\(P3):=⟨h0,h1,h2⟩
theorem oX{P1 P2 P3 P4:Prop}(h0:P1)(h1:P2)(h2:P3)(h3:P4):(P1)/\(P2)/\(P3)/\(P4):=⟨h0,jR h1 h2 h3⟩
theorem ZF{α1:Type}{P1 P2:Prop}{P3:α1->Prop}(h0:P1)(h1:P2)(x1:α1)(h3:P3 x1):(P1)/\(P2)/\∃x1,(P3 x1):=⟨h0,h1,x1,h3⟩
theorem cB{α1:Type}{P1 P2 P3:α1->Prop}(x1:α1)(h1:P1 x1)(h2:P2 x1)(h3:P3 x1):∃x1,(P1 x1)/\(P2 x1)/\(P3 x1):=⟨x1,jR h1 h2 h3⟩
theorem nB{α1:Type}{P1:Prop}{P2 P3 P4:α1->Prop}(h0:P1)(x1:α1)(h2:P2 x1)(h3:P3 x1)(h4:P4 x1):(P1)/\∃x1,(P2 x1)/\(P3 x1)/\(P4 x1):=⟨h0,cB x1 h2 h3 h4⟩
theorem qc{α1:Type}{P1 P2 P3 P4:α1->Prop}(x1:α1)(h1:P1 x1)(h2:P2 x1)(h3:P3 x1)(h4:P4 x1):∃x1,(P1 x1)/\(P2 x1)/\(P3 x1)/\(P4 x1):=⟨x1,oX h1 h2 h3 h4⟩
theorem dI{α1 α2:Type}{P1 P2:α1->Prop}{P3:α1->α2->Prop}(x1:α1)(h1:P1 x1)(h2:P2 x1)(x2:α2)(h4:P3 x1 x2):∃x1,(P1 x1)/\(P2 x1)/\∃x2,(P3 x1 x2):=⟨x1,ZF h1 h2 x2 h4⟩
theorem bO{α1 α2:Type}{P1 P2 P3:α1->α2->Prop}(x1:α1)(x2:α2)(h2:P1 x1 x2)(h3:P2 x1 x2)(h4:P3 x1 x2):∃x1,∃x2,(P1 x1 x2)/\(P2 x1 x2)/\(P3 x1 x2):=⟨x1,cB x2 h2 h3 h4⟩
theorem du{α1 α2:Type}{P1 P2 P3 P4:α1->α2->Prop}(x1:α1)(x2:α2)(h2:P1 x1 x2)(h3:P2 x1 x2)(h4:P3 x1 x2)(h5:P4 x1 x2):∃x1,∃x2,(P1 x1 x2)/\(P2 x1 x2)/\(P3 x1 x2)/\(P4 x1 x2):=⟨x1,qc x2 h2 h3 h4 h5⟩
theorem i0{α1 α2 α3:Type}{P1 P2 P3:α1->α2->α3->Prop}(x1:α1)(x2:α2)(x3:α3)(h3:P1 x1 x2 x3)(h4:P2 x1 x2 x3)(h5:P3 x1 x2 x3):∃x1,∃x2,∃x3,(P1 x1 x2 x3)/\(P2 x1 x2 x3)/\(P3 x1 x2 x3):=⟨x1,bO x2 x3 h3 h4 h5⟩
theorem ez{α1 α2 α3:Type}{P1 P2 P3 P4:α1->α2->α3->Prop}(x1:α1)(x2:α2)(x3:α3)(h3:P1 x1 x2 x3)(h4:P2 x1 x2 x3)(h5:P3 x1 x2 x3)(h6:P4 x1 x2 x3):∃x1,∃x2,∃x3,(P1 x1 x2 x3)/\(P2 x1 x2 x3)/\(P3 x1 x2 x3)/\(P4 x1 x2 x3):=⟨x1,du x2 x3 h3 h4 h5 h6⟩
theorem kh{α1 α2 α3 α4:Type}{P1 P2 P3:α1->α2->α3->α4->Prop}(x1:α1)(x2:α2)(x3:α3)(x4:α4)(h4:P1 x1 x2 x3 x4)(h5:P2 x1 x2 x3 x4)(h6:P3 x1 x2 x3 x4):∃x1,∃x2,∃x3,∃x4,(P1 x1 x2 x3 x4)/\(P2 x1 x2 x3 x4)/\(P3 x1 x2 x3 x4):=⟨x1,i0 x2 x3 x4 h4 h5 h6⟩
theorem cZ{α1 α2 α3:Type}{P1 P2 P3 P4 P5:α1->α2->α3->Prop}(x1:α1)(x2:α2)(x3:α3)(h3:P1 x1 x2 x3)(h4:P2 x1 x2 x3)(h5:P3 x1 x2 x3)(h6:P4 x1 x2 x3)(h7:P5 x1 x2 x3):∃x1,∃x2,∃x3,(P1 x1 x2 x3)/\(P2 x1 x2 x3)/\(P3 x1 x2 x3)/\(P4 x1 x2 x3)/\(P5 x1 x2 x3):=⟨x1,x2,x3,h3,h4,h5,h6,h7⟩
theorem fF{α1 α2 α3 α4:Type}{P1 P2 P3 P4:α1->α2->α3->α4->Prop}(x1:α1)(x2:α2)(x3:α3)(x4:α4)(h4:P1 x1 x2 x3 x4)(h5:P2 x1 x2 x3 x4)(h6:P3 x1 x2 x3 x4)(h7:P4 x1 x2 x3 x4):∃x1,∃x2,∃x3,∃x4,(P1 x1 x2 x3 x4)/\(P2 x1 x2 x3 x4)/\(P3 x1 x2 x3 x4)/\(P4 x1 x2 x3 x4):=⟨x1,ez x2 x3 x4 h4 h5 h6 h7⟩
theorem jv{α1 α2 α3 α4:Type}{P1 P2 P3 P4 P5:α1->α2->α3->α4->Prop}(x1:α1)(x2:α2)(x3:α3)(x4:α4)(h4:P1 x1 x2 x3 x4)(h5:P2 x1 x2 x3 x4)(h6:P3 x1 x2 x3 x4)(h7:P4 x1 x2 x3 x4)(h8:P5 x1 x2 x3 x4):∃x1,∃x2,∃x3,∃x4,(P1 x1 x2 x3 x4)/\(P2 x1 x2 x3 x4)/\(P3 x1 x2 x3 x4)/\(P4 x1 x2 x3 x4)/\(P5 x1 x2 x3 x4):=⟨x1,cZ x2 x3 x4 h4 h5 h6 h7 h8⟩
theorem cJ{α1 α2 α3 α4:Type}{P1 P2 P3 P4 P5 P6:α1->α2->α3->α4->Prop}(x1:α1)(x2:α2)(x3:α3)(x4:α4)(h4:P1 x1 x2 x3 x4)(h5:P2 x1 x2 x3 x4)(h6:P3 x1 x2 x3 x4)(h7:P4 x1 x2 x3 x4)(h8:P5 x1 x2 x3 x4)(h9:P6 x1 x2 x3 x4):∃x1,∃x2,∃x3,∃x4,(P1 x1 x2 x3 x4)/\(P2 x1 x2 x3 x4)/\(P3 x1 x2 x3 x4)/\(P4 x1 x2 x3 x4)/\(P5 x1 x2 x3 x4)/\(P6 x1 x2 x3 x4):=⟨x1,x2,x3,x4,h4,h5,h6,h7,h8,h9⟩
theorem jd(h:a<=b)(k:gV b c=ai):a<=c:=ae h (aj k)
theorem xh(h:a<b)(k:gV b (c+1)=ai):a<=c:=tK (dt h (aj k))
theorem Ph(h:¬b<a)(k:gV b c=ai):a<=c:=jd (b7 h) k
theorem GA(h:a<=b)(k:gV (b+1) c=ai):a<c:=dt (KD h) (aj k)
theorem IY(h:a<b)(k:gV b c=ai):a<c:=dt h (aj k)
theorem EY{a b c:Int}(h:a<=b)(k:decide (b<=c)=ai):a<=c:=ba h (of_decide_eq_true k)
theorem GY{a b c:Int}(h:a<b)(k:decide (b<=c)=ai):a<c:=eO h (of_decide_eq_true k)
theorem Qp{a b c:Int}(h:a<=b)(k:decide (b<c)=ai):a<c:=f8 h (of_decide_eq_true k)
theorem UL{a b c:Int}(h:b<=a)(k:decide (c<=b)=ai):c<=a:=ba (of_decide_eq_true k) h
theorem YW{n:Nat}{c:Int}(k:decide (c<=0)=ai):c<=(n:Int):=ba (of_decide_eq_true k) (cb n)
theorem UN{n b:Nat}{c:Int}(h:n<b)(k:decide ((b:Int)<=c)=ai):(n:Int)<c:=eO (d5.mpr h) (of_decide_eq_true k)
theorem GZ{n b:Nat}{c:Int}(h:n<=b)(k:decide ((b:Int)<=c)=ai):(n:Int)<=c:=ba (gX.mpr h) (of_decide_eq_true k)
theorem ip{n:Nat}(h:0<n):(0:Int)<(n:Int):=o3.mpr h
theorem IV{a A b d:Nat}(h0:a<=A)(h1:b<=a+d):b<=A+d:=ae h1 (FG h0 _)
theorem Mb{a A b d:Int}(h0:a<=A)(h1:b<=a+d):b<=A+d:=ba h1 (d8 h0 _)
theorem Pi{a b c d:Nat}(h:a+b<c)(k:gV d b=ai):a+d<c:=bJ (bn (aj k) _) h
theorem LH(h:a+m*(b+1)<c)(k:gV d m=ai):a+d+m*b<c:=bJ (by rw[Nat.mul_succ,Rm,RL d];exact bn (bn (aj k) _) _) h
theorem Lq{a:Int}{n:Nat}(h:a<n)(k:0<n):a.toNat<n:=(by cases a with|ofNat m=>exact d5.mp h|negSucc m=>exact k)
theorem LR{a b:Int}(h0:0<=a)(h1:a<=b)(k:decide (b.natAbs<c)=ai):a.natAbs<c:=bJ (by cases a with|ofNat m=>(cases b with|ofNat n=>exact gX.mp h1|negSucc n=>exact absurd (ba h0 h1) (r0.mpr (qL n)))|negSucc m=>exact absurd h0 (r0.mpr (qL m))) (of_decide_eq_true k)
theorem om0(h0:x0<=1000):x0+1<=16777216+1:=b6 (jd h0 rfl)
theorem om1(h0:x0=1)(h1:x1+4*(x2+1)<900):x1+x0+4*x2<900:=by subst h0;exact LH h1 rfl
theorem om2(h0:x0=1)(h1:x1+20*(x2+1)<9000):x1+x0+20*x2<9000:=by subst h0;exact LH h1 rfl
theorem om3(h0:x0+20*x1<9000):x0+100<9900:=Nat.add_lt_add_of_lt_of_le (bJ (cg _ _) (dt h0 (by decide:9000<=9800))) (aI 100)
theorem ZZ(h0:x0+100<x1):x0+64<x1:=Pi h0 rfl
theorem ZY(h0:x0+100<x1):x0+1+64<x1:=(Pi (d:=65) h0 rfl:x0+65<x1)
theorem XT(h0:x0<x1):x1-(x0+1)<x1-x0:=Nat.sub_lt_sub_left h0 (c8 _)
theorem om8(h0:x0+4*(x1+1)<900):x0+1+4*x1<900:=LH h0 rfl
theorem om9(h0:x0+20*(x1+1)<9000):x0+3+20*x1<9000:=LH h0 rfl
theorem YK{x1:Nat}(h0:x0<x1):(↑x1:Int)-1-(↑x0:Int)=(↑(x1-1-x0):Int):=by rw[w0 (Nat.le_sub_one_of_lt h0),w0 (bJ (a7 _) h0)];rfl
theorem YJ{x0 x1:Nat}(h0:x0<x1):(↑(x1-1-x0):Int)-1=(↑x1:Int)-1-(↑(x0+1):Int):=by omega
theorem YI:(↑x0:Int)-1-(↑x0:Int)=-1:=by omega
theorem TX{x0:Nat}(h0:x0<=1000000):(↑x0:Int)<2 ^ 63:=UN (KD h0) rfl
theorem Bu(h0:x0+100<x1):x0<x1:=Pi (d:=0) h0 rfl
theorem YH{x0:Nat}(h0:x0<1000000):(↑x0:Int)<2 ^ 63-1:=UN h0 rfl
theorem YG:0<=64:=a7 _
theorem YF{x0:Int}(h0:x0≠0):x0.natAbs≠0:=fun h=>h0 (Int.natAbs_eq_zero.mp h)
theorem YE(h0:x0<=x1)(h1:x2+4*x1<900):x2+4*x0<900:=bJ (bn (dM _ h0) _) h1
theorem YD(h0:x0<=x1)(h1:x2+20*x1<9000):x2+20*x0<9000:=bJ (bn (dM _ h0) _) h1
theorem YC(h0:x0+4*x1<900):x0<1000:=IY (bJ (cg _ _) h0) rfl
theorem YB{x0:Nat}:¬(↑x0:Int)<0:=nU.mpr (cb _)
theorem Tr:2<6+x0:=dt (aj rfl) (cg 6 x0)
theorem Tq{x0 x1:Int}:x0<=x1\/x1<=x0:=Int.le_total x0 x1
theorem Tp:x0<=x0+1+1+1:=cg _ 3
theorem YA(h0:x0+1<=x1):x0<=x1:=mx h0
theorem Yz(h0:x0+1<=x1):x0<x1:=h0
theorem Yx{x0:Int}(h0:0<=x0)(h1:x0<=1000000):-9223372036854775808<=x0/\x0<9223372036854775808:=⟨UL h0 rfl,Qp h1 rfl⟩
theorem Yw(h0:x0+(x1+1)<x2):x0<x2:=bJ (cg _ _) h0
theorem Yv(h0:x0+(x1+1)<x2):x0+1+x1<x2:=bJ (bv (f7 x0 1 x1)) h0
theorem Yu{x3:Nat}(h0:x0+max x1 x2<x3):x0+x1<x3:=bJ (bn (Nat.le_max_left _ _) _) h0
theorem Yt{x3:Nat}(h0:x0+max x1 x2<x3):x0+x2<x3:=bJ (bn (Nat.le_max_right _ _) _) h0
theorem Ys(h0:x0<=60)(h1:x1+100<x2):x1+1+x0<x2:=bJ (by rw[Rm];exact bn (ae (bn h0 1) (by decide)) x1) h1
theorem Yr{x1:Int}(h0:x0<x1.toNat):0<(↑x1.toNat:Int)-(↑x0:Int):=Int.sub_pos_of_lt (d5.mpr h0)
theorem Yq{x0:Nat}:(0<=-1+((↑x0:Int)+1)/\-1+((↑x0:Int)+1)<(↑x0:Int)+1)/\(-1+((↑x0:Int)+1)).toNat=x0:=(show(0<=-1+((x0+1:Nat):Int)/\-1+((x0+1:Nat):Int)<((x0+1:Nat):Int))/\(-1+((x0+1:Nat):Int)).toNat=x0 from by rw[show -1+((x0+1:Nat):Int)=(x0:Int) from by rw[w1,RP,mG];exact CT _];exact⟨⟨cb x0,d5.mpr (c8 x0)⟩,rfl⟩)
theorem Yp(h0:x0<=100)(h1:x1<x0)(h2:x2<=3*x1):x2<=300:=jd (ae h2 (dM 3 (ae (b8 h1) h0))) rfl
theorem Yo(h0:x0<=300)(h1:x1<=x0+1):x1<=1000000:=jd (IV h0 h1) rfl
theorem Yn(h0:x0<=3*x1)(h1:x2<=x0+1)(h2:x3<=x2+1)(h3:x4<=x3+1):x4<=3*(x1+1):=ae h3 (b6 (ae h2 (b6 (ae h1 (b6 h0)))))
theorem Ym(h0:x0<=300)(h1:x1<=x0+1)(h2:x2<=x1+1):x2<=1000000:=jd (IV (IV h0 h1) h2) rfl
theorem Yl(h0:x0<=900)(h1:x1<=900)(h2:x2<x1)(h3:x3<=x0+x2):x3<=1000000:=jd (ae h3 (bX h0 (ae (b8 h2) h1))) rfl
theorem Yk(h0:x0<=x1+x2)(h1:x1<=x3+1):x0<=x3+(x2+1):=ae h0 (ae (FG h1 _) (bv (f7 x3 1 x2)))
theorem Yi{x0:Nat}(h0:0<x0):(0<=-1+(↑x0:Int)/\-1+(↑x0:Int)<(↑x0:Int))/\(-1+(↑x0:Int)).toNat=x0-1:=by cases x0 with|zero=>exact absurd h0 (mF 0)|succ n=>(rw[show -1+((n+1:Nat):Int)=(n:Int) from by rw[w1,RP,mG];exact CT _];exact⟨⟨cb n,d5.mpr (c8 n)⟩,rfl⟩)
theorem Yh(h0:x0<=900)(h1:x1<=100)(h2:x2<x1)(h3:x3<=x2)(h4:x4<=x0+x3):x4<=2000:=jd (ae h4 (bX h0 (ae h3 (ae (b8 h2) h1)))) rfl
theorem Yg(h0:x0+1<x1+1):x0<x1:=f6 h0
theorem Ye(h0:x0<=100)(h1:x1<x2)(h2:x2<=x0):x1<1000000:=IY (dt h1 (ae h2 h0)) rfl
theorem xg{x0:Int}(h0:0<x0):x0≠0:=RO h0
theorem Pf{x0:Int}(h0:0<x0)(h1:x0<=900):x0.natAbs<1073741824:=LR (tM h0) h1 rfl
theorem Yd{x0:Int}(h0:0<x0):-1000000<x0:=Int.lt_trans (of_decide_eq_true rfl) h0
theorem Yb{x0:Int}(h0:x0<=900):x0.toNat<=1000000:=Int.toNat_le.mpr (EY h0 rfl)
theorem X9{x0:Int}(h0:0<=x0)(h1:x0<=901):x0.natAbs<2 ^ 60:=LR h0 h1 rfl
theorem X8{x0:Int}(h0:x0<=900)(h1:x1<=x0.toNat):(↑x1:Int)<=901:=by omega
theorem X7{x0:Nat}:0<=(↑x0:Int)+1:=cb (x0+1)
theorem X6{x0:Int}(h0:x0<=900)(h1:x1<=x0.toNat):(↑x1:Int)+1<=901:=by cases x0 with|ofNat m=>exact d8 (ba (gX.mpr h1) h0) 1|negSucc m=>exact d8 (ba (gX.mpr h1) (show(0:Int)<=900 by decide)) 1
theorem X5{x1:Int}(h0:¬(900<x0\/x1<=0\/900<x1)):x0<=900:=b7 fun h=>h0 (.inl h)
theorem X4{x1:Int}(h0:¬(900<x0\/x1<=0\/900<x1)):0<x1:=r0.mp fun h=>h0 (.inr (.inl h))
theorem X3{x1:Int}(h0:¬(900<x0\/x1<=0\/900<x1)):x1<=900:=nU.mp fun h=>h0 (.inr (.inr h))
theorem X2{x0:Int}(h0:2<=x0):¬x0<2:=nU.mpr h0
theorem X1(h0:x0<=800)(h1:x1=x0)(h2:x2<=x1):x2<=900:=jd (ae h2 (ae (bv h1) h0)) rfl
theorem X0{x0:Int}(h0:2<=x0):0<x0:=eO (of_decide_eq_true rfl) h0
theorem XZ(h0:x0<=800)(h1:x1<=x0+1):x1<=900:=jd (IV h0 h1) rfl
theorem XY(h0:x0<=800)(h1:x1<=x0+1)(h2:x2<=x1+1):x2<=900:=jd (IV (IV h0 h1) h2) rfl
theorem XX{x0:Nat}(h0:¬0<(↑x0:Int)):Int.toNat 0=x0:=(Nat.eq_zero_of_not_pos fun h=>h0 (d5.mpr h)).symm
theorem To{x0:Int}:x0<=x0+1:=Int.le_add_of_nonneg_right (of_decide_eq_true rfl)
theorem Tn{x0:Int}(h0:0<x0)(h1:x0<=1000):x0.natAbs<1073741824:=LR (tM h0) h1 rfl
theorem XW{x0:Int}(h0:0<=x0)(h1:x0<=1000):x0.natAbs<2 ^ 60:=LR h0 h1 rfl
theorem XV(h0:0<(↑x0:Int)):(↑x0:Int)≠0:=RO h0
theorem XU{x0:Nat}{x1:Int}(h0:0<(↑x0:Int))(h1:x1<(↑x0:Int)):x1.toNat<x0:=Lq h1 (o3.mp h0)
theorem XS{x0:Nat}{x1:Int}(h0:x0<=63)(h1:x1<(↑x0:Int)):x1<2 ^ 63:=eO h1 (GZ h0 rfl)
theorem XR{x0:Int}{x1:Nat}(h0:0<=x0)(h1:¬x0>=(↑x1:Int)):x0.toNat<x1:=(Int.toNat_lt h0).mpr (r0.mp h1)
theorem Tm{x0:Int}(h0:x0<=1000):x0<2 ^ 63:=Qp h0 rfl
theorem XQ{x0:Int}(h0:¬x0<0):0<=x0:=nU.mp h0
theorem XO(h0:x0+1<=900)(h1:x1<=900)(h2:x2<=x0):x2+1+x1<=1000000:=jd (bX (ae (b6 h2) h0) h1) rfl
theorem XN(h0:¬800<x0)(h1:x1<=x0+1):x1<=1000000:=jd (IV (b7 h0) h1) rfl
theorem XM(h0:x0<=2*x1)(h1:x2<=2):x0+x2<=2*(x1+1):=bX h0 h1
theorem XK{x0:Nat}:¬1=(↑x0:Int)+1+1+1/\¬2=(↑x0:Int)+1+1+1:=by omega
theorem XJ{x0:Nat}(h0:2<x0):(↑x0:Int)>2:=(d5.mpr h0:((2:Nat):Int)<x0)
theorem XI{x0:Nat}(h0:¬2<x0):¬(↑x0:Int)>2:=fun h=>h0 (d5.mp (h:((2:Nat):Int)<x0))
theorem XH(h0:x0<=x1)(h1:x1<=2000)(h2:x2<=1):x0+x2<=1000000:=jd (bX (ae h0 h1) h2) rfl
theorem XG{x0 x1:Int}(h0:x0<=500)(h1:x1<=x0+1):x1<=1000:=EY (Mb h0 h1) rfl
theorem XD{x0 x1 x2:Int}(h0:x0<=500)(h1:x1<=x0+1)(h2:x2<=x1+1):x2<=1000:=EY (Mb (Mb h0 h1) h2) rfl
theorem XC{x0:Nat}{x1:Int}(h0:0<x0)(h1:x1<(↑x0:Int)):x1.toNat<x0:=Lq h1 h0
theorem XB{x0:Nat}{x1:Int}(h0:x0<=60)(h1:x1<(↑x0:Int)):x1<2 ^ 63:=eO h1 (GZ h0 rfl)
theorem Pe{x0:Int}(h0:0<=x0):x0=(↑x0.toNat:Int):=(Int.toNat_of_nonneg h0).symm
theorem XA{x0:Int}(h0:x0<7):x0.toNat<7:=Lq (n:=7) h0 (ji _)
theorem Tl{x0:Int}(h0:x0<6):x0.toNat<6:=Lq (n:=6) h0 (ji _)
theorem Xz{x0:Nat}:-2 ^ 63<=(↑x0:Int):=YW rfl
theorem Xy{x0:Nat}(h0:x0<7):(↑x0:Int)<2 ^ 63:=UN h0 rfl
theorem Tk{x0:Nat}(h0:(↑x0:Int)=6):x0=6:=Ro.mp h0
theorem Xx{x0:Nat}(h0:¬x0=6):(↑x0:Int)≠6:=fun h=>h0 (Ro.mp h)
theorem Xw{x0:Nat}:-2 ^ 63<=(↑x0:Int)-1:=ba (of_decide_eq_true rfl:-2 ^ 63<=(0:Int)-1) (Int.sub_le_sub_right (cb _) 1)
theorem Xv{x0:Nat}(h0:x0<6):(↑x0:Int)-1<2 ^ 63:=f8 (Int.sub_le_self _ (of_decide_eq_true rfl)) (UN h0 rfl)
theorem Tj(h0:x0<6):x0-1<5:=by cases x0 with|zero=>exact Nat.zero_lt_succ _|succ n=>exact f6 h0
theorem Xu{x0:Nat}(h0:(↑x0:Int)>0):x0≠0:=Nat.pos_iff_ne_zero.mp (o3.mp h0)
theorem Xs{x0:Nat}(h0:¬x0=0):(↑x0:Int)>0:=o3.mpr (Nat.pos_of_ne_zero h0)
theorem Xr(h0:x0<=900)(h1:x1<x0)(h2:x2<=2*x1):x2<=2000:=jd (ae h2 (dM 2 (ae (b8 h1) h0))) rfl
theorem Xq(h0:x0<=900)(h1:x1<x0)(h2:x2<=2*x1)(h3:x3<=x2+1):x3<=2000:=jd (ae h3 (b6 (ae h2 (dM 2 (ae (b8 h1) h0))))) rfl
theorem Xp{x0 x1 x2 x3:Int}(h0:x0<=x1+1)(h1:x2<=x0+1)(h2:x3<=x2+1):x3<=x1+3:=ba h2 (ba (d8 h1 1) (ba (d8 (d8 h0 1) 1) (fq (by rw[mG,mG];rfl))))
theorem Uq{x0 x1:Nat}(h0:x0<8)(h1:x1+1<=4):910<=910+4*(↑x0:Int)+(↑x1:Int)/\910+4*(↑x0:Int)+(↑x1:Int)<=941:=⟨gX.mpr (show 910<=910+4*x0+x1 from ae (cg 910 (4*x0)) (cg _ _)),gX.mpr (show 910+4*x0+x1<=941 from bX (bn (dM 4 (tK h0)) 910) (Nat.le_of_succ_le_succ h1))⟩
theorem Up(h0:x0<=20)(h1:x1<=x0+1):x1<=2000:=jd (IV h0 h1) rfl
theorem Uo(h0:x0<=20)(h1:x1<=x0+1)(h2:x2<=x1+1):x2<=22:=jd (IV (IV h0 h1) h2) rfl
theorem Un(h0:x0<=1):4+x0<=1000000:=jd (bn h0 4) rfl
theorem Um{x0:Int}:x0<=x0+(↑0:Int):=fq (CT _).symm
theorem Ul{x0:Int}{x1:Nat}{x2:Int}(h0:x0<=500)(h1:x1<8)(h2:x2<=x0+(↑x1:Int)):x2<=1000:=EY (ba h2 (Int.add_le_add h0 (GZ (c:=8) (b8 h1) rfl))) rfl
theorem Uk{x0:Int}(h0:0<=x0):-1000000<x0:=eO (of_decide_eq_true rfl) h0
theorem Uj{x0:Int}(h0:x0<4)(h1:x1<x0.toNat):x1<4:=gU h1 (Lq (n:=4) h0 (ji _))
theorem Ui{x0:Int}(h0:x0<4)(h1:x1<x0.toNat):x1<=4:=b8 (gU h1 (Lq (n:=4) h0 (ji _)))
theorem Uh{x3:Int}(h0:x0<=20)(h1:x1<8)(h2:x2<=2+4*x1)(h3:x3<4)(h4:x4<x3.toNat)(h5:x5<=x0+(x2+x4)):x5<=2000:=jd (ae h5 (bX h0 (bX (ae h2 (bn (dM 4 (b8 h1)) 2)) (b8 (gU h4 (Lq (n:=4) h3 (ji _))))))) rfl
theorem Ug{x0:Int}(h0:x0<4):x0.toNat<4:=Lq (n:=4) h0 (ji _)
theorem Uf{x0 x1:Int}{x2:Nat}{x3:Int}(h0:x0<=x1+(↑x2:Int))(h1:x3<=x0+1):x3<=x1+(↑(x2+1):Int):=ba h1 (ba (d8 h0 1) (fq (by rw[w1,<-mG];rfl)))
theorem Ue(h0:x0<=8)(h1:x1<=2+4*x0):x1<=34:=jd (ae h1 (bn (dM 4 h0) 2)) rfl
theorem Ud{x0:Nat}{x1 x2:Int}(h0:x0<=8)(h1:x1<=x2+(↑x0:Int)):x1<=x2+8:=ba h1 (Int.add_le_add_left (GZ h0 rfl) _)
theorem Uc(h0:x0<=1)(h1:x1<=x2):x0+x1<=x2+1:=ae (bX h0 h1) (bv (RL 1 x2))
theorem Ub(h0:x0<=63)(h1:x1=x0)(h2:x2<=x1):x2<=64:=jd (ae h2 (ae (bv h1) h0)) rfl
theorem Ua(h0:x0<=63)(h1:x1=x0):x1<=1000000:=jd (ae (bv h1) h0) rfl
theorem T9(h0:x0<=64):1+x0<=1000000:=jd (bn h0 1) rfl
theorem T8(h0:x0<=900)(h1:x1=x0):x1<=1000000:=jd (ae (bv h1) h0) rfl
theorem T7(h0:x0<=900)(h1:x1=x0):1+x1<=1000000:=jd (bn (ae (bv h1) h0) 1) rfl
theorem T6(h0:x0<64)(h1:x1=x0):x1<=1000000:=xh (bJ (bv h1) h0) rfl
theorem T5(h0:x0<64)(h1:x1=x2)(h2:x2=x0):x1<=1000000:=xh (bJ (bv (h1.trans h2)) h0) rfl
theorem T4(h0:2<=x0):1+1<=x0:=h0
theorem T3(h0:x0<=12)(h1:x1=12):x0<=x1:=ae h0 (bv h1.symm)
theorem T1{x0:Int}(h0:0<=x0):-2 ^ 63<=x0:=UL h0 rfl
theorem T0{x0:Int}(h0:x0<6):x0<2 ^ 63:=GY h0 rfl
theorem TZ{x0:Int}(h0:x0<900):¬x0=902:=kO (GY h0 rfl)
theorem TY{x0:Int}(h0:x0<900):¬x0=901:=kO (GY h0 rfl)
theorem TV{x0:Int}(h0:x0<900):¬x0=900:=kO h0
theorem NQ{x0 x1:Int}(h0:x0=x1)(h1:x1<900)(h2:x0=900):False:=kO (f8 (fq h0) h1) h2
theorem NP{x0 x1:Int}(h0:x0=x1)(h1:x1<900)(h2:x0=901):False:=kO (f8 (fq h0) (GY h1 rfl)) h2
theorem NO{x0 x1:Int}(h0:x0=x1)(h1:x1<900)(h2:x0=902):False:=kO (f8 (fq h0) (GY h1 rfl)) h2
theorem TT(h0:x0<=100)(h1:x1<=x0+1):x1<=800:=jd (IV h0 h1) rfl
theorem TS:x0+1+x1=x0+(x1+1):=f7 x0 1 x1
theorem TR{x0:Int}(h0:0<=x0):0<=x0:=h0
theorem TQ{x0:Int}(h0:x0<=0+1):x0<=1000:=EY h0 rfl
theorem TP{x0:Int}(h0:x0<9):x0.toNat<9:=Lq (n:=9) h0 (ji _)
theorem TO{x0:Int}(h0:0<=x0)(h1:x0<2):2+x0=2\/2+x0=3:=by cases x0 with|ofNat m=>(cases m with|zero=>exact .inl rfl|succ m=>cases m with|zero=>exact .inr rfl|succ m=>exact absurd (d5.mp h1) (bu.mpr (Nat.le_add_left 2 m)))|negSucc m=>exact absurd h0 (r0.mpr (qL m))
theorem TN{x0:Nat}:-1000000<(↑x0:Int):=eO (of_decide_eq_true rfl) (cb _)
theorem TM{x0:Nat}(h0:x0<9):(↑x0:Int).toNat<=1000000:=ae (bv (my _)) (xh h0 rfl)
theorem TL{x0:Int}(h0:x0=2\/x0=3):2<=x0:=h0.elim (fun h=>fq h.symm) fun h=>ba (of_decide_eq_true rfl) (fq h.symm)
theorem TK{x0:Int}(h0:x0=2\/x0=3):x0<=900:=h0.elim (fun h=>EY (fq h) rfl) fun h=>EY (fq h) rfl
theorem TJ(h0:x0<=8)(h1:x0=x1):x1<=1000000:=jd (ae (bv h1.symm) h0) rfl
theorem TI{x0 x1:Int}(h0:x0<=0+1)(h1:x1<=x0+1):x1<=500:=EY (Mb h0 h1) rfl
theorem TH(h0:x0<=x1)(h1:x1<=x2+x3)(h2:x2<=20)(h3:x3=2):x0<=60:=jd (ae h0 (ae h1 (bX h2 (bv h3)))) rfl
theorem TG(h0:x0<=34)(h1:x1<=20)(h2:x2<=x1+x0):x2<60:=GA (ae h2 (bX h1 h0)) rfl
theorem TF{x0 x1 x2:Int}(h0:x0<=0+1)(h1:x1<=x0+1)(h2:x2<=x1+8):x2<=500:=EY (Mb (Mb h0 h1) h2) rfl
theorem TE(h0:x0<=34)(h1:x1<=20)(h2:x2<=x1+x0)(h3:x3<=x2):x3<=60:=jd (ae h3 (ae h2 (bX h1 h0))) rfl
theorem TD(h0:x0<=34)(h1:x1<=20)(h2:x2<=x1+x0)(h3:x3<=5)(h4:x4<=x2+x3):x4<64:=GA (ae h4 (bX (ae h2 (bX h1 h0)) h3)) rfl
theorem TC(h0:x0<=100)(h1:x1<=x0):x1<=1000000:=jd (ae h1 h0) rfl
theorem NN{x0 x1 x2 x3:Int}(h0:x0<=0+1)(h1:x1<=x0+1)(h2:x2<=x1+8)(h3:x3<=x2+3):x3<=500:=EY (Mb (Mb (Mb h0 h1) h2) h3) rfl
theorem TB{x0:Int}(h0:x0<900)(h1:910<=x0/\x0<=941\/x0=950\/x0=951):False:=h1.elim (fun h=>absurd (f8 h.1 h0) (by decide)) fun h=>h.elim (fun e=>absurd (show(950:Int)<900 from e▸h0) (by decide)) fun e=>absurd (show(951:Int)<900 from e▸h0) (by decide)
theorem TA(h0:x0<9)(h1:x1=x0)(h2:x2<x1):x2<8:=dt h2 (ae (bv h1) (tK h0))
theorem Tz{x0:Nat}(h0:¬(↑63:Int)<(↑x0:Int)):x0<=63:=b7 fun h=>h0 (d5.mpr h)
theorem Tx(h0:x0<=900)(h1:x1<4)(h2:x2<=x0+x1):x2<=1000000:=jd (ae h2 (bX h0 (b8 h1))) rfl
theorem Tw(h0:¬(900<x0\/900<x1\/900<x2)):x0<=900/\x1<=900/\x2<=900:=⟨b7 fun h=>h0 (.inl h),b7 fun h=>h0 (.inr (.inl h)),b7 fun h=>h0 (.inr (.inr h))⟩
theorem NM(h0:x0+(x1+1)<=100):x0<=1000000:=jd (ae (cg _ _) h0) rfl
theorem ED(h0:x0+(x1+1)<=100):x0+1+x1<=100:=ae (bv (f7 x0 1 x1)) h0
theorem Tv(h0:x0<=900)(h1:x1<=900)(h2:x2=x0):x1+min x3 x2<=1000000:=jd (bX h1 (ae (Nat.min_le_right _ _) (ae (bv h2) h0))) rfl
theorem Tu(h0:x0<=900)(h1:x1<=900):x0+x1<=2000:=jd (bX h0 h1) rfl
theorem Tt(h0:x0<=900)(h1:x1<4)(h2:x2<=x0+(x1+1)):x2<=1000000:=jd (ae h2 (bX h0 h1)) rfl
theorem NL(h0:x0<=x1+1+x2):x0<=x1+(x2+1):=ae h0 (bv (f7 x1 1 x2))
theorem Ts(h0:x0<x1):x1-x0=x1-(x0+1)+1:=(Nat.sub_add_cancel (Nat.sub_pos_of_lt h0)).symm
noncomputable def Gw:Nat->(Nat->ux)->BT|0,_=>.nil|k+1,f=>.node (f 0) (Gw k fun i=>f (2*i+1)) (Gw k fun i=>f (2*i+2))
theorem vt:∀(k:Nat)(f:Nat->ux)(i:Nat),i+1<2 ^ k->(Gw k f).get i=ac (f i)
 |0,f,i,h=>by simp at h
 |k+1,f,i,h=>by unfold Gw BT.get;cases h0:tL i 0 with|true=>rw[Ei h0]|false=>have n0:i≠0:=nT h0;dsimp only;rw[Nat.pow_succ] at h;cases h1:tL (i % 2) 1 with|true=>have e:=Ei h1;dsimp only;rw[vt k _ _ (by omega),show 2*(i / 2)+1=i from by omega]|false=>have e:=nT h1;dsimp only;rw[vt k _ _ (by omega),show 2*(i / 2-1)+2=i from by omega]
noncomputable def yQ(s:ay):SharedT:=⟨Gw 5 fun i=>(s.heap.objs[i]?).getD default,s.heap.objs.size,s.heap.life,s.gens,s.drawn,s.toks,s.os⟩
theorem CY{s:ay}(h:gV s.heap.objs.size 30=ai):(yQ s).abs=s:=by
 obtain⟨⟨objs,life⟩,gens,drawn,toks,os⟩:=s;have h:=aj h;dsimp only at h;unfold yQ SharedT.abs absHeap BT.list;dsimp only;have e:((dF objs.size).map fun i=>((Gw 5 fun i=>(objs[i]?).getD default).get i).getD default).toArray=objs:=by
  apply Array.ext_getElem?;intro i;rw[List.getElem?_toArray,bj];by_cases hi:i<objs.size;· rw[FL hi,hO,vt 5 _ i (by omega),eE,xF hi,eE]
  .rw[CR (by rw[dG];omega),i7 (by omega)]
   rfl
 rw[e]
noncomputable abbrev pL:gQ:=Om
noncomputable def B5:Op:={scope:=pL.main.scope,locals:=mainNs,globals:=mainNs,cells:=[],code:=.ref 13,frame:=ac 14}
noncomputable def cL:Code:=.body (eU pL) B5
noncomputable def fL:List Frame:=[topFrame ⟨0,0,0,0⟩]
noncomputable def Tc(w:gG)(os:wV):ay:=⟨boot_heap w.params,#[],boot_drawn,boot_toks,os⟩
noncomputable def O7:Code->Option (List jU×Op)|.body b e=>ac (b,e)|_=>aq
theorem LB{c:Code}{b:List jU}{e:Op}(h:O7 c=ac (b,e)):c=.body b e:=by cases c<;>first|(injection h with h;injection h with h1 h2;subst h1;subst h2;rfl)|(injection h;done)
noncomputable def LD{α:Type}(look:ay->α)(w:gG)(os:wV):Option (Bool×Flow×Option (List jU×Op)×α):=(topGo iF pL w 11 (ac (.ref 6)) 12 (Tc w os) (CA pL)).bind fun r1=>(segRunT iF pL w 11 (ac (.ref 6)) 1 4358 (yQ r1.1) (piecesOf (eU pL) B5 cL ⟨0,0,0,0⟩ fL)).bind fun r2=>(topRun iF pL w 11 (ac (.ref 6)) 2 r2.2.1.abs ⟨doneF .next,r2.2.2.1,r2.2.2.2,fL⟩).map fun s=>(gV r1.1.heap.objs.size 30,r2.1,O7 r2.2.2.1,look s)
noncomputable def IJ{α:Type}(look:ay->α)(w:gG)(os:wV):Option (Bool×Flow×Option (List jU×Op)×α):=(VZ gD pL w 11 (ac (.ref 6)) 12 (Tc w os) (CA pL)).bind fun r1=>(V9 gD pL w 11 (ac (.ref 6)) 1 4358 (yQ r1.1) (piecesOf (eU pL) B5 cL ⟨0,0,0,0⟩ fL)).bind fun r2=>(V8 gD pL w 11 (ac (.ref 6)) 2 r2.2.1.abs ⟨doneF .next,r2.2.2.1,r2.2.2.2,fL⟩).map fun s=>(gV r1.1.heap.objs.size 30,r2.1,O7 r2.2.2.1,look s)
theorem O8{α:Type}(look:ay->α):LD look=IJ look:=by unfold LD IJ;rw[Wb,We,Wd,Wc]
theorem QS(w:gG)(s:ay):segRun iF pL w 11 (ac (.ref 6)) 1 1 s (blockOf (eU pL) B5 cL ⟨0,0,0,0⟩ fL)=ac (.next,s,cL,⟨0,0,0,0⟩):=rfl
noncomputable def OC:Thread:=⟨denote iF cL,cL,⟨0,0,0,0⟩,fL⟩
theorem Xm:∀w:gG,(fun os=>(topGo iF pL w 11 (ac (.ref 6)) 12 (Tc w os) (CA pL)).map fun x=>x.2)=fun _=>ac OC:=fun w=>by kernel_rfl
theorem Xn(w:gG)(os:wV):(topGo iF pL w 11 (ac (.ref 6)) 12 (Tc w os) (CA pL)).map (fun x=>x.2)=ac OC:=congrFun (Xm w) os
theorem II{α:Type}{look:ay->α}{good:α}{w:gG}{os:wV}(h:LD look w os=ac (ai,.next,ac (eU pL,B5),good)):∃s,topRun iF pL w 11 (ac (.ref 6)) 4373 (Tc w os) (CA pL)=ac s/\look s=good:=by have⟨⟨s1,t1⟩,h1,ht⟩:=aD.mp (Xn w os);unfold LD at h;rw[h1,sW] at h;have⟨⟨f2,s2,c2,p2⟩,h2,h⟩:=cC.mp h;have⟨s,h3,h⟩:=aD.mp h;simp only[wU] at h;have⟨e2,e3,e4,e5⟩:=h;obtain rfl:c2=cL:=LB e4;obtain rfl:t1=OC:=ht;subst e3;have g:=segRun_of h2;rw[CY e2] at g;have k:=piece_app (rest:=[]) g (piece_nil h3);rw[bR] at k;exact⟨s,go_top h1 (piece_block (QS w s1) k),e5⟩
noncomputable abbrev Uy(p q:gQ)(loose:List aV)(Xt:ay->Bool){α:Type}(Yf:ay->α)(H:jk)(s:ay):=((RB (i9 p.main.body) H s.heap&&Oe p s.heap&&WX s&&WV H s.heap),WQ q loose (i9 p.main.body) Xt ai s,Yf s)
theorem GL{p q:gQ}{loose:List aV}{Xt:ay->Bool}{α:Type}{Yf:ay->α}{Ya:gG->α}{N M m:Nat}{ann:Option aE}{H:Params->jk}{dr:Drawn}{tk:Nat}(op:∀w:gG,(fencedOpening iF p w N).map (fun s=>(s.heap,s.gens,s.drawn,s.toks))=ac (H w.params,Array.mk [],dr,tk))(z1:∀w:gG,(H w.params).isNs ce=ai)(z2:∀w:gG,(H w.params).objs.size=m)(z3:∀w:gG,(H w.params).nsMap ce "__annotations__" = ann)(hM:M<=N)(run:∀(w:gG)(os:wV),∃s,topRun iF p w m ann M ⟨H w.params,#[],dr,tk,os⟩ (CA p)=ac s/\Uy p q loose Xt Yf (H w.params) s=(ai,WR q loose,Ya w)):LeftO p q loose Xt Yf Ya N ai:=by intro w;have⟨s0,e,e'⟩:=aD.mp (op w);obtain⟨h,gs,d,k,os⟩:=s0;simp only[wU] at e';have⟨a1,a2,a3,a4⟩:=e';subst a1;subst a2;subst a3;subst a4;have⟨s,r,l⟩:=run w os;simp only[wU] at l;have⟨l1,l2,l3⟩:=l;have r:=topRun_mono (N-M) _ _ _ _ r;rw[Nat.add_sub_cancel' hM] at r;unfold openEnds;rw[e];show(topFrom iF p w N _).map _=_;unfold topFrom;dsimp only;rw[z1 w,z2 w,z3 w,r];show Eh _ (match RB (i9 p.main.body) (H w.params) s.heap&&Oe p s.heap&&WX s&&WV (H w.params) s.heap with|true=>ac s|false=>aq)=_;rw[l1];exact congrArg ac (Prod.ext l2 l3)
noncomputable abbrev Pt(p:gQ){α:Type}(Yf:ay->α)(H:jk)(s:ay):=((RB (i9 p.main.body) H s.heap&&Oe p s.heap&&WX s&&WV H s.heap),Yf s)
theorem I4{q:gQ}{loose:List aV}{Xt:ay->Bool}{α:Type}{Yf:ay->α}{Ya:gG->α}(ra:∀w:gG,(fun os=>IJ (Pt pL Yf (boot_heap w.params)) w os)=fun _=>ac (ai,.next,ac (eU pL,B5),ai,Ya w))(rb:∀w:gG,(fun os=>IJ (WQ q loose (i9 pL.main.body) Xt ai) w os)=fun _=>ac (ai,.next,ac (eU pL,B5),WR q loose)):LeftO pL q loose Xt Yf Ya 5000 ai:=GL (m:=11) (ann:=ac (.ref 6)) (boot_open (by kernel_rfl) (by kernel_rfl) fun s=>by kernel_rfl) (fun w=>by kernel_rfl) (fun w=>by kernel_rfl) (fun w=>by kernel_rfl) (aj (n:=4373) (by kernel_rfl)) fun w os=>by have a:=ra w;have b:=rb w;rw[<-O8] at a b;have⟨s,h,e⟩:=II (congrFun a os);have⟨s',h',e'⟩:=II (congrFun b os);obtain rfl:s=s':=aB (h.symm.trans h');exact⟨s,h,congr (congrArg Prod.mk (Nv e).1) (congr (congrArg Prod.mk e') (Nv e).2)⟩
theorem Ta:VY ck=ai:=by kernel_rfl
theorem Tb:OpenLaw.wellSaid ck=ai:=(congrFun Wa _).trans Ta
noncomputable def AW:gQ:=view pL [0,2,3,5,6,8,9,10,11,12,13,14,15,16,17,18,19,21,22,23,24,25,26,27,28,29,30,31,32,33,34,35,36,37,38,39,40,41,42,43,44,45,47,48,49,50,51,52,53,54,55,56]
noncomputable abbrev Dm:List aV:=[aa "PaperError",aa "told_objects"]
noncomputable abbrev XtL:ay->Bool:=fun s=>xlAt AW [] s&&recOk (RowW.records (sX ck).toRowW) s
theorem S9 : ∀ w : gG, (fun os => IJ (WQ AW Dm (i9 pL.main.body) XtL ai) w os) = fun _ => ac (ai, .next, ac (eU pL, B5), WR AW Dm) := fun w => by kernel_rfl
noncomputable def US(H:Hook)(said:(sX ck).wellSaid=ai):=fun hl hw=>holds_open (r:=sX ck) (q:=AW) (loose:=Dm) (Xt:=XtL) (XP:=XL AW []) (Yf:=Hook.obs H) (Ya:=Hook.val H) (YP:=Hook.says H) (N:=5000) hl (Hook.of H) (Hook.keeps H) (fun s e=>xl_of s (cW.mp e).1) XL.keeps (by rfl) (by rfl) (by rfl) (fun s e=>recFacts_of (cW.mp e).2) (by rfl) said (by decide +kernel) ⟨rfl,rfl,rfl,rfl,rfl,by decide +kernel⟩ hw
local macro_rules | `(tactic| o_head $H) => `(tactic| refine US $H ‹_› ?hl ?hw ?hc)
noncomputable def hdP:{T:Prop // T->ck.Holds}:=⟨_,fun walk=>by
 w_on;refine holds_law Tb fun said=>?_;k_head;case hl=>exact I4 (fun w=>by kernel_rfl) S9
 case hw=>w_witness2
 exact walk⟩
variable{E:aE->ay->Prop}{s s':ay}{prog:gQ}{w:gG}{A:fQ}{pos:xA}{x y:aV}{fd:w2}{env:Op}{body:List jU}{o:ux}{name:aV}{args:List bZ}{vs:List aE}{a:aW}{α β:Type}
noncomputable abbrev Vw:=aW->Option ux
def Kp(V V':Vw):Prop:=∀a o,V a=ac o->V' a=ac o
theorem Kp.refl(V):Kp V V:=fun zz zz h=>h
theorem Kp.trans(h:Kp V V')(h':Kp V' V''):Kp V V'':=fun a o e=>h' a o (h a o e)
noncomputable def fR(V:Vw)(a:aW)(o:ux):Vw:=fun b=>if b=a then ac o else V b
theorem bT(V a o):fR V a o a=ac o:=by simp[fR]
theorem dB(V o)(h:b≠a):fR V a o b=V b:=by simp[fR,h]
theorem c9(h:V a=aq):Kp V (fR V a o):=fun b x e=>by
 have:b≠a:=fun q=>by subst q;rw[h] at e;injection e
 rw[dB V o this];exact e
inductive DV where
 |raw (v:aE)
 |int (i:Int)
 |str (x:aV)
 |byt (b:Array UInt8)
 |tup (l:List DV)
 |lst (l:List DV)
 |sdic (l:List (aV×DV))
 |idic (l:List (Int×DV))
 |inst (C:aW) (l:List (aV×DV))
 |any
@[reducible] noncomputable def DV.none:DV:=.raw .none
@[reducible] noncomputable def DV.bool(b:Bool):DV:=.raw (.bool b)
@[reducible] noncomputable def DV.ptr(a:aW):DV:=.raw (.ref a)
section
variable (prog : gQ) (w : gG)
mutual
noncomputable def Is (V:Vw):DV->aE->Prop|.raw v,u=>u=v/\rW v=ai|.int i,u=>∃t,u=.int i t|.str x,u=>∃t,u=.str x t|.byt b,u=>∃t,u=.bytes b t|.tup l,u=>∃a o vs n,u=.ref a/\V a=ac o/\o.cls=.type "tuple"/\(o.dict=.none/\o.slots=#[])/\o.data=.seq vs n/\gO V l vs.toList|.lst l,u=>∃a o vs n,u=.ref a/\V a=ac o/\o.cls=.type "list"/\(o.dict=.none/\o.slots=#[])/\o.data=.seq vs n/\gO V l vs.toList|.sdic l,u=>∃a o kvs,u=.ref a/\V a=ac o/\(a==fP)=ak/\o.IsDictOf (strKind prog w) kvs/\Cs V l kvs|.idic l,u=>∃a o kvs,u=.ref a/\V a=ac o/\(a==fP)=ak/\o.IsDictOf (HU prog w) kvs/\CD V l kvs|.inst C l,u=>∃a dx es n,u=.ref a/\V a=ac (cn C dx)/\V dx=ac (jg es n)/\yx V l es|.any,u=>rW u=ai
noncomputable def gO (V:Vw):List DV->List aE->Prop|[],vs=>vs=[]|d::r,vs=>∃v rs,vs=v::rs/\Is V d v/\gO V r rs
noncomputable def Cs (V:Vw):List (aV×DV)->List (aV×aE)->Prop|[],vs=>vs=[]|(x,d)::r,vs=>∃v rs,vs=(x,v)::rs/\Is V d v/\Cs V r rs
noncomputable def CD (V:Vw):List (Int×DV)->List (Int×aE)->Prop|[],vs=>vs=[]|(x,d)::r,vs=>∃v rs,vs=(x,v)::rs/\Is V d v/\CD V r rs
noncomputable def yx (V:Vw):List (aV×DV)->List mA->Prop|[],vs=>vs=[]|(x,d)::r,vs=>∃e rs,vs=e::rs/\(∃t,e.key=.str x t)/\Is V d e.val/\yx V r rs
end
end
mutual
theorem Is.mono {V V':Vw} (k:Kp V V'):∀{d:DV}{u:aE},Is prog w V d u->Is prog w V' d u
 |.raw _,_,h=>by exact h
 |.int _,_,h=>by exact h
 |.str _,_,h=>by exact h
 |.byt _,_,h=>by exact h
 |.tup l,_,h=>by show Exists _;refine bE h ?_;clear h;intro a o vs n e h1 h2 h3 h4 h5;exact cJ a o vs n e (k _ _ h1) h2 h3 h4 (gO.mono k h5)
 |.lst l,_,h=>by show Exists _;refine bE h ?_;clear h;intro a o vs n e h1 h2 h3 h4 h5;exact cJ a o vs n e (k _ _ h1) h2 h3 h4 (gO.mono k h5)
 |.sdic l,_,h=>by show Exists _;refine bU h ?_;clear h;intro a o kvs e h1 h2 h3 h4;exact cZ a o kvs e (k _ _ h1) h2 h3 (Cs.mono k h4)
 |.idic l,_,h=>by show Exists _;refine bU h ?_;clear h;intro a o kvs e h1 h2 h3 h4;exact cZ a o kvs e (k _ _ h1) h2 h3 (CD.mono k h4)
 |.inst C l,_,h=>by show Exists _;refine d9 h ?_;clear h;intro a dx es n e h1 h2 h3;exact fF a dx es n e (k _ _ h1) (k _ _ h2) (yx.mono k h3)
 |.any,_,h=>by exact h
theorem gO.mono {V V':Vw} (k:Kp V V'):∀{l:List DV}{vs:List aE},gO prog w V l vs->gO prog w V' l vs
 |[],_,h=>by exact h
 |d::r,_,h=>by show Exists _;refine aM h ?_;clear h;intro v rs e h1 h2;exact bO v rs e (Is.mono k h1) (gO.mono k h2)
theorem Cs.mono {V V':Vw} (k:Kp V V'):∀{l:List (aV×DV)}{vs:List (aV×aE)},Cs prog w V l vs->Cs prog w V' l vs
 |[],_,h=>by exact h
 |(x,d)::r,_,h=>by show Exists _;refine aM h ?_;clear h;intro v rs e h1 h2;exact bO v rs e (Is.mono k h1) (Cs.mono k h2)
theorem CD.mono {V V':Vw} (k:Kp V V'):∀{l:List (Int×DV)}{vs:List (Int×aE)},CD prog w V l vs->CD prog w V' l vs
 |[],_,h=>by exact h
 |(x,d)::r,_,h=>by show Exists _;refine aM h ?_;clear h;intro v rs e h1 h2;exact bO v rs e (Is.mono k h1) (CD.mono k h2)
theorem yx.mono {V V':Vw} (k:Kp V V'):∀{l:List (aV×DV)}{vs:List mA},yx prog w V l vs->yx prog w V' l vs
 |[],_,h=>by exact h
 |(x,d)::r,_,h=>by show Exists _;refine bB h ?_;clear h;intro v rs e h1 h2 h3;exact du v rs e h1 (Is.mono k h2) (yx.mono k h3)
end
theorem Is.handed:∀{d:DV}{u:aE},Is prog w V d u->rW u=ai
 |.raw _,_,h=>by rw[h.1];exact h.2
 |.int _,_,h=>by refine aY h ?_;clear h;intro t z1;subst z1;rfl
 |.str _,_,h=>by refine aY h ?_;clear h;intro t z2;subst z2;rfl
 |.byt _,_,h=>by refine aY h ?_;clear h;intro t z3;subst z3;rfl
 |.tup l,_,h=>by refine d1 h ?_;clear h;intro a o vs n z4 _;subst z4;rfl
 |.lst l,_,h=>by refine d1 h ?_;clear h;intro a o vs n z5 _;subst z5;rfl
 |.sdic l,_,h=>by refine fw h ?_;clear h;intro a o vs z6 _;subst z6;rfl
 |.idic l,_,h=>by refine fw h ?_;clear h;intro a o vs z7 _;subst z7;rfl
 |.inst C l,_,h=>by refine d1 h ?_;clear h;intro a o vs n z8 _;subst z8;rfl
 |.any,_,h=>by exact h
theorem aT:Is prog w V (.raw v) u↔u=v/\rW v=ai:=CU
theorem bA{i:Int}:Is prog w V (.int i) u↔∃t,u=.int i t:=CU
theorem io:Is prog w V (.str i) u↔∃t,u=.str i t:=CU
theorem be:gO prog w V [] vs↔vs=[]:=CU
theorem aG:gO prog w V (d::r) vs↔∃v rs,vs=v::rs/\Is prog w V d v/\gO prog w V r rs:=CU
inductive MO where
 |lst (l:List DV)
 |sdic (l:List (aV×DV))
 |idic (l:List (Int×DV))
 |obj (o:ux)
 |pr (p:ux->Prop)
 |flds (l:List (aV×DV))
 |cell (d:DV)
 |prV (p:Vw->ux->Prop) (mono:∀V V' o,Kp V V'->p V o->p V' o)
def ju(prog:gQ)(w:gG)(V h:Vw)(a:aW):MO->Prop|.lst l=>∃o vs n,h a=ac o/\o.cls=.type "list"/\(o.dict=.none/\o.slots=#[])/\o.data=.seq vs n/\gO prog w V l vs.toList|.sdic l=>∃o kvs,h a=ac o/\(a==fP)=ak/\o.IsDictOf (strKind prog w) kvs/\Cs prog w V l kvs|.idic l=>∃o kvs,h a=ac o/\(a==fP)=ak/\o.IsDictOf (HU prog w) kvs/\CD prog w V l kvs|.obj o=>h a=ac o|.pr p=>∃o,h a=ac o/\p o|.flds l=>∃es n,h a=ac (jg es n)/\yx prog w V l es|.prV p _=>∃o,h a=ac o/\p V o|.cell d=>∃o x,h a=ac o/\o.data=.cell x/\(d≠.any->∃v,x=ac v/\Is prog w V d v)
theorem ju.mono(k:Kp V V')(e:h' a=h a)(z:ju prog w V h a mo):ju prog w V' h' a mo:=by
 cases mo with
 |lst l=>exact bU z fun o vs n h1 h2 h3 h4 h5=>(cZ o vs n (e.trans h1) h2 h3 h4 (h5.mono k))
 |sdic l=>exact bB z fun o kvs h1 h2 h3 h4=>(du o kvs (e.trans h1) h2 h3 (h4.mono k))
 |idic l=>exact bB z fun o kvs h1 h2 h3 h4=>(du o kvs (e.trans h1) h2 h3 (h4.mono k))
 |obj o=>exact e.trans z|pr p=>exact ar z fun o h1 h2=>(bq o (e.trans h1) h2)
 |flds l=>exact cX z fun es n h1 h2=>(jN es n (e.trans h1) (h2.mono k))
 |prV p m=>exact ar z fun o h1 h2=>(bq o (e.trans h1) (m _ _ o k h2))
 |cell d=>exact aM z fun o x h1 h2 h3=>(bO o x (e.trans h1) h2 (fun z=>ar (h3 z) fun v a b=>(bq v a (b.mono k))))
theorem ju.at(z:ju prog w V h a mo):∃o,h a=ac o:=by
 cases mo with
 |lst l=>exact sL z fun o _ _ h=>⟨o,h.1⟩
 |sdic l=>exact g5 z fun o _ h=>⟨o,h.1⟩
 |idic l=>exact g5 z fun o _ h=>⟨o,h.1⟩
 |obj o=>exact⟨o,z⟩|pr p=>exact ar z fun o h _=>⟨o,h⟩
 |flds l=>exact cX z fun _ _ h _=>⟨_,h⟩
 |cell d=>exact g5 z fun o _ h=>⟨o,h.1⟩
 |prV p m=>exact ar z fun o h _=>⟨o,h⟩
noncomputable abbrev Mu:=List (aW×MO)
noncomputable abbrev aP:=List (aV×DV)
def uf(s s':ay):Prop:=s'.gens=s.gens/\s'.drawn=s.drawn/\s'.os=s.os
theorem uf.refl(s):uf s s:=(jR rfl rfl rfl)
theorem uf.trans{a b c:ay}(h:uf a b)(k:uf b c):uf a c:=(jR (k.1.trans h.1) (k.2.1.trans h.2.1) (k.2.2.trans h.2.2))
structure Cx where
 prog:gQ
 w:gG
 hb:jk
 A:fQ
 env:Op
 L:aW
 V0:Vw
 m0:List aW
 s0:ay
structure Cx.Ok (C:Cx):Prop where
 fn:C.env.scope.kind=.function
 loc:C.env.locals=C.L
 glo:C.env.globals=ce
 bui:C.env.builtins=d7
noncomputable def mV(A:fQ):List aW:=(A.frames.getD []).filterMap (·.frame)
def rK(F:List aW)(a:aW)(o o':ux):Prop:=(a∉F->o'=o)/\∃sl,o'={o with slots:=sl}
theorem rK.refl(o):rK F a o o:=⟨fun zz=>rfl,o.slots,rfl⟩
theorem rK.trans(h:rK F a o o')(k:rK F a o' o''):rK F a o o'':=by refine Fc h ?_;clear h;intro h1 sl z9;subst z9;refine Fc k ?_;clear k;intro k1 sl' z10;subst z10;exact⟨fun n=>(k1 n).trans (h1 n),sl',rfl⟩
theorem rK.data(h:rK F a o o'):o'.data=o.data:=by refine Fc h ?_;clear h;intro _ sl z11;subst z11;rfl
theorem rK.sub(h:rK F a o o')(k:a∉F'->a∉F):rK F' a o o':=⟨fun n=>h.1 (k n),h.2⟩
def Stk(l:List Op)(m:List aW)(V:Vw)(s:ay):Prop:=∀env∈l,env.scope.kind≠.module/\∃f o,env.frame=ac f/\V f=aq/\f∉m/\s.heap.get? f=ac o/\∀vs,o.data≠.fields vs
def m3(A:fQ)(m:List aW)(V:Vw)(s:ay):Prop:=∃l,A.frames=ac l/\Stk l m V s
theorem m3.fro(h:m3 A m V s)(ha:a∈mV A):V a=aq/\a∉m/\∃o,s.heap.get? a=ac o:=by refine ar h ?_;clear h;intro l hl h;unfold Mine.mV at ha;rw[hl] at ha;refine ar (cm.mp ha) fun env he hf=>?_;refine gz (h env he) fun zz f o hf' h1 h2 h3 zz=>?_;rw[hf] at hf';(injection hf' with hf';subst hf');exact⟨h1,h2,o,h3⟩
def CG(A:fQ)(V:Vw):Prop:=A.handled=aq\/∃e o vs,A.handled=ac (.ref e)/\V e=ac o/\o.data=.fields vs/\vs[2]?=ac .none
theorem CG.mono(k:Kp V V'):CG A V->CG A V':=fun h=>h.imp id fun z12=>eB z12 fun e o vs a b c d=>(ez e o vs a (k _ _ b) c d)
def Ct(C:Cx)(V:Vw)(Y:aP)(m:aV->Option aE):Prop:=∀p∈Y,C.env.kindOf p.1=ac .local/\(p.2≠.any->∃v,m p.1=ac v/\Is C.prog C.w V p.2 v)
structure b9 (C:Cx) (V:Vw) (Y:aP) (Z:Mu) (s:ay):Prop where
 m:∃m,s.heap.Ns C.L m/\Ct C V Y m
 nd:(Y.map (·.1)).Nodup
 mu:∀p∈Z,ju C.prog C.w V s.heap.get? p.1 p.2
 dj:(C.L::Z.map (·.1)).Nodup
 vh:Kp V s.heap.get?
 vL:V C.L=aq
 vm:∀p∈Z,V p.1=aq
 fr:∀a,V a≠aq->C.V0 a≠aq\/C.s0.heap.objs.size<=a
 v0:Kp C.V0 V
 b0:Kp C.hb.get? C.V0
 mf:∀p∈Z,p.1∈C.m0\/C.s0.heap.objs.size<=p.1
 pr:∀a o,a∉C.m0->a≠C.L->C.s0.heap.get? a=ac o->∃o',s.heap.get? a=ac o'/\rK (mV C.A) a o o'
 sz:C.s0.heap.objs.size<=s.heap.objs.size
 hk:CG C.A V
 rest:uf C.s0 s
namespace b9
variable {C : Cx} {V : Vw} {Y : aP} {Z : Mu}
theorem base(S:b9 C V Y Z s):∀b o,C.hb.get? b=ac o->s.heap.get? b=ac o:=fun b o e=>S.vh _ _ (S.v0 _ _ (S.b0 _ _ e))
theorem sat_toks(S:b9 C V Y Z s)(t:Nat):b9 C V Y Z {s with toks:=t}:=⟨S.m,S.nd,S.mu,S.dj,S.vh,S.vL,S.vm,S.fr,S.v0,S.b0,S.mf,S.pr,S.sz,S.hk,S.rest⟩
theorem fresh(S:b9 C V Y Z s):V s.heap.objs.size=.none:=by cases q:V s.heap.objs.size with|none=>rfl|some o=>exact absurd (aR (S.vh _ _ q)) (mF _)
theorem muLt(S:b9 C V Y Z s){p:aW×MO}(h:p∈Z):p.1<s.heap.objs.size:=let ⟨_,e⟩:=(S.mu p h).at;aR e
theorem frLt(S:b9 C V Y Z s):C.L<s.heap.objs.size:=let ⟨_,h,_⟩:=S.m;h.lt
theorem envMono{m:aV->Option aE}(k:Kp V V')(e:Ct C V Y m):Ct C V' Y m:=fun p hp=>⟨(e p hp).1,fun h=>let ⟨v,a,b⟩:=(e p hp).2 h;⟨v,a,b.mono k⟩⟩
theorem alloc(S:b9 C V Y Z s)(O:C.Ok)(o)(hf:o.isFreed=ak):b9 C (fR V s.heap.objs.size o) Y Z {s with heap:=s.heap.push o}:=by
 have k:Kp V (fR V s.heap.objs.size o):=c9 S.fresh;have g:∀{b:aW}{x:ux},s.heap.get? b=ac x->(s.heap.push o).get? b=ac x:=fun e=>aX _ e;refine ar S.m ?_;(try clear m);intro m hn he;refine⟨(bq m (hn.push o) (envMono k he)),S.nd,fun p hp=>?_,S.dj,fun b x e=>?_,?_,fun p hp=>?_,fun a ha=>?_,S.v0.trans k,S.b0,S.mf,fun a x n l e=>let ⟨o',e',r⟩:=S.pr a x n l e;⟨o',g e',r⟩,by rw[show({s with heap:=s.heap.push o}:ay).heap=s.heap.push o from rfl,bV];exact mw S.sz,S.hk.mono k,S.rest⟩
 .refine aY ((S.mu p hp).at) fun x hx=>?_
  exact(S.mu p hp).mono k ((g hx).trans hx.symm)
 .by_cases q:b=s.heap.objs.size
  .subst q;rw[bT] at e;(injection e with e;subst e);exact aN _ hf
  .rw[dB V o q] at e;exact g (S.vh _ _ e)
 .rw[dB V o (bP S.frLt)];exact S.vL
 .rw[dB V o (bP (S.muLt hp))];exact S.vm p hp
 .by_cases q:a=s.heap.objs.size
  .exact .inr (q▸S.sz)
  .rw[dB V o q] at ha;exact S.fr a ha
theorem allocMu(S:b9 C V Y Z s)(O:C.Ok)(o mo)(hf:o.isFreed=ak)(hm:ju C.prog C.w V (s.heap.push o).get? s.heap.objs.size mo):b9 C V Y ((s.heap.objs.size,mo)::Z) {s with heap:=s.heap.push o}:=by
 have g:∀{b:aW}{x:ux},s.heap.get? b=ac x->(s.heap.push o).get? b=ac x:=fun e=>aX _ e;refine ar S.m ?_;(try clear m);intro m hn he;refine⟨(bq m (hn.push o) he),S.nd,fun p hp=>?_,?_,fun b x e=>g (S.vh _ _ e),S.vL,fun p hp=>?_,S.fr,S.v0,S.b0,fun p hp=>?_,fun a x n l e=>let ⟨o',e',r⟩:=S.pr a x n l e;⟨o',g e',r⟩,by rw[show({s with heap:=s.heap.push o}:ay).heap=s.heap.push o from rfl,bV];exact mw S.sz,S.hk,S.rest⟩
 .rcases ao.mp hp with rfl|hp
  .exact hm
  .refine aY ((S.mu p hp).at) fun x hx=>?_
   exact(S.mu p hp).mono (.refl _) ((g hx).trans hx.symm)
 .have d:=S.dj
  rw[au,av,av];rw[av] at d;refine jR (fun q=>?_) (fun q=>?_) d.2
  .rcases ao.mp q with q|q
   .exact absurd q (bP S.frLt)
   .exact d.1 q
  .refine ar (az.mp q) fun p hp e=>?_
   exact absurd e (bP (S.muLt hp))
 .rcases ao.mp hp with rfl|hp
  .exact S.fresh
  .exact S.vm p hp
 .rcases ao.mp hp with rfl|hp
  .exact .inr S.sz
  .exact S.mf p hp
theorem store(S:b9 C V Y Z s)(O:C.Ok)(hn:h'.Ns C.L m')(hs:nJ C.L s.heap h')(he:Ct C V Y' m')(hd:Y'.map (·.1)=Y.map (·.1)):b9 C V Y' Z {s with heap:=h',toks:=t}:=by
 have ne:∀{b:aW}{x:ux},V b=ac x->b≠C.L:=fun e q=>by subst q;rw[S.vL] at e;injection e
 have dj:=S.dj;rw[av] at dj;have nm:∀p∈Z,p.1≠C.L:=fun p hp q=>dj.1 (q▸ax hp);refine⟨(bq m' hn he),hd▸S.nd,fun p hp=>(S.mu p hp).mono (.refl _) (hs.2 _ (nm p hp)),S.dj,fun b x e=>(hs.2 _ (ne e)).trans (S.vh _ _ e),S.vL,S.vm,S.fr,S.v0,S.b0,S.mf,fun a x n l e=>let ⟨o',e',r⟩:=S.pr a x n l e;⟨o',(hs.2 a l).trans e',r⟩,hs.1▸S.sz,S.hk,S.rest⟩
theorem nodup_mid{p:aW×MO}(d:((Z1++p::Z2).map (·.1)).Nodup):(∀q∈Z1,q.1≠p.1)/\(∀q∈Z2,q.1≠p.1):=by rw[aA,au,bC] at d;refine jK d ?_;clear d;intro zz d2 d3;rw[av] at d2;exact⟨fun q hq=>d3 _ (ax hq) _ (.head _),fun q hq e=>d2.1 (e▸ax hq)⟩
theorem turn{mo mo':MO}{Z1 Z2:Mu}(S:b9 C V Y (Z1++(a,mo)::Z2) s){h':jk}{t:Nat}(hs:nJ a s.heap h')(hm:ju C.prog C.w V h'.get? a mo'):b9 C V Y (Z1++(a,mo')::Z2) {s with heap:=h',toks:=t}:=by
 have mem:(a,mo)∈Z1++(a,mo)::Z2:=aK _ (.head _);have ne:∀{b:aW}{x:ux},V b=ac x->b≠a:=fun e q=>by subst q;rw[S.vm _ mem] at e;injection e
 have dj:=S.dj;rw[av] at dj;have nLa:C.L≠a:=fun q=>dj.1 (az.mpr (bq _ mem q.symm));refine aZ (nodup_mid dj.2) fun n1 n2=>?_;have mm:∀{p},p∈Z1++(a,mo')::Z2->p=(a,mo')\/(p∈Z1++(a,mo)::Z2/\p.1≠a):=fun {p} hp=>by
  rcases aJ.mp hp with q|q;.exact .inr ⟨bF _ q,n1 p q⟩
  .rcases ao.mp q with q|q
   .exact .inl q
   .exact .inr ⟨aK _ (.tail _ q),n2 p q⟩
 refine ar S.m ?_;(try clear m);intro m hn he;refine fw hn ?_;clear hn;intro oL es ep hL r;refine⟨(bq m (oW oL es ep ((hs.2 _ nLa).trans hL) r) he),S.nd,fun p hp=>?_,?_,fun b x e=>(hs.2 _ (ne e)).trans (S.vh _ _ e),S.vL,fun p hp=>?_,S.fr,S.v0,S.b0,fun p hp=>?_,fun b x n l e=>?_,hs.1▸S.sz,S.hk,S.rest⟩
 .rcases mm hp with rfl|⟨q,z⟩
  .exact hm
  .exact(S.mu p q).mono (.refl _) (hs.2 _ z)
 .have:(Z1++(a,mo')::Z2).map (·.1)=(Z1++(a,mo)::Z2).map (·.1):=by simp
  rw[this];exact S.dj
 .rcases mm hp with rfl|⟨q,_⟩
  .exact S.vm (a,mo) mem
  .exact S.vm p q
 .rcases mm hp with rfl|⟨q,_⟩
  .exact S.mf (a,mo) mem
  .exact S.mf p q
 .have:b≠a:=fun q=>by
   subst q;rcases S.mf _ mem with z|z;.exact n z
   .exact absurd (aR e) (bu.mpr z)
  refine ar (S.pr b x n l e) fun o' e' r=>?_;exact bq o' ((hs.2 _ this).trans e') r
theorem freeze{Z1 Z2:Mu}(S:b9 C V Y (Z1++(a,mo)::Z2) s)(ha:C.s0.heap.objs.size<=a)(ho:s.heap.get? a=ac o):b9 C (fR V a o) Y (Z1++Z2) s:=by
 have mem:(a,mo)∈Z1++(a,mo)::Z2:=aK _ (.head _);have k:Kp V (fR V a o):=c9 (S.vm _ mem);have dj:=S.dj;rw[av] at dj;have nLa:C.L≠a:=fun q=>dj.1 (az.mpr (bq _ mem q.symm));refine aZ (nodup_mid dj.2) fun n1 n2=>?_;have mm:∀{p},p∈Z1++Z2->(p∈Z1++(a,mo)::Z2/\p.1≠a):=fun {p} hp=>by
  rcases aJ.mp hp with q|q;.exact⟨bF _ q,n1 p q⟩
  .exact⟨aK _ (.tail _ q),n2 p q⟩
 refine ar S.m ?_;(try clear m);intro m hn he;refine⟨(bq m hn (envMono k he)),S.nd,fun p hp=>(S.mu p (mm hp).1).mono k rfl,?_,fun b x e=>?_,?_,fun p hp=>?_,fun b hb=>?_,S.v0.trans k,S.b0,fun p hp=>S.mf p (mm hp).1,S.pr,S.sz,S.hk.mono k,S.rest⟩
 .refine av.mpr ⟨fun q=>dj.1 ?_,?_⟩
  .refine ar (az.mp q) fun p hp e=>?_
   exact e▸ax (mm hp).1
  .have d2:=dj.2
   rw[aA,au] at d2;rw[aA];exact d2.sublist (Wj (Wh _) (List.sublist_cons_self _ _))
 .by_cases q:b=a
  .subst q;rw[bT] at e;(injection e with e;subst e);exact ho
  .rw[dB V o q] at e;exact S.vh _ _ e
 .rw[dB V o nLa];exact S.vL
 .rw[dB V o (mm hp).2];exact S.vm p (mm hp).1
 .by_cases q:b=a
  .subst q
   exact .inr ha
  .rw[dB V o q] at hb;exact S.fr b hb
theorem big(S:b9 C V Y (Z1++(a,mo)::Z2) s)(ha:a∉C.m0):C.s0.heap.objs.size<=a:=(S.mf (a,mo) (aK _ (.head _))).resolve_left ha
noncomputable def re(C:Cx)(V:Vw)(Z:Mu)(s:ay):Cx:={C with V0:=V,m0:=Z.map (·.1),s0:=s}
theorem rebase(S:b9 C V Y Z s):b9 (re C V Z s) V Y Z s:=⟨S.m,S.nd,S.mu,S.dj,S.vh,S.vL,S.vm,fun zz h=>.inl h,.refl _,S.b0.trans S.v0,fun zz hp=>.inl (ax hp),fun zz o zz zz e=>(bq o e (.refl o)),aI _,S.hk,.refl s⟩
theorem unbase(S:b9 C V Y Z s)(S':b9 (re C V Z s) V' Y' Z' s'):b9 C V' Y' Z' s':=by
 refine⟨S'.m,S'.nd,S'.mu,S'.dj,S'.vh,S'.vL,S'.vm,fun a ha=>?_,S.v0.trans S'.v0,S.b0,fun p hp=>?_,fun a x n l e=>?_,ae S.sz S'.sz,S'.hk,S.rest.trans S'.rest⟩
 .rcases S'.fr a ha with z|z
  .exact S.fr a z
  .exact .inr (ae S.sz z)
 .rcases S'.mf p hp with z|z
  .refine ar (az.mp z) fun q hq e=>?_
   exact e▸S.mf q hq
  .exact .inr (ae S.sz z)
 .refine ar (S.pr a x n l e) fun o' e' r=>?_
  suffices a∉Z.map (·.1) by refine ar (S'.pr a o' this l e') fun o'' e'' r'=>?_;exact bq o'' e'' (r.trans r')
  intro z;refine ar (az.mp z) fun q hq e'=>?_;subst e';rcases S.mf q hq with z|z;.exact n z
  .exact absurd (aR e) (bu.mpr z)
theorem drop(S:b9 C V Y (p::Z) s):b9 C V Y Z s:=⟨S.m,S.nd,fun q hq=>S.mu q (.tail _ hq),(av.mpr ⟨fun h=>(av.mp S.dj).1 (.tail _ h),(av.mp (av.mp S.dj).2).2⟩),S.vh,S.vL,fun q hq=>S.vm q (.tail _ hq),S.fr,S.v0,S.b0,fun q hq=>S.mf q (.tail _ hq),S.pr,S.sz,S.hk,S.rest⟩
end b9
variable {Y Y' Y0 Y1:aP} {Z Z' Z0 Z1:Mu} {V V':Vw} {ds:List DV} {gs:List (aV×DV)} {mo:MO} {Q:DV->aP->Mu->Prop} {R:DV->Mu->Prop}
noncomputable def UT:ux:={cls:=.none,data:=.freed}
noncomputable def qX(h:jk)(S:List aW):jk:={h with objs:=Array.ofFn (n:=h.objs.size) fun i=>if S.contains i.val then h.objs[i] else UT}
noncomputable abbrev tV:RowW:=(sX ck).toRowW
structure G0 where
 prog:gQ
 w:gG
 hb:jk
 mg:aV->Option aE
 mb:aV->Option aE
noncomputable def G0.K(G:G0):Oo:=hdP.heap_1 G.w.params
def Cr(G:G0):Prop:=∀q loose R XP s_0 s_1(Gr:Ground q loose R XP G.w s_0 G.mg G.mb s_1.heap)
  (KX:(hdP.heap_1 G.w.params).In s_1.heap) (hT8:∀P∈[607,614],s_1.heap.get? P=ac (tabObj #[])) (a:aW) (hmg:G.mg (aa "law")=ac (.ref a)) (hg:s_1.gens=#[]) (args:List WData) (vals:List aE) (hpre:tV.claim.pre args=ai) (hwl:WellAll G.w.params s_1.heap vals args)
  (gp:G.prog=tV.prog) (gh:G.hb=qX s_1.heap (0::4::(hdP.heap_1 G.w.params).map (·.1))),
  bd (bf tV.prog G.w) callerA (RJ (.ref a) vals) (fun v s'=>W8 tV.claim (Rj s_0.heap) (pS s_0.heap) args s_1 (.ok (.ret v)) s') (fun e s'=>W8 tV.claim (Rj s_0.heap) (pS s_0.heap) args s_1 (.error e) s') s_1
theorem neG:Nonempty G0:=⟨⟨tV.prog,⟨fun _ _=>0,{strHash:=fun _=>0,shareClass:=fun _=>0,mergeTok:=id,idOf:=fun _=>0,idOfShared:=fun _ _=>0,followText:=fun _=>ak,idOfImm:=fun _=>0}⟩,{},fun _=>aq,fun _=>aq⟩⟩
noncomputable def G:G0:=@aD' G0 neG fun G=>¬Cr G
theorem GU(h:Cr G)(G'):Cr G':=aE' fun n=>aC' (p:=fun G=>¬Cr G) ⟨G',n⟩ h
structure G0.Ok (G:G0):Prop where
 kin:G.K.In G.hb
 lim:G.hb.NoLimit
 g:G.hb.Ns ce G.mg
 b:G.hb.Ns d7 G.mb
 mb:∀x:aV,x≠"__name__"->G.mb x=HZ x
def qE(A:fQ)(k:Nat):Prop:=A.depth+4*k<900/\A.units+20*k<9000
structure Eb (G:G0) (V:Vw) (Z:Mu) (s:ay):Prop where
 b0:Kp G.hb.get? V
 vh:Kp V s.heap.get?
 mu:∀p∈Z,ju G.prog G.w V s.heap.get? p.1 p.2
 nd:(Z.map (·.1)).Nodup
 vm:∀p∈Z,V p.1=aq
structure Az (G:G0) (A:fQ) (V:Vw) (Z:Mu) (s:ay) (V':Vw) (Z':Mu) (s':ay):Prop where
 v0:Kp V V'
 vh:Kp V' s'.heap.get?
 fr:∀a,V' a≠aq->V a≠aq\/s.heap.objs.size<=a
 mu:∀p∈Z',ju G.prog G.w V' s'.heap.get? p.1 p.2
 as:Z'.map (·.1)=Z.map (·.1)
 vm:∀p∈Z',V' p.1=aq
 pr:∀a o,a∉Z.map (·.1)->s.heap.get? a=ac o->∃o',s'.heap.get? a=ac o'/\rK (mV A) a o o'
 sz:s.heap.objs.size<=s'.heap.objs.size
 rest:uf s s'
def oY(Q E:aE->ay->Prop):yE->ay->Prop:=fun r s'=>match r with|.ok (.ret v)=>Q v s'|.ok _=>False|.error e=>E e s'
theorem oY.mono{Q Q':aE->ay->Prop}(hQ:∀v s,Q v s->Q' v s)(hE:∀v s,E v s->E' v s):∀r s,oY Q E r s->oY Q' E' r s:=fun r s h=>by rcases r with e|(v|_|_|_)<;>first|exact hE _ _ h|exact hQ _ _ h|exact h
def gf(G:G0)(hd:Bool)(k:Nat)(f:aE)(ds:List DV)(Z:Mu)(R:DV->Mu->Prop)(E:fQ->Vw->ay->aE->ay->Prop):Prop:=∀A V s vs,qE A k->(hd=ak->A.handled=aq)->CG A V->m3 A (Z.map (·.1)) V s->Eb G V Z s->gO G.prog G.w V ds vs->fH (bf G.prog G.w) A (.call f ⟨vs,[]⟩) (oY (fun r s'=>∃d Z' V',Az G A V Z s V' Z' s'/\Is G.prog G.w V' d r/\R d Z') (E A V s)) s
abbrev ir(G:G0)(k:Nat)(f:aE)(ds:List DV)(Z:Mu)(R:DV->Mu->Prop):Prop:=gf G ak k f ds Z R (fun zz zz zz zz zz=>False)
abbrev g6(G:G0)(k:Nat)(f:aE)(ds:List DV)(Z:Mu)(R:DV->Mu->Prop):Prop:=gf G ai k f ds Z R (fun zz zz zz zz zz=>False)
structure Bx where
 A:fQ
 env:Op
 L:aW
 V0:Vw
 m0:List aW
 s0:ay
 k:Nat
 hd:Bool
noncomputable def cx(G:G0)(B:Bx):Cx:=⟨G.prog,G.w,G.hb,B.A,B.env,B.L,B.V0,B.m0,B.s0⟩
structure Bx.Ok (G:G0) (B:Bx):Prop where
 g:G.Ok
 c:(cx G B).Ok
 room:qE B.A B.k
 calm:B.hd=ak->B.A.handled=aq
 stk:∃l,B.A.frames=ac l/\∀env∈l,env.scope.kind≠.module/\∃f,env.frame=ac f/\(f=B.L\/(B.V0 f=aq/\f∉B.m0/\∃o,B.s0.heap.get? f=ac o/\∀vs,o.data≠.fields vs))
inductive Fl where
 |next|brk|cont|ret (d:DV)
def wE(prog:gQ)(w:gG)(V:Vw):Fl->Flow->Prop|.next,f=>f=.next|.brk,f=>f=.brk|.cont,f=>f=.cont|.ret d,f=>∃v,f=.ret v/\Is prog w V d v
inductive qK {α β:Type} (G:G0) (B:Bx) (rel:Vw->β->α->Prop) (V:Vw) (Q:β->aP->Mu->Prop) (v:α) (s':ay):Prop
 |mk (d:β) (Y':aP) (Z':Mu) (V':Vw):b9 (cx G B) V' Y' Z' s'->Kp V V'->rel V' d v->Q d Y' Z'->qK G B rel V Q v s'
def WP{α β:Type}(G:G0)(B:Bx)(E:aE->ay->Prop)(rel:Vw->β->α->Prop)(t:HG α)(Y:aP)(Z:Mu)(Q:β->aP->Mu->Prop):Prop:=∀V s,b9 (cx G B) V Y Z s->bd (bf G.prog G.w) B.A t (qK G B rel V Q) E s
abbrev EV(G:G0)(B:Bx)(E:aE->ay->Prop)(t:HG aE)(Y:aP)(Z:Mu)(Q:DV->aP->Mu->Prop):Prop:=WP G B E (Is G.prog G.w) t Y Z Q
abbrev EL(G:G0)(B:Bx)(E:aE->ay->Prop)(t:HG (List aE))(Y:aP)(Z:Mu)(Q:List DV->aP->Mu->Prop):Prop:=WP G B E (gO G.prog G.w) t Y Z Q
abbrev EB(G:G0)(B:Bx)(E:aE->ay->Prop)(t:HG Bool)(Y:aP)(Z:Mu)(Q:Bool->aP->Mu->Prop):Prop:=WP G B E (fun zz a b=>a=b) t Y Z Q
abbrev EX(G:G0)(B:Bx)(E:aE->ay->Prop)(t:HG Flow)(Y:aP)(Z:Mu)(Q:Fl->aP->Mu->Prop):Prop:=WP G B E (wE G.prog G.w) t Y Z Q
def O1(G:G0)(B:Bx)(E:aE->ay->Prop)(rel:Vw->β->α->Prop)(t:aE->HG α)(a:DV)(Y:aP)(Z:Mu)(Q:β->aP->Mu->Prop):Prop:=∀V s va,b9 (cx G B) V Y Z s->Is G.prog G.w V a va->bd (bf G.prog G.w) B.A (t va) (qK G B rel V Q) E s
def O2(G:G0)(B:Bx)(E:aE->ay->Prop)(rel:Vw->β->α->Prop)(t:aE->aE->HG α)(a b:DV)(Y:aP)(Z:Mu)(Q:β->aP->Mu->Prop):Prop:=∀V s va vb,b9 (cx G B) V Y Z s->Is G.prog G.w V a va->Is G.prog G.w V b vb->bd (bf G.prog G.w) B.A (t va vb) (qK G B rel V Q) E s
def OL(G:G0)(B:Bx)(E:aE->ay->Prop)(rel:Vw->β->α->Prop)(t:List aE->HG α)(a:List DV)(Y:aP)(Z:Mu)(Q:β->aP->Mu->Prop):Prop:=∀V s va,b9 (cx G B) V Y Z s->gO G.prog G.w V a va->bd (bf G.prog G.w) B.A (t va) (qK G B rel V Q) E s
theorem iI{Q:β->aP->Mu->Prop}{C:Prop}(h:qK G B rel V Q v s')(k:∀d Y' Z' V',b9 (cx G B) V' Y' Z' s'->Kp V V'->rel V' d v->Q d Y' Z'->C):C:=qK.casesOn h k
theorem qK.up{Q:β->aP->Mu->Prop}(k:Kp V V_1)(h:qK G B rel V_1 Q v s'):qK G B rel V Q v s':=iI h fun d Y' Z' V' S' k' i' q=>⟨d,Y',Z',V',S',k.trans k',i',q⟩
theorem WP.use{Q:β->aP->Mu->Prop}{R:α->ay->Prop}(h:WP G B E rel t Y Z Q)(S:b9 (cx G B) V Y Z s)(k:∀v s' d Y' Z' V',b9 (cx G B) V' Y' Z' s'->Kp V V'->rel V' d v->Q d Y' Z'->R v s'):bd (bf G.prog G.w) B.A t R E s:=aQ (h V s S) (fun v s' z=>iI z (k v s')) fun zz zz x=>x
abbrev Vy(G:G0)(B:Bx)(E:aE->ay->Prop)(rest:List jU)(Q:Fl->aP->Mu->Prop):Fl->aP->Mu->Prop:=fun f Y' Z'=>match f with|.next=>EX G B E (eD rest B.env) Y' Z' Q|f=>Q f Y' Z'
abbrev Zt(Q:Fl->aP->Mu->Prop):DV->aP->Mu->Prop:=fun d Y' Z'=>Q (.ret d) Y' Z'
abbrev OpR(G:G0)(B:Bx)(E:aE->ay->Prop)(t:aE->aE->HG aE)(a:DV)(Q:DV->aP->Mu->Prop):DV->aP->Mu->Prop:=fun b Y2 Z2=>O2 G B E (Is G.prog G.w) t a b Y2 Z2 Q
abbrev Ru(G:G0)(B:Bx)(E:aE->ay->Prop)(r:bZ)(t:aE->aE->HG aE)(Q:DV->aP->Mu->Prop):DV->aP->Mu->Prop:=fun a Y1 Z1=>EV G B E (a9 r B.env) Y1 Z1 (OpR G B E t a Q)
abbrev ZA(Q:Bool->aP->Mu->Prop):Bool->aP->Mu->Prop:=fun b Y' Z'=>Q (!b) Y' Z'
abbrev VI(d:DV)(Q:List DV->aP->Mu->Prop):List DV->aP->Mu->Prop:=fun ds Y' Z'=>Q (d::ds) Y' Z'
abbrev VJ(G:G0)(B:Bx)(E:aE->ay->Prop)(pos:xA)(rest:List bZ)(Q:List DV->aP->Mu->Prop):DV->aP->Mu->Prop:=fun d Y1 Z1=>EL G B E (dA (cy pos (br rest B.env))) Y1 Z1 (VI d Q)
section
variable {B : Bx}
theorem WP.mono{Q Q':β->aP->Mu->Prop}(h:WP G B E rel t Y Z Q)(q:∀d Y' Z',Q d Y' Z'->Q' d Y' Z'):WP G B E rel t Y Z Q':=fun V s S=>WP.use h S (fun zz zz d Y' Z' V' a b c e=>⟨d,Y',Z',V',a,b,c,q _ _ _ e⟩)
theorem WP.exc{Q:β->aP->Mu->Prop}(h:WP G B E' rel t Y Z Q)(q:∀e s,E' e s->E e s):WP G B E rel t Y Z Q:=fun V s S=>aQ (h V s S) (fun zz zz x=>x) q
inductive CF {α:Type}:List (aV×α)->aV->α->Prop
 |head {x d r}:CF ((x,d)::r) x d
 |tail {p r x d}:CF r x d->CF (p::r) x d
theorem CF.mem(h:CF l x d):(x,d)∈l:=by induction h with|head=>exact .head _|tail _ ih=>exact .tail _ ih
inductive pF:aP->aV->DV->aP->Prop
 |head {x d d' r}:pF ((x,d)::r) x d' ((x,d')::r)
 |tail {p r x d r'}:pF r x d r'->pF (p::r) x d (p::r')
theorem pF.keys{l l':aP}(h:pF l x d l'):l'.map (·.1)=l.map (·.1):=by induction h with|head=>rfl|tail _ ih=>simp[ih]
theorem pF.has(h:pF l x d l'):∃d_0,(x,d_0)∈l:=by induction h with|head=>exact⟨_,.head _⟩|tail _ ih=>refine aY ih ?_;clear ih;intro d_0 h;exact⟨d_0,.tail _ h⟩
theorem pF.mem(h:pF l x d l')(nd:(l.map (·.1)).Nodup):∀p∈l',p=(x,d)\/(p∈l/\p.1≠x):=by
 induction h with
 |@head y d_0 d' r=>
  intro p hp;rw[au,av] at nd;rcases ao.mp hp with rfl|hp;.exact .inl rfl
  .exact .inr ⟨.tail _ hp,fun e=>nd.1 (az.mpr (bq p hp e))⟩
 |@tail q r y d' r' h ih=>
  intro p hp;rw[au,av] at nd;rcases ao.mp hp with rfl|hp
  .refine .inr ⟨.head _,fun e=>nd.1 ?_⟩
   refine aY h.has fun d_0 hm=>?_;have:=ax (f:=(·.1)) hm;rw[e];exact this
  .rcases ih nd.2 p hp with z|⟨z,n⟩
   .exact .inl z
   .exact .inr ⟨.tail _ z,n⟩
theorem MG(O:B.Ok G)(h:CF Y x d)(hd:(x==("__debug__" : aV))=ak)(ha:d≠.any)(q:Q d Y Z):EV G B E (a9 (.Name x pos) B.env) Y Z Q:=by intro V s S;refine ar S.m ?_;(try clear m);intro m hn he;refine aZ (he _ h.mem) fun hk hv=>?_;refine ar (hv ha) ?_;clear hv;intro v hv hi;exact N9 (wpAny_loadName_local O.c.fn hk (by rw[show B.env.locals=B.L from O.c.loc];exact hn) hv ⟨d,Y,Z,V,S,.refl _,hi,q⟩) hd
def Ec(G:G0)(x:aV)(v:aE):Prop:=G.mg x=ac v\/(G.mg x=aq/\x≠"__name__"/\HZ x=ac v)
theorem Jw(O:B.Ok G)(h:Ec G x v)(hx:B.env.kindOf x=ac .globalImplicit)(hd:(x==("__debug__" : aV))=ak)(S:b9 (cx G B) V Y Z s)(fin:P v s):bd (bf G.prog G.w) B.A (a9 (.Name x pos) B.env) P E s:=by
 have k:=S.base;refine K5 O.c.fn hx ?_ hd;have eg:B.env.globals=ce:=O.c.glo;have eb:B.env.builtins=d7:=O.c.bui;rcases h with h|⟨h,hn,hb⟩;.exact Rf (by rw[eg];exact O.g.g.keeps k) h fin
 .exact Of (by rw[eg];exact O.g.g.keeps k) h (by rw[eb];exact O.g.b.keeps k) ((O.g.mb x hn).trans hb) fin
theorem MH(O:B.Ok G)(h:Ec G x v)(hx:B.env.kindOf x=ac .globalImplicit)(hd:(x==("__debug__" : aV))=ak)(hi:Is G.prog G.w G.hb.get? d v)(q:Q d Y Z):EV G B E (a9 (.Name x pos) B.env) Y Z Q:=by
 intro V s S;have k:=S.base;refine K5 O.c.fn hx ?_ hd;have fin:qK G B (Is G.prog G.w) V Q v s:=⟨d,Y,Z,V,S,.refl _,hi.mono (S.b0.trans S.v0),q⟩
 have eg:B.env.globals=ce:=O.c.glo;have eb:B.env.builtins=d7:=O.c.bui;rcases h with h|⟨h,hn,hb⟩;.exact Rf (by rw[eg];exact O.g.g.keeps k) h fin
 .exact Of (by rw[eg];exact O.g.g.keeps k) h (by rw[eb];exact O.g.b.keeps k) ((O.g.mb x hn).trans hb) fin
theorem ME(q:Q .none Y Z):EV G B E (a9 (.Constant .none k pos) env) Y Z Q:=fun V s S=>wpAny_Constant_none ⟨_,Y,Z,V,S,.refl _,(aT.mpr ⟨rfl,rfl⟩),q⟩
theorem MK(q:Q (.bool b) Y Z):EV G B E (a9 (.Constant (.bool b) k pos) env) Y Z Q:=fun V s S=>wpAny_Constant_bool ⟨_,Y,Z,V,S,.refl _,(aT.mpr ⟨rfl,rfl⟩),q⟩
theorem JK{i:Int}(q:Q (.int i) Y Z):EV G B E (a9 (.Constant (.int i) k pos) env) Y Z Q:=fun V s S=>wpAny_Constant_int ⟨_,Y,Z,V,S.sat_toks _,.refl _,(by show Exists _;exact⟨_,rfl⟩),q⟩
theorem JI(q:Q (.str x) Y Z):EV G B E (a9 (.Constant (.str x) k pos) env) Y Z Q:=fun V s S=>wpAny_Constant_str ⟨_,Y,Z,V,S.sat_toks _,.refl _,(by show Exists _;exact⟨_,rfl⟩),q⟩
theorem JO(h:EV G B E (a9 l B.env) Y Z (Ru G B E r (fJ op) Q)):EV G B E (a9 (.BinOp l op r pos) B.env) Y Z Q:=by intro V s S;refine wpAny_BinOp (WP.use h S (fun a s_1 da Y1 Z1 V_1 S_1 k_1 i_1 h₁=>?_));refine WP.use h₁ S_1 (fun b s_2 db Y2 Z2 V_2 S_2 k_2 i_2 h_2=>?_);exact aQ (h_2 V_2 s_2 a b S_2 (i_1.mono k_2) i_2) (fun zz zz=>qK.up (k_1.trans k_2)) fun zz zz x=>x
theorem QG(h:EV G B E (a9 l B.env) Y Z (Ru G B E r (bi op) Q))(hm:nS op r=ak):EV G B E (a9 (.Compare l [op] [r] pos) B.env) Y Z Q:=by intro V s S;refine wpAny_Compare1 (WP.use h S (fun a s_1 da Y1 Z1 V_1 S_1 k_1 i_1 h₁=>?_)) hm;refine WP.use h₁ S_1 (fun b s_2 db Y2 Z2 V_2 S_2 k_2 i_2 h_2=>?_);exact aQ (h_2 V_2 s_2 a b S_2 (i_1.mono k_2) i_2) (fun zz zz=>qK.up (k_1.trans k_2)) fun zz zz x=>x
noncomputable def tF:DV->Option Bool|.raw .none=>ac ak|.raw (.bool b)=>ac b|_=>aq
theorem o7{Q:Bool->ay->Prop}(h:Is G.prog G.w V d v)(e:tF d=ac b)(q:Q b s):bd (bf G.prog G.w) A (truthy v) Q E s:=by
 cases d with
 |raw u=>refine aZ (aT.mp h) fun z _=>?_;subst z;cases v with|none=>(injection e with e;subst e);exact aH q|bool c=>(injection e with e;subst e);exact wpAny_truthy_bool q|_=>injection e
 |_=>injection e
theorem QL{x:bZ}{Q:Bool->aP->Mu->Prop}(h:EB G B E (isTrue x B.env (a9 x B.env)) Y Z (ZA Q)):EB G B E (isTrue (.UnaryOp .Not x pos) B.env whole) Y Z Q:=by intro V s S;exact wpAny_isTrue_Not (WP.use h S (fun b s_1 b' Y1 Z1 V_1 S_1 k_1 i_1 q=>⟨!b',Y1,Z1,V_1,S_1,k_1,by rw[i_1],q⟩))
theorem Hj{Q:Bool->aP->Mu->Prop}(h:EB G B E (jb op xs B.env) Y Z Q):EB G B E (isTrue (.BoolOp op xs pos) B.env whole) Y Z Q:=fun V s S=>wpAny_isTrue_BoolOp (h V s S)
theorem Co{Q:Bool->aP->Mu->Prop}(q:Q ai Y Z):EB G B E (jb .And [] B.env) Y Z Q:=fun V s S=>wpAny_allTrue_And_nil ⟨_,Y,Z,V,S,.refl _,rfl,q⟩
theorem D8{Q:Bool->aP->Mu->Prop}(q:Q ak Y Z):EB G B E (jb .Or [] B.env) Y Z Q:=fun V s S=>wpAny_allTrue_Or_nil ⟨_,Y,Z,V,S,.refl _,rfl,q⟩
theorem Av{x:bZ}{Q:Bool->aP->Mu->Prop}(h:EB G B E (isTrue x B.env (a9 x B.env)) Y Z fun b Y' Z'=>(b=ak->Q ak Y' Z')/\(b=ai->EB G B E (jb .And rest B.env) Y' Z' Q)):EB G B E (jb .And (x::rest) B.env) Y Z Q:=by intro V s S;refine ah (WP.use h S (fun b s_1 b' Y1 Z1 V_1 S_1 k_1 i_1 z18=>aZ z18 fun q1 q2=>?_));subst i_1;cases b' with|false=>exact aH ⟨ak,Y1,Z1,V_1,S_1,k_1,rfl,q1 rfl⟩|true=>exact aQ (q2 rfl V_1 s_1 S_1) (fun zz zz=>qK.up k_1) fun zz zz x=>x
theorem Cn{x:bZ}{Q:Bool->aP->Mu->Prop}(h:EB G B E (isTrue x B.env (a9 x B.env)) Y Z fun b Y' Z'=>(b=ai->Q ai Y' Z')/\(b=ak->EB G B E (jb .Or rest B.env) Y' Z' Q)):EB G B E (jb .Or (x::rest) B.env) Y Z Q:=by intro V s S;refine ah (WP.use h S (fun b s_1 b' Y1 Z1 V_1 S_1 k_1 i_1 z21=>aZ z21 fun q1 q2=>?_));subst i_1;cases b' with|true=>exact aH ⟨ai,Y1,Z1,V_1,S_1,k_1,rfl,q1 rfl⟩|false=>exact aQ (q2 rfl V_1 s_1 S_1) (fun zz zz=>qK.up k_1) fun zz zz x=>x
theorem JL{t b o:bZ}(h:EB G B E (isTrue t B.env (a9 t B.env)) Y Z fun c Y' Z'=>(c=ai->EV G B E (a9 b B.env) Y' Z' Q)/\(c=ak->EV G B E (a9 o B.env) Y' Z' Q)):EV G B E (a9 (.IfExp t b o pos) B.env) Y Z Q:=by
 intro V s S;refine wpAny_IfExp (WP.use h S (fun c s_1 c' Y1 Z1 V_1 S_1 k_1 i_1 z24=>aZ z24 fun q1 q2=>?_));subst i_1;cases c' with
 |true=>exact aQ (q1 rfl V_1 s_1 S_1) (fun zz zz=>qK.up k_1) fun zz zz x=>x
 |false=>exact aQ (q2 rfl V_1 s_1 S_1) (fun zz zz=>qK.up k_1) fun zz zz x=>x
theorem WP.step{rel':Vw->β'->α'->Prop}{Q:β->aP->Mu->Prop}(k_1:Kp V V_1)(h:WP G B E rel t Y1 Z1 Q)(S_1:b9 (cx G B) V_1 Y1 Z1 s_1):bd (bf G.prog G.w) B.A t (qK G B rel V Q) E s_1:=aQ (h V_1 s_1 S_1) (fun zz zz=>qK.up k_1) fun zz zz x=>x
theorem MN{x y:bZ}(h:EV G B E (a9 x B.env) Y Z fun a Y' Z'=>∃c,tF a=ac c/\(c=ak->Q a Y' Z')/\(c=ai->EV G B E (a9 y B.env) Y' Z' Q)):EV G B E (a9 (.BoolOp .And [x,y] pos) B.env) Y Z Q:=by intro V s S;refine wpAny_And2 (WP.use h S (fun v s_1 a Y1 Z1 V_1 S_1 k_1 i_1 z29=>bp z29 fun c hc q1 q2=>?_));refine o7 i_1 hc ?_;cases c with|true=>exact WP.step (rel':=Is G.prog G.w) k_1 (q2 rfl) S_1|false=>exact⟨a,Y1,Z1,V_1,S_1,k_1,i_1,q1 rfl⟩
theorem QE{x y:bZ}(h:EV G B E (a9 x B.env) Y Z fun a Y' Z'=>∃c,tF a=ac c/\(c=ai->Q a Y' Z')/\(c=ak->EV G B E (a9 y B.env) Y' Z' Q)):EV G B E (a9 (.BoolOp .Or [x,y] pos) B.env) Y Z Q:=by intro V s S;refine wpAny_Or2 (WP.use h S (fun v s_1 a Y1 Z1 V_1 S_1 k_1 i_1 z31=>bp z31 fun c hc q1 q2=>?_));refine o7 i_1 hc ?_;cases c with|false=>exact WP.step (rel':=Is G.prog G.w) k_1 (q2 rfl) S_1|true=>exact⟨a,Y1,Z1,V_1,S_1,k_1,i_1,q1 rfl⟩
theorem Af{Q:Fl->aP->Mu->Prop}(q:Q .next Y Z):EX G B E (eD [] B.env) Y Z Q:=fun V s S=>i8 ⟨.next,Y,Z,V,S,.refl _,rfl,q⟩
theorem g4{st:jU}{Q:Fl->aP->Mu->Prop}(h:EX G B E (fb st B.env) Y Z (Vy G B E rest Q)):EX G B E (eD (st::rest) B.env) Y Z Q:=by
 intro V s S;refine Rw (WP.use h S (fun f s_1 a Y1 Z1 V_1 S_1 k_1 i_1 q=>?_));cases a with
 |next=>obtain rfl:f=.next:=i_1;exact WP.step (rel':=wE G.prog G.w) k_1 q S_1
 |brk=>obtain rfl:f=.brk:=i_1;exact⟨.brk,Y1,Z1,V_1,S_1,k_1,rfl,q⟩
 |cont=>obtain rfl:f=.cont:=i_1;exact⟨.cont,Y1,Z1,V_1,S_1,k_1,rfl,q⟩
 |ret d=>refine ar i_1 ?_;clear i_1;intro v z33 hv;subst z33;exact⟨.ret d,Y1,Z1,V_1,S_1,k_1,(bq v rfl hv),q⟩
theorem G9{Q:Fl->aP->Mu->Prop}(h:EV G B E (a9 e B.env) Y Z (Zt Q)):EX G B E (fb (.Return (ac e) pos) B.env) Y Z Q:=fun V s S=>wpAny_Return_some (WP.use h S (fun v s_1 d Y1 Z1 V_1 S_1 k_1 i_1 q=>⟨.ret d,Y1,Z1,V_1,S_1,k_1,(bq v rfl i_1),q⟩))
theorem UY{b o:List jU}{Q:Fl->aP->Mu->Prop}(h:EB G B E (isTrue t B.env (a9 t B.env)) Y Z fun c Y' Z'=>(c=ai->EX G B E (eD b B.env) Y' Z' Q)/\(c=ak->EX G B E (eD o B.env) Y' Z' Q)):EX G B E (fb (.If t b o pos) B.env) Y Z Q:=by intro V s S;refine wpAny_If (WP.use h S (fun c s_1 c' Y1 Z1 V_1 S_1 k_1 i_1 z36=>aZ z36 fun q1 q2=>?_));subst i_1;cases c' with|true=>exact WP.step (rel':=wE G.prog G.w) k_1 (q1 rfl) S_1|false=>exact WP.step (rel':=wE G.prog G.w) k_1 (q2 rfl) S_1
theorem JG{Q:Fl->aP->Mu->Prop}(q:Q .brk Y Z):EX G B E (fb (.Break pos) B.env) Y Z Q:=fun V s S=>wpAny_Break ⟨.brk,Y,Z,V,S,.refl _,rfl,q⟩
theorem Mz{Q:Fl->aP->Mu->Prop}(q:Q .next Y Z):EX G B E (fb (.Pass pos) B.env) Y Z Q:=fun V s S=>wpAny_Pass ⟨.next,Y,Z,V,S,.refl _,rfl,q⟩
theorem gJ{Q:Unit->ay->Prop}(O:B.Ok G)(S:b9 (cx G B) V Y Z s)(hi:Is G.prog G.w V d v)(hp:pF Y x d Y')(q:∀s',b9 (cx G B) V Y' Z s'->Q () s'):bd (bf G.prog G.w) B.A (storeName B.env x v) Q E s:=by
 refine ar S.m ?_;(try clear m);intro m hn he;refine aY hp.has fun d_0 h0=>?_;have hl:B.env.locals=B.L:=O.c.loc;refine wpAny_storeName_local (he _ h0).1 (by rw[hl];exact hn) (fun h' hn' hs=>?_) (by have:=O.c.fn;show(B.env.scope.kind==.class||(B.env.scope.kind==.module&&_))=ak;rw[show B.env.scope.kind=.function from this];rfl);rw[hl] at hn' hs;refine q _ (S.store O.c hn' hs (fun p hp'=>?_) hp.keys);rcases hp.mem S.nd p hp' with rfl|⟨hm,hne⟩;.exact⟨(he _ h0).1,fun zz=>(bq v (by simp) hi)⟩
 .refine⟨(he p hm).1,fun h=>?_⟩
  refine ar ((he p hm).2 h) fun u hu iu=>?_;exact bq u (by rw[if_neg hne];exact hu) iu
theorem Ha{Q:Fl->aP->Mu->Prop}(O:B.Ok G)(h:EV G B E (a9 e B.env) Y Z fun d Y' Z'=>∃Y'',pF Y' x d Y''/\Q .next Y'' Z')(hs:gN e (ac (.Name x xp)) pos.line B.env=pure ak):EX G B E (fb (.Assign [.Name x xp] e pos) B.env) Y Z Q:=by intro V s S;refine Rc (WP.use h S (fun v s_1 d Y1 Z1 V_1 S_1 k_1 i_1 z38=>ar z38 fun Y'' hp q=>?_)) hs;exact gJ O S_1 i_1 hp fun s' S'=>⟨.next,Y'',Z1,V_1,S',k_1,rfl,q⟩
theorem Ai{Q:List DV->aP->Mu->Prop}(q:Q [] Y Z):EL G B E (dA (cy pos (br [] B.env))) Y Z Q:=fun V s S=>wpAny_items_nil ⟨[],Y,Z,V,S,.refl _,rfl,q⟩
theorem ur{Q:List DV->aP->Mu->Prop}(h:EV G B E (a9 e B.env) Y Z (VJ G B E pos rest Q))(he:br (e::rest) B.env=(ak,a9 e B.env)::br rest B.env):EL G B E (dA (cy pos (br (e::rest) B.env))) Y Z Q:=by intro V s S;refine wpAny_items_cons (WP.use h S (fun v s_1 d Y1 Z1 V_1 S_1 k_1 i_1 h₁=>?_)) he;refine WP.use h₁ S_1 (fun vs s_2 ds Y2 Z2 V_2 S_2 k_2 i_2 q=>?_);exact⟨d::ds,Y2,Z2,V_2,S_2,k_1.trans k_2,by show Exists _;exact(bO v vs rfl (i_1.mono k_2) i_2),q⟩
end
variable{B:Bx}
theorem qE.le(h:qE A k)(hk:k'<=k):qE A k':=⟨by have:=h.1;exact YE hk this,by have:=h.2;exact YD hk this⟩
theorem qE.depth(h:qE A k):A.depth<recursionLimit:=by have:=h.1;show A.depth<1000;exact YC this
theorem b9.kin(S:b9 (cx G B) V Y Z s)(O:B.Ok G):G.K.In s.heap:=O.g.kin.keeps S.base
theorem b9.lim(S:b9 (cx G B) V Y Z s)(O:B.Ok G):s.heap.NoLimit:=O.g.lim.keeps S.base
inductive iZ:Mu->Mu->(Mu->Mu)->Prop
 |nil {m:Mu}:iZ m [] (fun zz=>m)
 |take {p:aW×MO} {m mc:Mu} {f:Mu->Mu}:iZ m mc f->iZ (p::m) (p::mc) (fun l=>match l with|[]=>f []|q::r=>q::f r)
 |skip {p:aW×MO} {m mc:Mu} {f:Mu->Mu}:iZ m mc f->iZ (p::m) mc (fun l=>p::f l)
theorem iZ.sub(h:iZ Z Zc f):∀p∈Zc,p∈Z:=by
 induction h with
 |nil=>exact fun zz h=>nomatch h
 |take _ ih=>exact fun p hp=>(ao.mp hp).elim (fun e=>e▸.head _) fun h=>.tail _ (ih p h)
 |skip _ ih=>exact fun p hp=>.tail _ (ih p hp)
theorem iZ.sublist(h:iZ Z Zc f):(Zc.map (·.1)).Sublist (Z.map (·.1)):=by induction h with|nil=>exact List.nil_sublist _|take _ ih=>exact ih.cons_cons _|skip _ ih=>exact ih.cons _
theorem iZ.keys(h:iZ Z Zc f):∀{l:Mu},l.map (·.1)=Zc.map (·.1)->(f l).map (·.1)=Z.map (·.1):=by
 induction h with
 |nil=>exact fun zz=>rfl
 |take h ih=>intro l e;cases l with|nil=>injection e|cons q r=>injection e with e1 e2;have e1:q.1=_:=e1;show q.1::(kR _ _)=_;rw[ih e2,e1];rfl
 |skip h ih=>intro l e;show _::(kR _ _)=_;rw[ih e];rfl
theorem iZ.mem(h:iZ Z Zc f)(nd:(Z.map (·.1)).Nodup):∀{l:Mu},l.map (·.1)=Zc.map (·.1)->∀p∈f l,p∈l\/(p∈Z/\p.1∉Zc.map (·.1)):=by
 induction h with
 |nil=>exact fun zz p hp=>.inr ⟨hp,by simp⟩
 |@take q Z Zc f h ih=>
  intro l e p hp;rw[au,av] at nd;cases l with|nil=>injection e|cons q' r=>
   injection e with e1 e2;rcases ao.mp hp with rfl|hp;.exact .inl (.head _)
   .rcases ih nd.2 e2 p hp with z|⟨z1,z2⟩
    .exact .inl (.tail _ z)
    .refine .inr ⟨.tail _ z1,fun q=>?_⟩
     rw[au] at q;rcases ao.mp q with q|q;.exact nd.1 (q▸ax z1)
     .exact z2 q
 |@skip q Z Zc f h ih=>
  intro l e p hp;rw[au,av] at nd;rcases ao.mp hp with rfl|hp;.refine .inr ⟨.head _,fun z=>nd.1 (h.sublist.subset z)⟩
  .rcases ih nd.2 e p hp with z|⟨z1,z2⟩
   .exact .inl z
   .exact .inr ⟨.tail _ z1,z2⟩
theorem b9.pre(S:b9 (cx G B) V Y Z s)(P:iZ Z Zc f):Eb G V Zc s:=⟨S.b0.trans S.v0,S.vh,fun p hp=>S.mu p (P.sub p hp),((av.mp S.dj).2).sublist P.sublist,fun p hp=>S.vm p (P.sub p hp)⟩
theorem b9.stk(S:b9 (cx G B) V Y Z s)(O:B.Ok G):m3 B.A (Z.map (·.1)) V s:=by
 refine ar O.stk fun l hl h=>?_;refine bq l hl (fun env he=>?_);refine sM (h env he) fun hk f hf q=>?_;have own:V B.L=aq/\B.L∉Z.map (·.1)/\∃o,s.heap.get? B.L=ac o/\∀vs,o.data≠.fields vs:=by refine ar S.m ?_;(try clear m);intro m z1 zz;refine bl z1 ?_;clear z1;intro oL es ep hL hd zz;exact⟨S.vL,(av.mp S.dj).1,oL,hL,fun vs e=>by rw[hd] at e;injection e⟩
 by_cases e:f=B.L
 .subst e
  refine Am own ?_;clear own;intro a b o c d;exact⟨hk,_,o,hf,a,b,c,d⟩
 .refine Am (q.resolve_left e) fun q1 q2 o q3 q4=>?_
  refine ar (S.pr f o q2 e q3) fun o' e' r=>?_;refine⟨hk,f,o',hf,?_,fun z=>?_,e',fun vs=>r.data▸q4 vs⟩
  .cases z:V f with
   |none=>rfl|some x=>
    rcases S.fr f (by rw[z];simp) with z'|z';.exact absurd q1 z'
    .exact absurd (aR q3) (bu.mpr z')
  .refine ar (az.mp z) fun p hp e=>?_
   subst e;rcases S.mf p hp with z'|z';.exact q2 z'
   .exact absurd (aR q3) (bu.mpr z')
theorem m3.less(h:m3 A m V s)(k:∀a∈m',a∈m):m3 A m' V s:=by refine ar h ?_;clear h;intro l hl h;refine bq l hl (fun env he=>?_);refine Hh (h env he) fun a f o b c d e=>?_;exact⟨a,f,o,b,c,fun z=>d (k f z),e⟩
theorem b9.post(S:b9 (cx G B) V Y Z s)(O:B.Ok G)(P:iZ Z Zc f)(T:Az G B.A V Zc s V' Zc' s'):b9 (cx G B) V' Y (f Zc') s':=by
 have dj:=av.mp S.dj;have ks:=P.keys (l:=Zc') T.as;have lt:=S.frLt;have nL:B.L∉Zc.map (·.1):=fun q=>dj.1 (P.sublist.subset q);refine ar S.m ?_;(try clear m);intro m hn he;refine fw hn ?_;clear hn;intro oL es ep hL r;have fresh:∀{a},a<s.heap.objs.size->V a=aq->V' a=aq:=fun {a} h1 h2=>by
  cases q:V' a with|none=>rfl|some o=>
   rcases T.fr a (by rw[q];simp) with z|z;.exact absurd h2 z
   .exact absurd h1 (bu.mpr z)
 refine ar (T.pr _ _ nL hL) fun oL' hL' nr=>?_;have r':=r;rw[<-nr.data] at r';refine⟨(bq m (oW oL' es ep hL' r') (b9.envMono T.v0 he)),S.nd,fun p hp=>?_,?_,T.vh,fresh lt S.vL,fun p hp=>?_,fun a ha=>?_,S.v0.trans T.v0,S.b0,fun p hp=>?_,fun a x n l e=>?_,ae S.sz T.sz,S.hk.mono T.v0,S.rest.trans T.rest⟩
 .rcases P.mem dj.2 T.as p hp with z|⟨z1,z2⟩
  .exact T.mu p z
  .refine aY ((S.mu p z1).at) fun o ho=>?_
   refine ar (T.pr _ _ z2 ho) fun o' ho' nr=>?_;rw[nr.1 fun z=>((S.stk O).fro z).2.1 (ax z1)] at ho';exact(S.mu p z1).mono T.v0 (ho'.trans ho.symm)
 .rw[ks];exact S.dj
 .rcases P.mem dj.2 T.as p hp with z|⟨z1,z2⟩
  .exact T.vm p z
  .exact fresh (S.muLt z1) (S.vm p z1)
 .rcases T.fr a ha with z|z
  .exact S.fr a z
  .exact .inr (ae S.sz z)
 .rcases P.mem dj.2 T.as p hp with z|⟨z1,z2⟩
  .have:p.1∈Zc.map (·.1):=T.as▸ax z
   refine ar (az.mp this) fun q hq e=>?_;exact e▸S.mf q (P.sub q hq)
  .exact S.mf p z1
 .refine ar (S.pr a x n l e) fun x' e' r'=>?_
  by_cases q:a∈Zc.map (·.1)
  .refine ar (az.mp q) fun p hp ep=>?_
   subst ep;rcases S.mf p (P.sub p hp) with z|z;.exact absurd z n
   .exact absurd (aR e) (bu.mpr z)
  .refine ar (T.pr a x' q e') fun x'' e'' r''=>?_
   exact bq x'' e'' (r'.trans r'')
abbrev cI(G:G0)(B:Bx)(E:aE->ay->Prop)(f:aE)(ds:List DV)(Y:aP)(Z:Mu)(Q:DV->aP->Mu->Prop):Prop:=OL G B E (Is G.prog G.w) (fun vs=>call f vs) ds Y Z Q
theorem eT(O:B.Ok G)(H:gf G hd k f ds Zc R (fun zz zz zz zz zz=>False))(hh:hd=ai\/B.hd=ak)(P:iZ Z Zc re)(hk:k<=B.k)(q:∀d Zc',R d Zc'->Q d Y (re Zc')):cI G B E f ds Y Z Q:=by intro V s vs S hi;refine ky (dP (H B.A V s vs (O.room.le hk) (fun e=>hh.elim (fun z=>by rw[z] at e;injection e) O.calm) S.hk ((S.stk O).less fun a z=>P.sublist.subset z) (S.pre P) hi) (oY.mono (fun r s' z2=>bl z2 fun d Z' V' T i h=>?_) fun zz zz x=>x.elim));exact⟨d,Y,re Z',V',S.post O P T,T.v0,i,q d Z' h⟩
inductive nw:Mu->Mu->Mu->Mu->Prop
 |nil {m:Mu}:nw m [] [] m
 |take {p q:aW×MO} {m mc nc n:Mu}:nw m mc nc n->nw (p::m) (p::mc) (q::nc) (q::n)
 |skip {p:aW×MO} {m mc nc n:Mu}:nw m mc nc n->nw (p::m) mc nc (p::n)
theorem nw.id:∀m,nw m m m m:=by intro p0_;induction p0_ with|nil=>exact .nil|cons _ r ih=>exact .take (ih)
set_option tactic.hygienic true in
theorem nw.pick(h:nw m mc nc n):∃f,iZ m mc f/\f nc=n:=by
 induction h with
 |nil=>exact bq _ .nil rfl|take _ ih=>refine ar ih ?_;clear ih;intro f a z3;subst z3;exact bq _ (.take a) rfl
 |skip _ ih=>refine ar ih ?_;clear ih;intro f a z4;subst z4;exact bq _ (.skip a) rfl
theorem aw{Zc νc ν:Mu}(O:B.Ok G)(H:gf G hd k f ds Zc (fun d Z'=>d=D/\Z'=νc) (fun zz zz zz zz zz=>False))(hh:hd=ai\/B.hd=ak)(P:nw Z Zc νc ν)(hk:k<=B.k)(q:Q D Y ν):cI G B E f ds Y Z Q:=by refine ar P.pick fun g a e=>?_;exact eT O H hh a hk fun d Z' h=>by rw[h.1,h.2,e];exact q
theorem cN(h:B.k=n)(e:gV m n=ai):m<=B.k:=h▸aj e
theorem wx(O:B.Ok G)(H:gf G hd k f ds Zc R E')(hh:hd=ai\/B.hd=ak)(P:iZ Z Zc re)(hk:k<=B.k)(q:∀d Zc',R d Zc'->Q d Y (re Zc'))(he:∀V s e s',b9 (cx G B) V Y Z s->E' B.A V s e s'->E e s'):cI G B E f ds Y Z Q:=by intro V s vs S hi;refine ky (dP (H B.A V s vs (O.room.le hk) (fun e=>hh.elim (fun z=>by rw[z] at e;injection e) O.calm) S.hk ((S.stk O).less fun a z=>P.sublist.subset z) (S.pre P) hi) (oY.mono (fun r s' z5=>bl z5 fun d Z' V' T i h=>?_) fun e s' x=>he V s e s' S x));exact⟨d,Y,re Z',V',S.post O P T,T.v0,i,q d Z' h⟩
def bH(G:G0)(f:aE):Prop:=∀M h,G.K.In h->∃k,(k=Keeper.frame\/k=Keeper.machine\/k=Keeper.boundFrame)/\lI M h (keeperOf f) k
theorem cj(h:keepIn G.K f=ai):bH G f:=fun M zz X=>keeps_K (M:=M) h _ X
theorem kc{id:String}:bH G (.builtin id):=fun zz zz zz=>(bq .machine (.inr (.inl rfl)) .now)
theorem GT{id:String}:bH G (.type id):=fun zz zz zz=>(bq .machine (.inr (.inl rfl)) .now)
theorem rA{Q:Args->ay->Prop}(h:bd M A (dA (cy pos (br args env))) (fun vs s'=>Q ⟨vs,[]⟩ s') E s)(hp:(cy pos (br args env)).any (·.1)=ak):bd M A (evalArgs f ai (cy pos (br args env)) []) Q E s:=by
 revert h hp;generalize cy pos (br args env)=l;intro h hp;cases l with
 |nil=>intro Γ p hΓ;have q:=h Γ p hΓ;rw[show dA []=pure [] from rfl,Sem.wp_pure'] at q;exact evalArgs_nil3 q Γ p hΓ
 |cons x r=>
  obtain⟨b,t⟩:=x;have hb:b=ak:=by cases b with|false=>rfl|true=>simp at hp
  subst hb;exact evalArgs_plain h
theorem rF{ds:List DV}(O:B.Ok G)(hf:bH G f)(S:b9 (cx G B) V Y Z s)(hi:gO G.prog G.w V ds first)(h:EL G B E (dA (cy pos (br args B.env))) Y Z fun es Y' Z'=>cI G B E f (ds++es) Y' Z' Q)(hp:(cy pos (br args B.env)).any (·.1)=ak):bd (bf G.prog G.w) B.A (rY pos f first (cy pos (br args B.env)) []) (qK G B (Is G.prog G.w) V Q) E s:=by
 refine callWith_of (P:=fun h=>G.K.In h) (by rw[hp];rfl) (hf _) (rA (WP.use h S (fun vs s_1 es Y1 Z1 V_1 S_1 k_1 i_1 c=>⟨S_1.kin O,?_⟩)) hp);have app:∀{ds es:List DV}{us vs:List aE},gO G.prog G.w V_1 ds us->gO G.prog G.w V_1 es vs->gO G.prog G.w V_1 (ds++es) (us++vs):=by
  intro ds;induction ds with
  |nil=>intro es us vs h1 h2;obtain rfl:=be.mp h1;exact h2
  |cons d r ih=>intro es us vs h1 h2;refine aM (aG.mp h1) fun v rs z7 a b=>?_;subst z7;exact aG.mpr (bO v (rs++vs) rfl a (ih b h2))
 exact aQ (c V_1 s_1 _ S_1 (app (hi.mono k_1) i_1)) (fun zz zz=>qK.up k_1) fun zz zz x=>x
theorem MJ(O:B.Ok G)(h:EV G B E (a9 func B.env) Y Z fun fd Y1 Z1=>∃f,fd=.raw f/\bH G f/\EL G B E (dA (cy pos (br args B.env))) Y1 Z1 fun ds Y' Z'=>cI G B E f ds Y' Z' Q)(he:a9 (.Call func args [] pos) B.env=(do rY pos (<-a9 func B.env) [] (cy pos (br args B.env)) (pG pos (jw [] B.env))))(hp:(cy pos (br args B.env)).any (·.1)=ak):EV G B E (a9 (.Call func args [] pos) B.env) Y Z Q:=by intro V s S;rw[he];refine ah (WP.use h S (fun v s_1 fd Y1 Z1 V_1 S_1 k_1 i_1 z10=>bp z10 fun f e hf h₁=>?_));subst e;refine aZ (aT.mp i_1) fun z11 zz=>?_;subst z11;exact aQ (rF (ds:=[]) O hf S_1 (be.mpr rfl) h₁ hp) (fun zz zz=>qK.up k_1) fun zz zz x=>x
theorem JJ{o:bZ}(O:B.Ok G)(h:EV G B E (a9 o B.env) Y Z fun d Y1 Z1=>∃f ds,(∀V s v A P E,b9 (cx G B) V Y1 Z1 s->Is G.prog G.w V d v->(∀first s',gO G.prog G.w V ds first->b9 (cx G B) V Y1 Z1 s'->P (f,first) s')->bd (bf G.prog G.w) A (jx v name pl) P E s)/\bH G f/\EL G B E (dA (cy pos (br args B.env))) Y1 Z1 fun es Y' Z'=>cI G B E f (ds++es) Y' Z' Q)
  (he:a9 (.Call (.Attribute o name apos) args [] pos) B.env=(do
     let ov <-a9 o B.env
     sT apos.atName
     let (f,first) <-holding [ov] (jx ov name pl)
     rY pos f first (cy pos (br args B.env)) (pG pos (jw [] B.env))))
  (hp:(cy pos (br args B.env)).any (·.1)=ak):EV G B E (a9 (.Call (.Attribute o name apos) args [] pos) B.env) Y Z Q:=by
 intro V s S;refine methodCall_KW (pl:=pl) (WP.use h S (fun v s_1 d Y1 Z1 V_1 S_1 k_1 i_1 z14=>aM z14 fun f ds hm hf h₁=>?_)) he;refine hm V_1 s_1 v _ _ _ S_1 i_1 fun first s_2 hi S_2=>?_
 exact aQ (rF O hf S_2 hi h₁ hp) (fun zz zz=>qK.up k_1) fun zz zz x=>x
theorem b9.perm(S:b9 C V Y Z s)(h:Z.Perm Z'):b9 C V Y Z' s:=⟨S.m,S.nd,fun p hp=>S.mu p (h.mem_iff.mpr hp),((h.map (·.1)).cons C.L).nodup_iff.mp S.dj,S.vh,S.vL,fun p hp=>S.vm p (h.mem_iff.mpr hp),S.fr,S.v0,S.b0,fun p hp=>S.mf p (h.mem_iff.mpr hp),S.pr,S.sz,S.hk,S.rest⟩
noncomputable def Rt:MO->Option DV|.lst l=>ac (.lst l)|.sdic l=>ac (.sdic l)|.idic l=>ac (.idic l)|_=>aq
theorem sC{mo:MO}(e:Rt mo=ac d)(m:ju prog w V h a mo)(ho:h a=ac o)(k:Kp V V')(hv:V' a=ac o):Is prog w V' d (.ref a):=by
 cases mo with
 |lst l=>(injection e with e;subst e);refine bU m ?_;clear m;intro o' vs n h1 h2 h3 h4 h5;rw[ho] at h1;(injection h1 with h1;subst h1);show Exists _;exact cJ a o vs n rfl hv h2 h3 h4 (h5.mono k)
 |sdic l=>(injection e with e;subst e);refine bB m ?_;clear m;intro o' kvs h1 h2 h3 h4;rw[ho] at h1;(injection h1 with h1;subst h1);show Exists _;exact cZ a o kvs rfl hv h2 h3 (h4.mono k)
 |idic l=>(injection e with e;subst e);refine bB m ?_;clear m;intro o' kvs h1 h2 h3 h4;rw[ho] at h1;(injection h1 with h1;subst h1);show Exists _;exact cZ a o kvs rfl hv h2 h3 (h4.mono k)
 |_=>injection e
def ki(Z0:Mu)(R:DV->Mu->Prop):Fl->aP->Mu->Prop:=fun fl Y' Z'=>∃loc Zr d,Z'.Perm (loc++Zr)/\Zr.map (·.1)=Z0.map (·.1)/\R d Zr/\(fl=.ret d\/(fl=.next/\d=.none)\/∃a mo,fl=.ret (.ptr a)/\(a,mo)∈loc/\Rt mo=ac d)
noncomputable abbrev su(A:fQ)(env:Op)(V:Vw)(Z0:Mu)(s:ay)(k:Nat)(hd:Bool):Bx:=⟨A.deeper env,env,s.heap.objs.size,V,Z0.map (·.1),s,k,hd⟩
theorem qY(g:G.Ok)(c:(cx G (su A env V Z s k hd)).Ok)(hf:env.frame=ac s.heap.objs.size)(rm:qE A (k+1))(hc:hd=ak->A.handled=aq)(hstk:m3 A (Z.map (·.1)) V s):(su A env V Z s k hd).Ok G:=by
 refine⟨g,c,⟨om8 rm.1,om9 rm.2⟩,hc,?_⟩;refine ar hstk fun l hl h=>(bq _ (e8 hl) (fun e he=>?_))
 rcases ao.mp he with rfl|he;.exact⟨fun z=>by have:=c.fn;rw[show(cx G (su A e V Z s k hd)).env=e from rfl,z] at this;injection this,_,hf,.inl rfl⟩
 .exact gz (h e he) fun a f o b c d e e'=>⟨a,f,b,.inr ⟨c,d,o,e,e'⟩⟩
theorem DH(hstk:m3 A m V s)(hf:env.frame=ac L)(n:a≠L)(h:a∉mV A):a∉mV (A.deeper env):=fun z=>by
 refine ar hstk fun l hl zz=>?_;unfold mV at h z;rw[e8 hl] at z;rw[hl] at h;refine ar (cm.mp z) fun e he hf'=>?_;rcases ao.mp he with rfl|he;.exact n (aB (hf'.symm.trans hf))
 .exact h (cm.mpr (bq e he hf'))
theorem y0{h:jk}(e:h.get? a=ac o):a≠h.objs.size:=bP (aR e)
theorem Eb.nV(P:Eb G V Z s)(h:s.heap.objs.size<=a):V a=aq:=by cases q:V a with|none=>rfl|some o=>exact absurd (aR (P.vh _ _ q)) (bu.mpr h)
theorem sf{t:Nat}(P:Eb G V Z s)(hh:CG A V)(m:∃m,h₁.Ns s.heap.objs.size m/\Ct (cx G (su A env V Z s k hd)) V Y m)(nd:(Y.map (·.1)).Nodup)(hk_1:∀b o,s.heap.get? b=ac o->h₁.get? b=ac o):b9 (cx G (su A env V Z s k hd)) V Y Z {s with heap:=h₁,toks:=t}:=by
 refine⟨m,nd,fun p hp=>?_,?_,fun a o e=>hk_1 _ _ (P.vh _ _ e),P.nV (aI _),P.vm,fun a ha=>.inl ha,.refl _,P.b0,fun p hp=>.inl (ax hp),fun a o zz zz e=>(bq o (hk_1 _ _ e) (.refl o)),ar m fun _ h _=>b8 h.lt,hh,.refl s⟩;.exact aY ((P.mu p hp).at) fun o ho=>(P.mu p hp).mono (.refl _) ((hk_1 _ _ ho).trans ho.symm)
 .exact av.mpr ⟨fun q=>ar (az.mp q) fun p hp e=>aY ((P.mu p hp).at) fun o ho=>y0 ho e,P.nd⟩
theorem pi{Z0 loc Zr:Mu}(hstk:m3 A (Z0.map (·.1)) V s)(hf:env.frame=ac s.heap.objs.size)(S:b9 (cx G (su A env V Z0 s k hd)) V' Y (loc++Zr) s')(has:Zr.map (·.1)=Z0.map (·.1)):Az G A V Z0 s V' Zr s':=⟨S.v0,S.vh,S.fr,fun p hp=>S.mu p (aK _ hp),has,fun p hp=>S.vm p (aK _ hp),fun a o n e=>ar (S.pr a o n (y0 e) e) fun o' e' r=>(bq o' e' (r.sub (DH hstk hf (y0 e)))),S.sz,S.rest⟩
theorem NX{a:Fl}(hstk:m3 A (Z0.map (·.1)) V s)(hf:env.frame=ac s.heap.objs.size)(S:b9 (cx G (su A env V Z0 s k hd)) V' Y Z s')(i:wE G.prog G.w V' a fl)(z:ki Z0 R a Y Z):∃d Zr V'' v,Az G A V Z0 s V'' Zr s'/\R d Zr/\Is G.prog G.w V'' d v/\(fl=.ret v\/fl=.next/\v=.none):=by
 refine eB z fun loc Zr d e has hR hfl=>?_;have S':=S.perm e;rcases hfl with rfl|⟨rfl,rfl⟩|⟨x,mo,rfl,hx,hmo⟩;.exact ar i fun v z hv=>(fF d Zr V' v (pi hstk hf S' has) hR hv (.inl z))
 .exact fF .none Zr V' .none (pi hstk hf S' has) hR (aT.mpr ⟨rfl,rfl⟩) (.inr ⟨i,rfl⟩)
 .refine ar i fun v z hv=>?_
  refine aZ (aT.mp hv) fun z20 zz=>?_;refine g5 (List.append_of_mem hx) fun l1 l2 z21=>?_;rw[z21,gq,KG] at S';have hm:=S'.mu (x,mo) (aK _ (.head _));refine aY hm.at fun ox hox=>?_;have nx:x∉Z0.map (·.1):=fun q=>by have:=(av.mp S'.dj).2;rw[aA,au,bC,av] at this;exact this.2.1.1 (by rw[aA];exact aK _ (has▸q))
  have S2:=S'.freeze (S'.big nx) hox;rw[<-gq] at S2;exact fF d Zr (fR V' x ox) v (pi hstk hf S2 has) hR (z20▸sC hmo hm hox (c9 (S'.vm (x,mo) (aK _ (.head _)))) (bT _ _ _)) (.inl z)
theorem JW{E:fQ->Vw->ay->aE->ay->Prop}{EE:Bx->aE->ay->Prop}(g:G.Ok)(ho:G.K.lookup f=ac o)(hdata:o.data=.func fd)(hb:fd.body=.stmts body)(hco:fd.scope.isCoroutine=ak)(hgen:fd.scope.isGenerator=ak)(hk:fd.scope.kind=.function)(hcell:∀x∈fd.scope.names,x.2≠.cell)(hgl:fd.globals=ce)(hbu:fd.builtins=d7)(hcd:nR G.K fd.code fd.qualname=ai)(bind:∀V s vs,Kp G.hb.get? V->Kp V s.heap.get?->gO G.prog G.w V ds vs->∃binds,w4 s fd ⟨vs,[]⟩ binds/\(∀x∈binds,fd.scope.names.lookup x.1=ac .local)/\∀p∈Y0,fd.scope.names.lookup p.1=ac .local/\(p.2≠.any->∃v,binds.reverse.lookup p.1=ac v/\Is G.prog G.w V p.2 v))(hns:Y0.map (·.1)=ns)(nd:ns.Nodup)(hE:∀A V s B,B=⟨A.deeper (nI fd s.heap.objs.size f),nI fd s.heap.objs.size f,s.heap.objs.size,V,Z0.map (·.1),s,k,hd⟩->B.Ok G->m3 A (Z0.map (·.1)) V s->∀e s',EE B e s'->bd (bf G.prog G.w) B.A (leaving B.env e) (fun zz s''=>E A V s e s'') (fun e' s''=>E A V s e' s'') s')(H:∀B,B.Ok G->B.env.frame=ac B.L->(∃l,B.A.frames=ac (B.env::l))->B.k=k->B.hd=hd->B.env=nI fd B.L f->B.m0=Z0.map (·.1)->EX G B (EE B) (eD body B.env) Y0 Z0 (ki Z0 R)):gf G hd (k+1) (.ref f) ds Z0 R E:=by intro A V s vs rm hcalm hh hstk P hi;have kb:∀b o,G.hb.get? b=ac o->s.heap.get? b=ac o:=fun b o e=>P.vh _ _ (P.b0 _ _ e);refine bp (bind V s vs P.b0 P.vh hi) fun binds hbind hloc hY=>?_;refine RH (binds:=binds) rm.depth ((g.kin.keeps kb) _ _ ho) hdata (g.lim.keeps kb) (CL (g.kin.keeps kb) hcd) hb hbind hcell hloc (fun h₁ hns' hk_1=>?_) hco hgen hk;have OB:(su A (nI fd s.heap.objs.size f) V Z0 s k hd).Ok G:=qY g ⟨hk,rfl,hgl,hbu⟩ rfl rm hcalm hstk;refine aQ (H _ OB rfl (ar hstk fun l hl _=>⟨l,e8 hl⟩) rfl rfl rfl rfl V _ (sf P hh (bq _ hns' (fun p hp=>hY p hp)) (hns▸nd) hk_1)) (fun fl s' z16=>iI z16 fun a Y' Z' V' S' k' i' z17=>d9 (NX hstk rfl S' i' z17) fun d Zr V'' v T hR hv h=>?_) fun e s'' x=>hE A V s _ rfl OB hstk e s'' x;rcases h with rfl|⟨rfl,rfl⟩<;>exact i0 d Zr V'' T hv hR
theorem E8{Y0:aP}(g:G.Ok)(ho:G.K.lookup f=ac o)(hdata:o.data=.func fd)(hb:fd.body=.stmts body)(hco:fd.scope.isCoroutine=ak)(hgen:fd.scope.isGenerator=ak)(hk:fd.scope.kind=.function)(hcell:∀x∈fd.scope.names,x.2≠.cell)(hgl:fd.globals=ce)(hbu:fd.builtins=d7)(hcd:nR G.K fd.code fd.qualname=ai)(bind:∀V s vs,Kp G.hb.get? V->Kp V s.heap.get?->gO G.prog G.w V ds vs->∃binds,w4 s fd ⟨vs,[]⟩ binds/\(∀x∈binds,fd.scope.names.lookup x.1=ac .local)/\∀p∈Y0,fd.scope.names.lookup p.1=ac .local/\(p.2≠.any->∃v,binds.reverse.lookup p.1=ac v/\Is G.prog G.w V p.2 v)){ns:List aV}(hns:Y0.map (·.1)=ns)(nd:ns.Nodup)(H:∀B,B.Ok G->B.k=k->B.hd=hd->B.env=nI fd B.L f->B.m0=Z0.map (·.1)->EX G B (fun zz zz=>False) (eD body B.env) Y0 Z0 (ki Z0 R)):gf G hd (k+1) (.ref f) ds Z0 R (fun zz zz zz zz zz=>False):=JW (EE:=fun zz zz zz=>False) g ho hdata hb hco hgen hk hcell hgl hbu hcd bind hns nd (fun zz zz zz zz zz zz zz zz zz h=>h.elim) fun B O zz zz=>H B O
structure ms (G:G0) (C:aW):Prop where
 plain:KW G.K C "" = ai
 dict:hasDictIn G.K C=ai
theorem j7{K:Oo}{n m:aV}(h:KW K C n=ai):KW K C m=ai:=h
theorem Mh:∀{l:List (aV×DV)}{es:List mA},yx G.prog G.w V l es->(l.map (·.1)).Nodup->CF l x d->∃v,getL x es=ac (ac v)/\Is G.prog G.w V d v:=by
 intro l es h nd hx;suffices ∃e,es.find? (·.key.isStr x)=ac e/\Is G.prog G.w V d e.val by refine ar this ?_;clear this;intro e he hi;exact bq e.val (by unfold getL;rw[he]) hi
 induction hx generalizing es with
 |@head y d r=>refine bB h ?_;clear h;intro e rs z22 z23 hi zz;subst z22;refine aY z23 ?_;clear z23;intro t hk;exact bq e (by rw[bh,hk,show(tJ y t).isStr y=ai from by simp[pH]]) hi
 |@tail p r y d hx ih=>
  obtain⟨z,dz⟩:=p;refine bB h ?_;clear h;intro e rs z24 z25 hi hr;subst z24;refine aY z25 ?_;clear z25;intro t hk;rw[au,av] at nd;have ne:(tJ z t).isStr y=ak:=by have:z≠y:=fun q=>nd.1 (az.mpr (bq _ hx.mem q.symm));simpa[pH] using this
  refine ar (ih hr nd.2) fun e' he' hi'=>?_;exact bq e' (by rw[bh,hk,ne];exact he') hi'
theorem Jl:∀{l:List (aV×DV)}{es:List mA},yx G.prog G.w V l es->(l.map (·.1)).contains x=ak->getL x es=ac aq
 |l,es,h,hx=>by
  have key:es.find? (·.key.isStr x)=aq/\es.any (·.refKey)=ak:=by
   induction l generalizing es with|nil=>subst h;exact⟨rfl,rfl⟩|cons p r ih=>
    obtain⟨z,dz⟩:=p;refine bB h ?_;clear h;intro e rs z26 z27 hi hr;subst z26;refine aY z27 ?_;clear z27;intro t hk;rw[au,dq,fm] at hx;refine aZ (ih _ hr hx.2) fun a b=>?_;have ne:(tJ z t).isStr x=ak:=by
     have:x≠z:=by simpa using hx.1
     simpa[pH] using fun q=>this (Ld q)
    refine⟨by rw[bh,hk,ne];exact a,?_⟩;rw[dD,b,qM];unfold aB';rw[hk]
  unfold getL;rw[key.1];simp[key.2]
theorem zO(h:Is G.prog G.w V (.inst C l) v)(k:Kp V s.heap.get?):∃a dx es n,v=.ref a/\InstAt s.heap a (cn C dx) C (ac (jg es n))/\yx G.prog G.w V l es:=by refine d9 h ?_;clear h;intro a dx es n z28 h1 h2 h3;subst z28;exact kh a dx es n rfl ⟨k _ _ h1,rfl,rfl,k _ _ h2⟩ h3
theorem G4(O:B.Ok G)(S:b9 (cx G B) V Y Z s)(h:Is G.prog G.w V (.inst C l) v)(hc:ms G C)(ha:kz G.K (.ref C) name=ac attr)(hn:noGet G.K attr=ai)(hl:l.map (·.1)=ns)(nd:ns.Nodup)(hx:CF l name d)(q:∀u s',b9 (cx G B) V Y Z s'->Is G.prog G.w V d u->P u s'):bd (bf G.prog G.w) A (getAttr v name expr) P E s:=by refine fD (zO h S.vh) fun a dx es n z29 I hf=>?_;subst z29;refine ar (Mh hf (hl▸nd) hx) fun u hu iu=>?_;exact get_value (S.kin O) I (rV (j7 (m:=name) hc.plain)).1 (findObj_own hc.dict ha hn hu) iu.handed (q _ _ (S.sat_toks _) iu)
theorem ML(O:B.Ok G)(h:EV G B E (a9 e B.env) Y Z fun d Y' Z'=>∃C l ns attr d',d=.inst C l/\ms G C/\kz G.K (.ref C) name=ac attr/\noGet G.K attr=ai/\l.map (·.1)=ns/\ns.Nodup/\CF l name d'/\Q d' Y' Z')(he:a9 (.Attribute e name pos) B.env=(do let o <-a9 e B.env;sT pos.atName;let r <-holding [o] (getAttr o name ai);WU e o r;pure r)):EV G B E (a9 (.Attribute e name pos) B.env) Y Z Q:=by intro V s S;refine Attribute_any_ (WP.use h S (fun v s_1 d Y1 Z1 V_1 S_1 k_1 i_1 z31=>ei z31 fun C l ns attr d' y42=>iX y42 fun e hc ha hn hl y43=>jK y43 fun nd hx q=>?_)) he;subst e;exact G4 O S_1 i_1 hc ha hn hl nd hx fun u s' S' iu=>⟨d',Y1,Z1,V_1,S',k_1,iu,q⟩
theorem GE(O:B.Ok G)(hc:ms G C)(hf:kz G.K (.ref C) name=ac (ac (.ref f)))(ht:isFn G.K (.ref f)=ai)(hl:l.map (·.1)=ns)(hx:ns.contains name=ak):∀V s v A P E,b9 (cx G B) V Y Z s->Is G.prog G.w V (.inst C l) v->(∀first s',gO G.prog G.w V [.inst C l] first->b9 (cx G B) V Y Z s'->P (.ref f,first) s')->bd (bf G.prog G.w) A (jx v name pl) P E s:=by intro V s v A P E S h q;have h':=h;refine fD (zO h S.vh) fun a dx es n z32 I hF=>?_;subst z32;refine method_fn (S.kin O) I (rV (j7 (m:=name) hc.plain)).1 (rV (j7 (m:=name) hc.plain)).2 hf (beq_iff_eq.mp ht) ?_ (q _ _ (aG.mpr (bO _ _ rfl h' (be.mpr rfl))) S);show(lookIn name (jg es n)).map _=_;rw[lookIn_dict,Jl hF (hl▸hx)];rfl
theorem bb:∀{ds:List DV}{vs:List aE},gO prog w V ds vs->vs.length=ds.length:=by
 intro p0_;induction p0_ with
 |nil=>intro vs h;obtain rfl:=be.mp h;rfl
 |cons d r ih=>intro vs h;refine aM (aG.mp h) ?_;clear h;intro v rs z33 _ h;subst z33;rw[cK,cK,ih h]
theorem Lo(O:B.Ok G)(S:b9 (cx G B) V Y Z s)(hi:gO G.prog G.w V ds vs)(hl:ds.length<=1000000)(q:∀v s' V',b9 (cx G B) V' Y Z s'->Kp V V'->Is G.prog G.w V' (.tup ds) v->P v s'):bd (bf G.prog G.w) A (WS vs) P E s:=by refine dk (q _ _ _ (S.alloc O.c _ rfl) (c9 S.fresh) ?_) (by show vs.toArray.size<=fY;rw[lK,bb hi,AE];exact jd hl rfl);show Exists _;exact cJ _ _ vs.toArray 0 rfl (bT _ _ _) rfl ⟨rfl,rfl⟩ rfl (by simpa using hi.mono (c9 S.fresh))
theorem LZ(O:B.Ok G)(S:b9 (cx G B) V Y Z s)(hi:gO G.prog G.w V ds vs)(hl:ds.length<=1000000)(q:∀v s' V',b9 (cx G B) V' Y Z s'->Kp V V'->Is G.prog G.w V' (.lst ds) v->P v s'):bd (bf G.prog G.w) A (HT vs) P E s:=by refine dk (q _ _ _ (S.alloc O.c _ rfl) (c9 S.fresh) ?_) (by show vs.toArray.size<=fY;rw[lK,bb hi,AE];exact jd hl rfl);show Exists _;exact cJ _ _ vs.toArray 0 rfl (bT _ _ _) rfl ⟨rfl,rfl⟩ rfl (by simpa using hi.mono (c9 S.fresh))
theorem GJ(O:B.Ok G)(S:b9 (cx G B) V Y Z s)(hi:gO G.prog G.w V ds vs)(hl:ds.length<=1000000)(q:∀a s',b9 (cx G B) V Y ((a,.lst ds)::Z) s'->P (.ref a) s'):bd (bf G.prog G.w) A (HT vs) P E s:=by refine dk (q _ _ (S.allocMu O.c _ _ rfl (cZ _ vs.toArray 0 (aN _ rfl) rfl ⟨rfl,rfl⟩ rfl (show gO G.prog G.w V ds vs.toArray.toList by simpa using hi)))) (by show vs.toArray.size<=fY;rw[lK,bb hi,AE];exact jd hl rfl)
theorem JH(O:B.Ok G)(h:EL G B E (dA (cy pos (br elts B.env))) Y Z fun ds Y' Z'=>ds.length<=1000000/\Q (.tup ds) Y' Z'):EV G B E (a9 (.Tuple elts k pos) B.env) Y Z Q:=by intro V s S;refine Tuple_ (WP.use h S (fun vs s_1 ds Y1 Z1 V_1 S_1 k_1 i_1 z35=>aZ z35 fun hl q=>?_));exact Lo O S_1 i_1 hl fun v s' V' S' k' i'=>⟨_,Y1,Z1,V',S',k_1.trans k',i',q⟩
abbrev ZC(Q:DV->aP->Mu->Prop):List DV->aP->Mu->Prop:=fun ds Y' Z'=>ds.length<=1000000/\Q (.lst ds) Y' Z'
theorem eL(O:B.Ok G)(h:EL G B E (dA (cy pos (br elts B.env))) Y Z (ZC Q)):EV G B E (a9 (.List elts pos) B.env) Y Z Q:=by intro V s S;refine List_ (WP.use h S (fun vs s_1 ds Y1 Z1 V_1 S_1 k_1 i_1 z37=>aZ z37 fun hl q=>?_));exact LZ O S_1 i_1 hl fun v s' V' S' k' i'=>⟨_,Y1,Z1,V',S',k_1.trans k',i',q⟩
theorem pB(O:B.Ok G)(h:EL G B E (dA (cy pos (br elts B.env))) Y Z fun ds Y' Z'=>ds.length<=1000000/\∀a,Q (.ptr a) Y' ((a,.lst ds)::Z')):EV G B E (a9 (.List elts pos) B.env) Y Z Q:=by intro V s S;refine List_ (WP.use h S (fun vs s_1 ds Y1 Z1 V_1 S_1 k_1 i_1 z39=>aZ z39 fun hl q=>?_));exact GJ O S_1 i_1 hl fun a s' S'=>⟨_,Y1,_,V_1,S',k_1,aT.mpr ⟨rfl,rfl⟩,q a⟩
theorem Fn{id:String}{B:gS}{args:List aE}{Q:aE->ay->Prop}(kind:builtinKind id=aq)(plain:plainId id=ai)(entry:WY table id=ac B)(ok:argsOk id ⟨args,[]⟩)(hfin:bd (bf prog w) A.in1 (B ⟨args,[]⟩) (fun fin s'=>match fin with|.done f=>wants Q E (.ok f) s'|.again c'=>c'.quiet=ai/\fH (bf prog w) A c' (wants Q E) s') (fun e s'=>wants Q E (.error e) s') s):bd (bf prog w) A (call (.builtin id) args) Q E s:=call_function_any kind plain entry ok hfin
noncomputable def RX:DV->Option aE|.raw .none=>ac (.type "NoneType")|.raw (.bool _)=>ac (.type "bool")|.int _=>ac (.type "int")|.str _=>ac (.type "str")|.tup _=>ac (.type "tuple")|.lst _=>ac (.type "list")|.sdic _=>ac (.type "dict")|.idic _=>ac (.type "dict")|.inst C _=>ac (.ref C)|_=>aq
theorem oB{K:Oo}{dep:Int}{Q:Fin->ay->Prop}(X:K.In s.heap)(Lt:lI (bf prog w) s.heap (iL v) tv)(Lc:lI (bf prog w) s.heap (iL c) (.type "type"))(Ly:lI (bf prog w) s.heap (Og c) ai)(Ls:lI (bf prog w) s.heap (isSubtype tv c) r)(Lv:lI (bf prog w) s.heap (Og tv) ai)(he:(tv==c)=ai->r=ai)(ha:r=ak->∀P,P (ac tv) {s with toks:=s.toks+1}->bd (bf prog w) A (wT v "__class__") P E s)(h:∀t,Q (.done (.ret (.bool r))) {s with toks:=t}):bd (bf prog w) A (gS.«isinstance.nested» ⟨[v,c,.int dep tk],[]⟩) Q E s:=by
 obtain⟨hh,g,d,tt,os⟩:=s;unfold gS.«isinstance.nested»;refine ah (Lt.at ?_);by_cases q:(tv==c)=ai
 .rw[if_pos q]
  obtain rfl:=he q;exact ah (qd (ah (aH (aH (h tt)))))
 .rw[if_neg q]
  refine ah (Lc.at ?_);rw[if_pos (by decide)];k_delta "plainIsInstance";have Li:lI (bf prog w) hh (Oh v c) r:=Lt.andThen Ls;refine ah (ah (Ly.at ?_));rw[if_neg (show ¬(!ai)=ai by decide)];refine ah (Li.at ?_);cases r with|true=>rw[if_pos rfl];exact aH (aH (h tt))|false=>rw[if_neg (show ¬ak=ai by decide)];refine ah (aQ (ha rfl (fun r s'=>r=ac tv/\s'=⟨hh,g,d,tt+1,os⟩) ⟨rfl,rfl⟩) (fun r s' z1=>aZ z1 fun e1 e2=>?_) fun zz zz x=>x);subst e1 e2;refine ah (Lv.at ?_);rw[if_neg (show ¬(!ai)=ai by decide)];exact ah (qd (Ls.at (aH (h _))))
structure pQ (G:G0) (c:aE):Prop where
 ty:∀M h,G.K.In h->lI M h (iL c) (.type "type")
 is:∀M h,G.K.In h->lI M h (Og c) ai
theorem J9(h:HR G.K (.ref C)=ac (.type "type"))(hc:(Ri G.K C).isSome=ai):pQ G (.ref C):=by
 refine⟨fun M zz X=>looks_typeIn X h,fun M zz X=>?_⟩;refine aY (cu.mp hc) ?_;clear hc;intro cd hc;unfold Ri at hc;split at hc
 .rename_i q
  exact(CP (X _ _ q)).andThen .now
 .injection hc
theorem Hr{T:String}(h:pureOf (builtinType T)=ac (.type "type")\/iL (.type T)=pure (.type "type"))(h2:iL (.type T)=pure (.type "type")):pQ G (.type T):=⟨fun zz zz zz=>hX h2,fun zz zz zz=>.now⟩
theorem Ii{C:aE->aE->Prop}(hi:Is G.prog G.w V d v)(h:RX d=ac tv)(hn:C .none (.type "NoneType"))(hb:∀b,C (.bool b) (.type "bool"))(hI:∀i t,C (.int i t) (.type "int"))(hs:∀x t,C (.str x t) (.type "str"))(hr:∀a o T,V a=ac o->o.cls=.type T->T = "tuple"\/T = "list"\/T = "dict"->C (.ref a) (.type T))(hc:∀A l v,Is G.prog G.w V (.inst A l) v->C v (.ref A)):C v tv:=by
 cases d with
 |raw u=>
  refine aZ (aT.mp hi) fun z zz=>?_;subst z;cases v with
  |none=>injection h with h;subst h;exact hn
  |bool b=>injection h with h;subst h;exact hb b
  |_=>injection h
 |int i=>injection h with h;subst h;refine aY (bA.mp hi) fun t z=>?_;subst z;exact hI _ _
 |str x=>injection h with h;subst h;refine aY (io.mp hi) fun t z=>?_;subst z;exact hs _ _
 |tup l=>injection h with h;subst h;refine d9 hi fun a o vs n z h1 h2 zz=>?_;subst z;exact hr _ _ _ h1 h2 (.inl rfl)
 |lst l=>injection h with h;subst h;refine d9 hi fun a o vs n z h1 h2 zz=>?_;subst z;exact hr _ _ _ h1 h2 (.inr (.inl rfl))
 |sdic l=>injection h with h;subst h;refine bU hi fun a o vs z h1 zz h2 zz=>?_;subst z;refine cX h2 fun zz zz he zz=>?_;exact hr _ _ _ h1 he.1 (.inr (.inr rfl))
 |idic l=>injection h with h;subst h;refine bU hi fun a o vs z h1 zz h2 zz=>?_;subst z;refine cX h2 fun zz zz he zz=>?_;exact hr _ _ _ h1 he.1 (.inr (.inr rfl))
 |inst A l=>injection h with h;subst h;exact hc _ _ _ hi
 |_=>injection h
theorem ND{v tv:aE}(hi:Is G.prog G.w V d v)(k:Kp V s.heap.get?)(h:RX d=ac tv):lI (bf G.prog G.w) s.heap (iL v) tv:=Ii (C:=fun v tv=>lI (bf G.prog G.w) s.heap (iL v) tv) hi h (.of_pure rfl) (fun zz=>.of_pure rfl) (fun zz zz=>.of_pure rfl) (fun zz zz=>.of_pure rfl) (fun a o T e hc zz=>hc▸(CP (k _ _ e)).andThen .now) fun A l v hi=>by refine fD hi fun a o vs n z h1 zz=>?_;subst z;exact(CP (o:=cn _ o) (k _ _ h1)).andThen .now
theorem zS{K:Oo}{x C L:aW}{h_0:jk}{m:aV->Option aE}(X:K.In s.heap)(I:InstAt s.heap x ox C (ac od))(hc:KW K C "__class__" = ai)(hh:hasDictIn K C=ai)(ha:kz K (.ref C) "__class__" = ac (ac (.builtin "object.__class__")))(hn:specialIn K (.builtin "object.__class__") "__get__" = ac (ac (.builtin "getset_descriptor.__get__")))(ht:takesIn K (.builtin "object.__class__")=ac ai)(hm:mroIn K C (.type "object")=ac ai)(h:P (.ref C) s):bd (bf G.prog G.w) A (RE (.ref x) (.str "__class__" tk) ak) P E s:=by obtain⟨hh',g,d,t,os⟩:=s;have L0:=I.type (M:=bf G.prog G.w);have L1:=jS (M:=bf G.prog G.w) X (rV hc).1;unfold RE;refine bG (ah (L0.at (ah (L1.at ?_))));show bd _ _ (getAttrEveryday _ _ _) _ _ _;have hf:findObj K C (ac od) "__class__" = ac (.bind (.builtin "getset_descriptor.__get__") (.builtin "object.__class__")):=findObj_data (by refine ar (W4 hh) fun cd hc zz=>?_;rw[hc];rfl) ha hn ht;have L2:=looks_find (M:=bf G.prog G.w) X I hf;have L3:=jS (M:=bf G.prog G.w) X (rV hc).2;refine ah (Fy (CI (ja F.plainObj_entry_getattr_hooked ?_)));refine ah (aH (ah (L0.at (ah (L2.at (ah (L3.at ?_)))))));show bd _ _ (holding [_] (call _ [_,.ref x,.ref C]) >>= ret) _ _ _;exact ah (bG (ky (class_get (s:=⟨hh',g,d,t,os⟩) (ox:=ox) (od:=ac od) X I hm (aH (handed_on rfl h)))))
structure Cv (G:G0) (C:aW):Prop where
 ok:ms G C
 cls:kz G.K (.ref C) "__class__" = ac (ac (.builtin "object.__class__"))
 get:specialIn G.K (.builtin "object.__class__") "__get__" = ac (ac (.builtin "getset_descriptor.__get__"))
 takes:takesIn G.K (.builtin "object.__class__")=ac ai
 obj:mroIn G.K C (.type "object")=ac ai
 v:pQ G (.ref C)
theorem Cj(X:G.K.In s.heap)(hi:Is G.prog G.w V d v)(k:Kp V s.heap.get?)(h:RX d=ac tv)(hC:∀C,tv=.ref C->Cv G C)(q:P (ac tv) {s with toks:=s.toks+1}):bd (bf G.prog G.w) A (wT v "__class__") P E s:=by
 obtain⟨hh,g,dd,tt,os⟩:=s;refine Ii (C:=fun v tv=>(∀C,tv=.ref C->Cv G C)->P (ac tv) ⟨hh,g,dd,tt+1,os⟩->bd (bf G.prog G.w) A (wT v "__class__") P E ⟨hh,g,dd,tt,os⟩) hi h (fun zz q=>class_attr_none q) (fun zz zz q=>class_attr_bool q) (fun zz zz zz q=>class_attr_int q) (fun zz zz zz q=>class_attr_str q) (fun a o T e hc hT zz q=>?_) (fun C l v hi hC q=>?_) hC q
 .rcases hT with rfl|rfl|rfl
  .exact class_attr_tuple (k _ _ e) hc q
  .exact class_attr_list (k _ _ e) hc q
  .exact class_attr_dict (k _ _ e) hc q
 .have c:=hC _ rfl
  refine fD (zO (s:=⟨hh,g,dd,tt,os⟩) hi k) fun a dx es n z19 I zz=>?_;subst z19;unfold wT getAttrBy?;refine ah (wpAny_mkText (ah (FA ?_)));exact zS (L:=0) (h_0:=hh) (m:=fun zz=>aq) (s:=⟨hh,g,dd,tt+1,os⟩) X I (j7 c.ok.plain) c.ok.dict c.cls c.get c.takes c.obj (aH q)
theorem Ke{r:Bool}(O:B.Ok G)(ht:RX d=ac tv)(hs:Rd G.K tv c=ac r)(he:(tv==c)=ai->r=ai)(hc:pQ G c)(hC:∀C,tv=.ref C->Cv G C)(q:Q (.bool r) Y Z):cI G B E (.builtin "isinstance") [d,.raw c] Y Z Q:=by intro V s vs S hi;refine aM (aG.mp hi) ?_;clear hi;intro v r1 z20 iv hi;subst z20;refine aM (aG.mp hi) ?_;clear hi;intro c' r2 z21 ic hi;subst z21;obtain rfl:=be.mp hi;refine aZ (aT.mp ic) fun z22 zz=>?_;subst z22;have X:=S.kin O;have Lt:=ND iv S.vh ht;refine aZ (Ii (C:=fun v tv=>(∀C,tv=.ref C->Cv G C)->lI (bf G.prog G.w) s.heap (Og tv) ai/\v≠.builtin "__main__.__loader__#opaque") iv ht (fun zz=>⟨.now,fun h=>nomatch h⟩) (fun zz zz=>⟨.now,fun h=>nomatch h⟩) (fun zz zz zz=>⟨.now,fun h=>nomatch h⟩) (fun zz zz zz=>⟨.now,fun h=>nomatch h⟩) (fun zz zz zz zz zz zz zz=>⟨.now,fun h=>nomatch h⟩) (fun C l v hi hC=>⟨(hC C rfl).v.is _ _ X,fun e=>by refine fD hi fun a o vs n z h1 zz=>?_;rw[z] at e;injection e⟩) hC) fun Lv hx=>?_;refine Fn F.kind_isinstance F.plain_isinstance F.entry_isinstance (F.args_isinstance_2 _ _) (RD ?_ hx);refine oB X Lt (hc.ty _ _ X) (hc.is _ _ X) (looks_subIn X hs) Lv he (fun zz P hP=>Cj X iv S.vh ht hC hP) fun t=>?_;exact⟨_,Y,Z,V,S.sat_toks t,.refl _,aT.mpr ⟨rfl,rfl⟩,q⟩
noncomputable def CC(B:Bx)(V:Vw)(Z:Mu)(s:ay):Bx:={B with V0:=V,m0:=Z.map (·.1),s0:=s}
theorem Bx.Ok.re(O:B.Ok G)(S:b9 (cx G B) V Y Z s):(CC B V Z s).Ok G:=⟨O.g,⟨O.c.fn,O.c.loc,O.c.glo,O.c.bui⟩,O.room,O.calm,by refine ar (S.stk O) fun l hl h=>?_;refine bq l hl (fun env he=>?_);refine gz (h env he) fun a f o b c d e e'=>?_;exact⟨a,f,b,.inr ⟨c,d,o,e,e'⟩⟩⟩
theorem b9.dropAll(S:b9 (cx G B) V Y (Zo++Z) s):b9 (cx G B) V Y Z s:=by induction Zo with|nil=>exact S|cons p r ih=>exact ih S.drop
theorem b9.readd(O:B.Ok G)(S:b9 (cx G B) V Y (Zo++Z) s)(S':b9 (cx G (CC B V Z s)) V' Y' Z' s'):b9 (cx G B) V' Y' (Zo++Z') s':=by
 have U:=S.dropAll.unbase S';have dj:=av.mp S.dj;have dj':=av.mp U.dj;have dd:=dj.2;rw[aA,bC] at dd;have mem:∀{p},p∈Zo->p∈Zo++Z:=fun h=>bF _ h;have nm:∀p∈Zo,p.1∉Z.map (·.1):=fun p hp q=>dd.2.2 _ (ax hp) _ q rfl;have nL:∀p∈Zo,p.1≠B.L:=fun p hp e=>dj.1 (az.mpr (bq p (mem hp) e));have same:∀p∈Zo,s'.heap.get? p.1=s.heap.get? p.1:=fun p hp=>by refine aY ((S.mu p (mem hp)).at) fun o ho=>?_;refine ar (S'.pr p.1 o (nm p hp) (nL p hp) ho) fun o' ho' nr=>?_;rw[nr.1 fun z=>((S.stk O).fro z).2.1 (ax (mem hp))] at ho';exact ho'.trans ho.symm
 have v':∀p∈Zo,V' p.1=aq:=fun p hp=>by
  cases q:V' p.1 with|none=>rfl|some o=>
   rcases S'.fr p.1 (by rw[q];simp) with z|z;.exact absurd (S.vm p (mem hp)) z
   .exact absurd (S.muLt (mem hp)) (bu.mpr z)
 have nm':∀p∈Zo,p.1∉Z'.map (·.1):=fun p hp q=>by
  refine ar (az.mp q) fun r hr e=>?_;rcases S'.mf r hr with z|z;.exact nm p hp (e▸z)
  .exact absurd (S.muLt (mem hp)) (bu.mpr (e▸z))
 refine⟨U.m,U.nd,fun p hp=>?_,?_,U.vh,U.vL,fun p hp=>?_,U.fr,U.v0,U.b0,fun p hp=>?_,U.pr,U.sz,U.hk,U.rest⟩
 .rcases aJ.mp hp with h|h
  .exact(S.mu p (mem h)).mono S'.v0 (same p h)
  .exact U.mu p h
 .refine av.mpr ⟨fun q=>?_,?_⟩
  .refine ar (az.mp q) fun r hr e=>?_
   rcases aJ.mp hr with h|h;.exact nL r h e
   .exact dj'.1 (az.mpr (bq r h e))
  .rw[aA,bC]
   refine jR dd.1 dj'.2 (fun a ha b hb e=>?_);refine ar (az.mp ha) fun r hr er=>?_;subst er;exact nm' r hr (e▸hb)
 .rcases aJ.mp hp with h|h
  .exact v' p h
  .exact U.vm p h
 .rcases aJ.mp hp with h|h
  .exact S.mf p (mem h)
  .exact U.mf p h
structure Nn (G:G0) (B:Bx) (V_0:Vw) (own:Nat->Mu) (it:aE) (ds:List DV):Prop where
 next:∀{i:Nat}{d:DV},ds[i]?=ac d->∀{V:Vw}{Y:aP}{Z:Mu}{s:ay}{P:Option aE->ay->Prop}{E:aE->ay->Prop},Kp V_0 V->b9 (cx G B) V Y (own i++Z) s->(∀u s' V',b9 (cx G B) V' Y (own (i+1)++Z) s'->Kp V V'->Is G.prog G.w V' d u->P (ac u) s')->bd (bf G.prog G.w) B.A (CK it) P E s
 last:∀{V:Vw}{Y:aP}{Z:Mu}{s:ay}{P:Option aE->ay->Prop}{E:aE->ay->Prop},Kp V_0 V->b9 (cx G B) V Y (own ds.length++Z) s->(∀s' V',b9 (cx G B) V' Y Z s'->Kp V V'->P aq s')->bd (bf G.prog G.w) B.A (CK it) P E s
 self:∀{i:Nat}{V:Vw}{Y:aP}{Z:Mu}{s:ay}{P:aE->ay->Prop}{E:aE->ay->Prop},Kp V_0 V->b9 (cx G B) V Y (own i++Z) s->P it s->bd (bf G.prog G.w) B.A (pyIter it) P E s
def qF(G:G0)(B:Bx)(E:aE->ay->Prop)(d:DV)(ds:List DV)(Y:aP)(Z Z':Mu):Prop:=∀V s v P,b9 (cx G B) V Y Z s->Is G.prog G.w V d v->(∀it own s' V',b9 (cx G B) V' Y (own 0++Z') s'->Kp V V'->Nn G B V' own it ds->P it s')->bd (bf G.prog G.w) B.A (pyIter v) P E s
abbrev AS(G:G0)(B:Bx)(E:aE->ay->Prop)(target:bZ)(d:DV)(Y:aP)(Z:Mu)(Q:aP->Mu->Prop):Prop:=O1 G B E (fun zz (zz  : Unit) zz=>True) (assign target B.env) d Y Z (fun zz Y' Z'=>Q Y' Z')
theorem As{Q:aP->Mu->Prop}(O:B.Ok G)(hp:pF Y x d Y')(q:Q Y' Z):AS G B E (.Name x pos) d Y Z Q:=by intro V s v S hi;show bd _ _ (do sT pos;bindName B.env x v) _ _ _;exact ah (cG (c7 (gJ O S hi hp fun s' S'=>⟨(),Y',Z,V,S',.refl _,trivial,q⟩)))
def EJ(target:bZ):Prop:=∀it v,VT target it v=pure ()
def wD(G:G0)(B:Bx)(H:Bx->Prop)(target:bZ)(body:List jU)(d:DV)(J:aP->Mu->Prop)(Q:Fl->aP->Mu->Prop)(Y2:aP)(Z2:Mu):Prop:=∀B',B'.Ok G->H B'->B'.env=B.env->B'.k=B.k->B'.hd=B.hd->B'.m0=Z2.map (·.1)->AS G B' (fun zz zz=>False) target d Y2 Z2 fun Y3 Z3=>EX G B' (fun zz zz=>False) (eD body B'.env) Y3 Z3 fun fl Y4 Z4=>match fl with|.next=>J Y4 Z4|.cont=>J Y4 Z4|.brk=>Q .next Y4 Z4|.ret d=>Q (.ret d) Y4 Z4
theorem BV{Q:Fl->aP->Mu->Prop}{N:ay->Prop}{T:yE->ay->Prop}(O:B.Ok G)(S:b9 (cx G B) V Y (own++Z) s)(iu:Is G.prog G.w V d u)(hH:H (CC B V Z s))(st:wD G B H target body d J Q Y Z)(hn:∀Y4 Z4 V5 s_5,b9 (cx G B) V5 Y4 (own++Z4) s_5->Kp V V5->J Y4 Z4->N s_5)(hq:∀f fl Y4 Z4 V5 s_5,b9 (cx G B) V5 Y4 Z4 s_5->Kp V V5->wE G.prog G.w V5 fl f->Q fl Y4 Z4->T (.ok f) s_5):bd (bf G.prog G.w) B.A (assign target B.env u) (fun zz s_2=>bd (bf G.prog G.w) B.A (eD body B.env) (fun f s_3=>match f with|.next|.cont=>N s_3|.brk=>T (.ok .next) s_3|.ret v=>T (.ok (.ret v)) s_3) E2 s_2) E_1 s:=by
 have D:=S.dropAll;refine aQ (st (CC B V Z s) (O.re D) hH rfl rfl rfl rfl V s u D.rebase iu) (fun zz s_4 z=>iI z fun zz Y3 Z3 V4 S_4 k_4 zz hb=>aQ (hb V4 s_4 S_4) (fun f s_5 z=>iI z fun fl Y4 Z4 V5 S_5 k_5 hf h=>?_) fun zz zz x=>x.elim) fun zz zz x=>x.elim;cases fl with
 |next=>obtain rfl:f=.next:=hf;exact hn _ _ _ _ (S.readd O S_5) (k_4.trans k_5) h
 |cont=>obtain rfl:f=.cont:=hf;exact hn _ _ _ _ (S.readd O S_5) (k_4.trans k_5) h
 |brk=>obtain rfl:f=.brk:=hf;exact hq .next .next _ _ _ _ (D.unbase S_5) (k_4.trans k_5) rfl h
 |ret d=>refine ar hf ?_;clear hf;intro v z5 hv;subst z5;exact hq (.ret v) (.ret d) _ _ _ _ (D.unbase S_5) (k_4.trans k_5) (bq v rfl hv) h
def VF(G:G0)(B:Bx)(V:Vw)(own:Nat->Mu)(N:Nat)(I:Nat->aP->Mu->Prop)(n:Nat)(s:ay):Prop:=∃i Y2 Z2 V',i<=N/\n=N-i/\b9 (cx G B) V' Y2 (own i++Z2) s/\Kp V V'/\I i Y2 Z2
theorem Jx{I:Nat->aP->Mu->Prop}{Q:Fl->aP->Mu->Prop}(O:B.Ok G)(K:Nn G B V own it ds)(S:b9 (cx G B) V Y (own 0++Z) s)(h0:I 0 Y Z)(hH:∀V_3 Z2 s_3,H (CC B V_3 Z2 s_3))(st:∀i d,ds[i]?=ac d->∀Y2 Z2,I i Y2 Z2->wD G B H target body d (I (i+1)) Q Y2 Z2)(hend:∀Y2 Z2,I ds.length Y2 Z2->Q .next Y2 Z2)(hq:∀f fl Y4 Z4 V5 s_5,b9 (cx G B) V5 Y4 Z4 s_5->Kp V V5->wE G.prog G.w V5 fl f->Q fl Y4 Z4->T (.ok f) s_5)(hlet:EJ target):fH (bf G.prog G.w) B.A (.forLoop target it body [] B.env) T s:=by
 refine codeAny_forLoop (VF G B V own ds.length I) (fun n s' z=>iE z fun i Y2 Z2 V' hi hn S' k' hI=>?_) ds.length (jv 0 Y Z V (a7 _) rfl S (.refl _) h0) (fun v=>hlet it v);cases hd:ds[i]? with
 |none=>have e:i=ds.length:=wY hi (gW.mp hd);exact K.last k' (e▸S') fun s_3 V_3 S_3 k_3=>i8 (hq .next .next _ _ _ _ S_3 (k'.trans k_3) rfl (hend _ _ (e▸hI)))
 |some d=>have hlt:i<ds.length:=(cq.mp hd).1;exact K.next hd k' S' fun u s_3 V_3 S_3 k_3 iu=>BV O S_3 iu (hH _ _ _) (st i d hd Y2 Z2 hI) (fun Y4 Z4 V5 s_5 RA k h=>⟨ds.length-(i+1),hn▸XT hlt,i+1,Y4,Z4,V5,hlt,rfl,RA,k'.trans (k_3.trans k),h⟩) fun f fl Y4 Z4 V5 s_5 UB k hf h=>hq f fl _ _ _ _ UB (k'.trans (k_3.trans k)) hf h
theorem MA{Q:Fl->aP->Mu->Prop}(O:B.Ok G)(hH:∀V_3 Z2 s_3,H (CC B V_3 Z2 s_3))
  (h:EV G B E (a9 iter B.env) Y Z fun d Y1 Z1=>∃ds Z',qF G B E d ds Y1 Z1 Z'/\∃I:Nat->aP->Mu->Prop,I 0 Y1 Z'/\
   (∀i d,ds[i]?=ac d->∀Y2 Z2,I i Y2 Z2->wD G B H target body d (I (i+1)) Q Y2 Z2)/\
   (∀Y2 Z2,I ds.length Y2 Z2->Q .next Y2 Z2))
  (hlet:EJ target) (hset:∀x,jT iter B.env x=pure x):EX G B E (fb (.For target iter body [] pos) B.env) Y Z Q:=fun V s S=>
 wpAny_For (WP.use h S (fun x s_1 d Y1 Z1 V_1 S_1 k_1 i_1 z2=>Hg z2 fun ds Z' hit I hI0 hstep hend=>hit V_1 s_1 x _ S_1 i_1 fun it own s_2 V_2 S_2 k_2 K=>Jx O K S_2 hI0 hH hstep hend (fun f fl Y4 Z4 V5 s_5 S_5 k hf hq=>⟨fl,Y4,Z4,V5,S_5,k_1.trans (k_2.trans k),hf,hq⟩) hlet)) hset
theorem sh(h:Runs M Γ p t fs s e s'):s.heap.objs.size<=s'.heap.objs.size:=by induction h with|update _ _ ih=>simpa[uy] using ih|alloc _ ih=>rw[show(({heap:=_,gens:=_,drawn:=_,toks:=_,os:=_}:ay).heap)=_ from rfl,bV] at ih;exact mx ih|call _ _ ih1 ih2=>exact ae ih1 ih2|resumeFresh _ _ _ _ ih1 ih2=>exact ae ih1 ih2|resumeSuspended _ _ _ _ ih1 ih2=>exact ae ih1 ih2|segRet _ _ ih1 ih2=>exact ae ih1 ih2|segGen _ _ ih1 ih2=>exact ae ih1 ih2|segSuspGen _ _ _ _ ih1 ih2=>exact ae ih1 ih2|_=>first|assumption|exact aI _
theorem CW(h:Wakes M Γ p g r s res s'):s.heap.objs.size<=s'.heap.objs.size:=by
 unfold Wakes at h;split at h;.exact h.elim
 .split at h
  .refine bB h ?_
   clear h;intro e_1 s_1 h1 zz zz z1;subst z1;have:=sh h1;exact this
  .rw[h.2];exact aI _
  .rw[h.2];exact aI _
 .refine bB h ?_
  clear h;intro e_1 s_1 h1 zz zz z2;subst z2;have:=sh h1;exact this
 .rw[h.2];exact aI _
 .rw[h.2];exact aI _
theorem Lh{Q:α->xA->ay->Prop}{E:aE->xA->ay->Prop}:∀{p:xA}{s:ay},CN M Γ t Q E p s->CN M Γ t (fun a p' s'=>s.heap.objs.size<=s'.heap.objs.size/\Q a p' s') (fun e p' s'=>s.heap.objs.size<=s'.heap.objs.size/\E e p' s') p s:=by
 have up:∀{t:HG α}{n m:Nat}{p:xA}{s:ay},n<=m->CN M Γ t (fun a p' s'=>m<=s'.heap.objs.size/\Q a p' s') (fun e p' s'=>m<=s'.heap.objs.size/\E e p' s') p s->CN M Γ t (fun a p' s'=>n<=s'.heap.objs.size/\Q a p' s') (fun e p' s'=>n<=s'.heap.objs.size/\E e p' s') p s:=fun hnm h=>FE M Γ _ (fun zz zz zz x=>⟨ae hnm x.1,x.2⟩) (fun zz zz zz x=>⟨ae hnm x.1,x.2⟩) _ _ h;induction t with
 |pure a=>intro p s h;exact⟨aI _,h⟩
 |raise v=>intro p s h;exact⟨aI _,h⟩
 |unsupported|finish|yield|fork|await|register=>intro p s h;exact h
 |rule _ k ih|«at» _ k ih|loadIfAlive _ k ih|point _ k ih|ask k ih|handled _ k ih|stack k ih|thread k ih=>intro p s h;exact ih _ h
 |fresh k ih=>intro p s h;exact ih _ h
 |os _ _ k ih=>intro p s h;exact ih _ h
 |newGen _ k ih=>intro p s h;exact ih _ h
 |alloc o k ih=>intro p s h;exact up (by rw[show(({s with heap:=s.heap.push o}:ay).heap)=_ from rfl,bV];exact cD _) (ih _ h)
 |load a _ k ih=>intro p s ⟨o,ho,h⟩;exact⟨o,ho,ih _ h⟩
 |genState a k ih=>intro p s ⟨o,ho,h⟩;exact⟨o,ho,ih _ h⟩
 |update a _ f k ih=>intro p s ⟨ha,h⟩;exact⟨ha,up (by simp[uy]) (ih _ h)⟩
 |choose _ _ k ih=>intro p s ⟨ha,h⟩;exact⟨ha,ih _ h⟩
 |call c h g l k ih=>intro p s ⟨r,s',hr,hk⟩;exact⟨r,s',hr,up (sh hr) (ih _ hk)⟩
 |resume g r l k ih=>intro p s ⟨res,s',hw,hk⟩;exact⟨res,s',hw,up (CW hw) (ih _ hk)⟩
theorem b5{Q:α->ay->Prop}(h:bd M A t (fun a s'=>s.heap.objs.size<=s'.heap.objs.size->Q a s') (fun e s'=>s.heap.objs.size<=s'.heap.objs.size->E e s') s):bd M A t Q E s:=fun Γ p hΓ=>FE M Γ t (fun zz zz zz x=>x.2 x.1) (fun zz zz zz x=>x.2 x.1) p s (Lh (h Γ p hΓ))
theorem xr:WY table "proto.unchain" = ac gS.«proto.unchain»:=RG (by kernel_rfl)
theorem u9{Q:α->ay->Prop}{V:Vw}{vs:Array aE}(hH:CG A V)(k:Kp V s.heap.get?)(ho:s.heap.get? a=ac o)(hd:o.data=.fields vs)(hs:2<vs.size)(hV:V a=aq)(h:∀h' o',h'.get? a=ac o'->o'.cls=o.cls->nJ a s.heap h'->E (.ref a) {s with heap:=h'}):bd (bf prog w) A (raiseNew (.ref a):HG α) Q E s:=by
 unfold raiseNew;refine ah (wpAny_handled ?_);rcases hH with hh|⟨e,oe,ve,hh,he,hed,h2⟩
 .rw[hh]
  exact ah (aH (wpAny_throw (h s.heap o ho rfl (Wl ..))))
 .rw[hh]
  have ne:(cs e != cs a)=ai:=by
   have:e≠a:=fun q=>by subst q;rw[hV] at he;injection he
   simp[this]
  dsimp only;rw[if_pos ne];refine ah (bG (CI (ja xr ?_)));unfold gS.«proto.unchain»;dsimp only;refine ah (rR (k _ _ he) hed h2 ?_);show bd _ _ (if(dm==dm)=ai then _ else _) _ _ _;rw[if_pos (by decide)];refine ah (aH (aH ?_));unfold updateField;refine ah (ah (N8 ho ?_));rw[hd];dsimp only;rw[if_pos hs];refine wpAny_update ho (wpAny_throw (h _ _ (cp _ ho (pI (ly hd _))) (Obj.cls_mapFields ..) (cV ..)))
theorem Do{Q:Option aE->ay->Prop}(hH:CG A V)(kV:Kp V s.heap.get?)(hV:V it=aq)(hit:s.heap.IsListIter it l i)(hl:s.heap.IsList l items)(hx:items[i]?=aq)(hQ:∀h',lN it s.heap h'->Q aq {s with heap:=h'}):bd (bf prog w) A (CK (.ref it)) Q E s:=by
 refine bp (id hit) fun o ho hc hd=>?_;refine E9 hl ?_;clear hl;intro ol hol zz nl hdl;unfold CK;refine ah (FA (HC (name:=aa "__next__") hit.typeIs Ob (kx Ob hit.typeIs entry_listiter_next ?_ (args_listiter_next _))));show bd _ _ (field (.ref it) 0 >>= _) _ _ s;refine ah (rR ho hd (x:=.ref l) rfl ?_);show bd _ _ (if(cs l==dm)=ai then _ else _) _ _ s;rw[if_neg (show ¬((cs l==dm)=ai) from HL)];show bd _ _ (field (.ref it) 1 >>= _) _ _ s;refine ah (rR ho hd (x:=.int i 0) rfl ?_);show bd _ _ (seqItems? (.ref l) >>= _) _ _ s;refine ah (WL hol hdl ?_);dsimp only;rw[my,hx];refine ah (qd (ah (CH ho hd (by simp) ?_)));show bd _ _ (WT (.type "StopIteration") [] >>= _) _ _ _;refine ah ?_;simp only[WT,WS];refine ah (dk ?_ (by size_fits));refine ah (m:=rX _ _) (g9 (a:=dm) (by first|rfl|(simp only[rX];rfl)) ?_);refine dk ?_ (by size_fits);have kk:∀f o1 o2,lN it s.heap (((s.heap.update it f).push o1).push o2):=fun f o1 o2=>(((cV ..).extBut.push _).push _)
 have sz:∀f o1,((s.heap.update it f).push o1).objs.size=s.heap.objs.size+1:=fun f o1=>by simp[bV,uy]
 refine u9 (V:=V) hH (fun b x e=>kk _ _ _ b x (fun q=>by subst q;rw[hV] at e;injection e) (kV _ _ e)) (aN _ rfl) rfl (by rw[HM];show 2<6+_;exact Tr) ?_ fun h' o' ho' hc' hs=>?_
 .rw[sz]
  cases q:V (s.heap.objs.size+1) with|none=>rfl|some x=>exact absurd (aR (kV _ _ q)) (bu.mpr (cD _))
 .refine ah (Rv (T:="StopIteration") (b:=ai) (bq _ ho' (by rw[hc'])) WW ?_)
  refine aH (hQ _ fun b x n e=>(hs.2 b (fun q=>?_)).trans (kk _ _ _ b x n e));rw[sz] at q;exact absurd (q▸aR e) (bu.mpr (cD _))
theorem b9.turn0{mo mo':MO}(S:b9 (cx G B) V Y ((a,mo)::Z) s){t:Nat}(hs:nJ a s.heap h')(hm:ju G.prog G.w V h'.get? a mo'):b9 (cx G B) V Y ((a,mo')::Z) {s with heap:=h',toks:=t}:=b9.turn (Z1:=[]) S hs hm
theorem b9.gone(S:b9 (cx G B) V Y ((a,mo)::Z) s){t:Nat}(hx:lN a s.heap h')(hsz:s.heap.objs.size<=h'.objs.size):b9 (cx G B) V Y Z {s with heap:=h',toks:=t}:=by
 have dj:=av.mp S.dj;have dj2:=av.mp (au▸dj.2);have nL:B.L≠a:=fun e=>dj.1 (e▸.head _);have nm:∀p∈Z,p.1≠a:=fun p hp e=>dj2.1 (az.mpr (bq p hp e));have hVa:V a=aq:=S.vm (a,mo) (.head _);have hma:=S.mf (a,mo) (.head _);have D:=S.drop;refine ar S.m ?_;(try clear m);intro m hn he;refine⟨(bq m (hn.extBut hx nL) he),D.nd,fun p hp=>?_,D.dj,fun b o e=>?_,D.vL,D.vm,D.fr,D.v0,D.b0,D.mf,fun b o n l e=>?_,ae D.sz hsz,D.hk,D.rest⟩
 .refine aY ((D.mu p hp).at) fun o ho=>?_
  exact(D.mu p hp).mono (.refl _) ((hx _ _ (nm p hp) ho).trans ho.symm)
 .exact hx _ _ (fun q=>by subst q;rw[hVa] at e;injection e) (D.vh _ _ e)
 .refine ar (D.pr b o n l e) fun o' e' r=>?_
  refine bq o' (hx _ _ (fun q=>?_) e') r;subst q;rcases hma with z|z;.exact n z
  .exact absurd (aR e) (bu.mpr z)
theorem lf:∀{vs:List aE}{i:Nat}{d:DV},gO G.prog G.w V ds vs->ds[i]?=ac d->∃v,vs[i]?=ac v/\Is G.prog G.w V d v:=by
 induction ds with
 |nil=>intro vs i d _ h;simp at h
 |cons x r ih=>intro vs i d h hd;refine aM (aG.mp h) fun v rs z1 a b=>?_;subst z1;cases i with|zero=>simp at hd;subst hd;exact bq v (by simp) a|succ n=>simp at hd;refine ar (ih b hd) fun u hu iu=>?_;exact bq u (by simpa using hu) iu
theorem cA(O:B.Ok G):qF G B E (.lst ds) ds Y Z Z:=by
 intro V s v P S hi q;have hi':=hi;refine bE hi' ?_;clear hi';intro l o vs n z2 h1 h2 h3 h4 h5;subst z2;have L:∀{V':Vw}{s':ay},Kp V V'->Kp V' s'.heap.get?->s'.heap.IsList l vs:=fun k k'=>(dI o (k' _ _ (k _ _ h1)) h2 n h4)
 refine wR (L (.refl _) S.vh) ?_;let own:Nat->Mu:=fun i=>[(s.heap.objs.size,.pr fun o=>o.cls=.type "list_iterator"/\o.data=.fields #[.ref l,.int i 0])]
 refine q _ own _ V (S.allocMu O.c _ _ rfl (cB _ (aN _ rfl) rfl rfl)) (.refl _) ⟨?_,?_,fun k S' q'=>by refine bp (S'.mu _ (.head _)) fun oi ho hc hdt=>?_;exact wpAny_pyIter_listiter (cB oi ho hc hdt) q'⟩
 .intro i d hd V' Y' Z' s' P E' k S' q'
  refine ar (lf h5 hd) fun u hu iu=>?_;refine bp (S'.mu _ (.head _)) fun oi ho hc hdt=>?_;exact HP (cB oi ho hc hdt) (L k S'.vh) (by simpa using hu) fun h' hi' hs'=>q' u _ V' (S'.turn0 (mo':=.pr fun o=>o.cls=.type "list_iterator"/\o.data=.fields #[.ref l,.int (i+1:Nat) 0]) hs' hi') (.refl _) (iu.mono k)
 .intro V' Y' Z' s' P E' k S' q'
  refine bp (S'.mu _ (.head _)) fun oi ho hc hdt=>?_;have hx:vs[ds.length]?=aq:=by rw[<-bb h5];simp
  exact b5 (Do S'.hk S'.vh (S'.vm _ (.head _)) (cB oi ho hc hdt) (L k S'.vh) hx fun h' hx' hz=>q' _ V' (S'.gone hx' hz) (.refl _))
theorem qw(O:B.Ok G)(hn:B.hd=ak):qF G B E (.tup ds) ds Y Z Z:=by
 intro V s v P S hi q;have hi':=hi;refine bE hi' ?_;clear hi';intro l o vs n z3 h1 h2 h3 h4 h5;subst z3;have L:∀{V':Vw}{s':ay},Kp V V'->Kp V' s'.heap.get?->s'.heap.IsTuple l vs:=fun k k'=>(dI o (k' _ _ (k _ _ h1)) h2 n h4)
 refine wpAny_pyIter_tuple (L (.refl _) S.vh) ?_;let own:Nat->Mu:=fun i=>[(s.heap.objs.size,.pr fun o=>o.cls=.type "tuple_iterator"/\o.data=.fields #[.ref l,.int i 0])]
 refine q _ own _ V (S.allocMu O.c _ _ rfl (cB _ (aN _ rfl) rfl rfl)) (.refl _) ⟨?_,?_,fun k S' q'=>by refine bp (S'.mu _ (.head _)) fun oi ho hc hdt=>?_;exact wpAny_pyIter_tupleiter (cB oi ho hc hdt) q'⟩
 .intro i d hd V' Y' Z' s' P E' k S' q'
  refine ar (lf h5 hd) fun u hu iu=>?_;refine bp (S'.mu _ (.head _)) fun oi ho hc hdt=>?_;exact wpAny_pyNext_tuple_item (cB oi ho hc hdt) (L k S'.vh) (by simpa using hu) fun h' hi' hs'=>q' u _ V' (S'.turn0 (mo':=.pr fun o=>o.cls=.type "tuple_iterator"/\o.data=.fields #[.ref l,.int (i+1:Nat) 0]) hs' hi') (.refl _) (iu.mono k)
 .intro V' Y' Z' s' P E' k S' q'
  refine bp (S'.mu _ (.head _)) fun oi ho hc hdt=>?_;have hx:vs[ds.length]?=aq:=by rw[<-bb h5];simp
  exact b5 (wpAny_pyNext_tuple_end (O.calm hn) (cB oi ho hc hdt) (L k S'.vh) hx fun h' hx' hz=>q' _ V' (S'.gone hx' hz) (.refl _))
theorem Md{ds:List (aV×DV)}:∀{vs:List (aV×aE)}{i:Nat}{x:aV}{d:DV},Cs G.prog G.w V ds vs->ds[i]?=ac (x,d)->∃v,vs[i]?=ac (x,v)/\Is G.prog G.w V d v:=by
 induction ds with
 |nil=>intro vs i x d _ h;simp at h
 |cons p r ih=>
  obtain⟨y,dy⟩:=p;intro vs i x d h hd;refine aM h ?_;clear h;intro v rs z4 a b;subst z4;cases i with
  |zero=>simp at hd;refine aZ hd ?_;clear hd;intro z5 z6;subst z5;subst z6;exact bq v (by simp) a
  |succ n=>simp at hd;refine ar (ih b hd) fun u hu iu=>?_;exact bq u (by simpa using hu) iu
theorem Dv{ds:List (aV×DV)}:∀{vs:List (aV×aE)},Cs G.prog G.w V ds vs->vs.length=ds.length:=by
 induction ds with
 |nil=>intro vs h;subst h;rfl
 |cons p r ih=>obtain⟨y,dy⟩:=p;intro vs h;refine aM h ?_;clear h;intro v rs z7 a b;subst z7;rw[cK,cK,ih b]
theorem ya(O:B.Ok G)(hn:B.hd=ak):qF G B E (.sdic l) (l.map fun p=>.str p.1) Y Z Z:=by
 intro V s v P S hi q;have hi':=hi;refine bU hi' ?_;clear hi';intro a o kvs z8 h1 h2 h3 h4;subst z8;refine g5 h3 ?_;clear h3;intro es ep h3;have L:∀{V':Vw}{s':ay},Kp V V'->Kp V' s'.heap.get?->s'.heap.DictAt (strKind G.prog G.w) a kvs ep:=fun k k'=>(jN o es (k' _ _ (k _ _ h1)) h3)
 refine Rb h2 (L (.refl _) S.vh) ?_;let own:Nat->Mu:=fun i=>[(s.heap.objs.size,.pr fun o=>o.cls=.type "dict_keyiterator"/\o.data=.fields #[.ref a,.int i 0,.int kvs.length 0,.int ep 0])]
 refine q _ own _ V (S.allocMu O.c _ _ rfl (cB _ (aN _ rfl) rfl rfl)) (.refl _) ⟨?_,?_,fun k S' q'=>by refine bp (S'.mu _ (.head _)) fun oi ho hc hdt=>?_;exact KR (cB oi ho hc hdt) q'⟩
 .intro i d hd V' Y' Z' s' P E' k S' q'
  rw[bj] at hd;cases hp:l[i]? with|none=>rw[hp] at hd;injection hd|some p=>rw[hp] at hd;obtain⟨x,dx⟩:=p;(injection hd with hd;subst hd);refine ar (Md h4 hp) fun u hu iu=>?_;refine bp (S'.mu _ (.head _)) fun oi ho hc hdt=>?_;refine HQ (cB oi ho hc hdt) (L k S'.vh) hu fun key h' hkey hi' hs'=>q' key _ V' (S'.turn0 (mo':=.pr fun o=>o.cls=.type "dict_keyiterator"/\o.data=.fields #[.ref a,.int (i+1:Nat) 0,.int kvs.length 0,.int ep 0]) hs' hi') (.refl _) ?_;refine aY (kj hkey) fun t z9=>?_;subst z9;exact io.mpr ⟨t,rfl⟩
 .intro V' Y' Z' s' P E' k S' q'
  refine bp (S'.mu _ (.head _)) fun oi ho hc hdt=>?_;have hx:kvs[(l.map fun p=>DV.str p.1).length]?=aq:=by rw[af,<-Dv h4];simp
  have hdt':oi.data=.fields #[.ref a,.int ((l.map fun p=>DV.str p.1).length:Nat) 0,.int kvs.length 0,.int ep 0]:=hdt;exact b5 (wpAny_pyNext_dict_end (O.calm hn) (cB oi ho hc hdt') (L k S'.vh) hx fun h' hx' hz=>q' _ V' (S'.gone hx' hz) (.refl _))
section
variable {K : Type} [DecidableEq K]
noncomputable def kr(l:List (K×DV))(k:K):Option DV:=(l.find? fun kv=>kv.1=k).map (·.2)
noncomputable def jp(l:List (K×DV))(k:K)(d:DV):List (K×DV):=if l.any (fun kv=>kv.1=k) then l.map (fun kv=>if kv.1=k then(kv.1,d) else kv) else l++[(k,d)]
noncomputable def xd(l:List (K×DV))(k:K):List (K×DV):=l.filter fun kv=>decide (kv.1≠k)
inductive KV (prog:gQ) (w:gG) (V:Vw):List (K×DV)->List (K×aE)->Prop
 |nil:KV prog w V [] []
 |cons {k d v l kvs}:Is prog w V d v->KV prog w V l kvs->KV prog w V ((k,d)::l) ((k,v)::kvs)
variable {l : List (K × DV)} {kvs : List (K × aE)} {k : K}
theorem KV.mono(h:KV prog w V l kvs)(kk:Kp V V'):KV prog w V' l kvs:=by induction h with|nil=>exact .nil|cons a _ ih=>exact .cons (a.mono kk) ih
theorem KV.some(h:KV prog w V l kvs)(e:kr l k=ac d):∃v,Cz kvs k=ac v/\Is prog w V d v:=by
 induction h with|nil=>injection e|@cons k' d' v' l kvs a _ ih=>
  unfold kr at e;unfold Cz;rw[bh] at e ⊢;dsimp only at e ⊢;by_cases q:k'=k;.simp only[q,decide_true,hO,W5] at e ⊢;subst e;exact bq v' rfl a
  .simp only[q,decide_false] at e ⊢;exact ih e
theorem KV.none(h:KV prog w V l kvs)(e:kr l k=aq):Cz kvs k=aq:=by
 induction h with|nil=>rfl|@cons k' d' v' l kvs a _ ih=>
  unfold kr at e;unfold Cz;rw[bh] at e ⊢;dsimp only at e ⊢;by_cases q:k'=k;.simp[q] at e
  .simp only[q,decide_false] at e ⊢;exact ih e
theorem KV.isSome(h:KV prog w V l kvs):(Cz kvs k).isSome=(kr l k).isSome:=by cases e:kr l k with|none=>rw[h.none e];rfl|some d=>refine ar (h.some e) fun v hv zz=>?_;rw[hv];rfl
theorem KV.getD(h:KV prog w V l kvs)(hd:Is prog w V d v):Is prog w V ((kr l k).getD d) ((Cz kvs k).getD v):=by cases e:kr l k with|none=>rw[h.none e];exact hd|some d=>refine ar (h.some e) fun v hv i=>?_;rw[hv];exact i
theorem KV.any(h:KV prog w V l kvs):(kvs.any fun kv=>kv.1=k)=l.any fun kv=>kv.1=k:=by induction h with|nil=>rfl|cons _ _ ih=>rw[dD,dD,ih]
theorem KV.append(h:KV prog w V l kvs)(h':KV prog w V l' kvs'):KV prog w V (l++l') (kvs++kvs'):=by induction h with|nil=>exact h'|cons a _ ih=>exact .cons a ih
theorem KV.put(h:KV prog w V l kvs)(hd:Is prog w V d v):KV prog w V (jp l k d) (stored kvs k v):=by
 unfold jp stored;rw[h.any];split
 .rename_i z
  clear z;induction h with|nil=>exact .nil|@cons k' d' v' l kvs a _ ih=>
   rw[au,au];dsimp only;by_cases q:k'=k;.rw[if_pos q,if_pos q];exact .cons hd ih
   .rw[if_neg q,if_neg q];exact .cons a ih
 .exact h.append (.cons hd .nil)
theorem KV.rem(h:KV prog w V l kvs):KV prog w V (xd l k) (without kvs k):=by
 unfold xd without;induction h with|nil=>exact .nil|@cons k' d' v' l kvs a _ ih=>
  rw[dZ,dZ];dsimp only;by_cases q:k'≠k;.rw[if_pos (decide_eq_true q),if_pos (decide_eq_true q)];exact .cons a ih
  .rw[if_neg (by simpa using q),if_neg (by simpa using q)];exact ih
theorem KV.length(h:KV prog w V l kvs):kvs.length=l.length:=by induction h with|nil=>rfl|cons _ _ ih=>simp[ih]
end
theorem zM:∀{l:List (aV×DV)}{kvs:List (aV×aE)},Cs prog w V l kvs↔KV prog w V l kvs:=by
 intro p0_;induction p0_ with
 |nil=>intro kvs;show kvs=[]↔_;exact⟨fun h=>h▸.nil,fun h=>by cases h;rfl⟩
 |cons p_ r ih=>
  rcases p_ with⟨x,d⟩
  intro kvs;show Exists _↔_;exact⟨fun z1=>aM z1 fun v rs e a b=>e▸.cons a (ih.mp b),fun h=>by cases h with|cons a b=>exact(bO _ _ rfl a (ih.mpr b))⟩
theorem zN:∀{l:List (Int×DV)}{kvs:List (Int×aE)},CD prog w V l kvs↔KV prog w V l kvs:=by
 intro p0_;induction p0_ with
 |nil=>intro kvs;show kvs=[]↔_;exact⟨fun h=>h▸.nil,fun h=>by cases h;rfl⟩
 |cons p_ r ih=>
  rcases p_ with⟨x,d⟩
  intro kvs;show Exists _↔_;exact⟨fun z2=>aM z2 fun v rs e a b=>e▸.cons a (ih.mp b),fun h=>by cases h with|cons a b=>exact(bO _ _ rfl a (ih.mpr b))⟩
class DK (K:Type) [DecidableEq K] where
 knd:∀prog w,PySem.KeyKind prog w K
 key:K->DV
 dv:List (K×DV)->DV
 mo:List (K×DV)->MO
 is:∀{prog w V k v},Is prog w V (key k) v->(knd prog w).is k v=ai
 open_:∀{prog w V l v},Is prog w V (dv l) v->∃a o kvs,v=.ref a/\V a=ac o/\(a==fP)=ak/\o.IsDictOf (knd prog w) kvs/\KV prog w V l kvs
 shut:∀{prog w V l a o kvs},V a=ac o->(a==fP)=ak->o.IsDictOf (knd prog w) kvs->KV prog w V l kvs->Is prog w V (dv l) (.ref a)
 moOpen:∀{prog w V h a l},ju prog w V h a (mo l)->∃o kvs,h a=ac o/\(a==fP)=ak/\o.IsDictOf (knd prog w) kvs/\KV prog w V l kvs
 moShut:∀{prog w V h a l o kvs},h a=ac o->(a==fP)=ak->o.IsDictOf (knd prog w) kvs->KV prog w V l kvs->ju prog w V h a (mo l)
 part:∀{prog w V k v},Is prog w V (key k) v->(keyPart v).isSome=ai
@[reducible] instance dkStr:DK aV where
 knd:=strKind
 key:=.str
 dv:=.sdic
 mo:=.sdic
 is:=fun h=>by refine aY (io.mp h) fun t z3=>?_;subst z3;exact strKind_is _ _ _ _
 open_:=fun h=>by refine bU h ?_;clear h;intro a o kvs e h1 h2 h3 h4;exact cZ a o kvs e h1 h2 h3 (zM.mp h4)
 shut:=fun h1 h2 h3 h4=>by show Exists _;exact cZ _ _ _ rfl h1 h2 h3 (zM.mpr h4)
 moOpen:=fun z4=>bB z4 fun o kvs h1 h2 h3 h4=>(du o kvs h1 h2 h3 (zM.mp h4))
 moShut:=fun h1 h2 h3 h4=>(du _ _ h1 h2 h3 (zM.mpr h4))
 part:=fun h=>by refine aY (io.mp h) fun t z5=>?_;subst z5;rfl
@[reducible] instance dkInt:DK Int where
 knd:=HU
 key:=.int
 dv:=.idic
 mo:=.idic
 is:=fun h=>by refine aY (bA.mp h) fun t z6=>?_;subst z6;exact intKind_is _ _ _ _
 open_:=fun h=>by refine bU h ?_;clear h;intro a o kvs e h1 h2 h3 h4;exact cZ a o kvs e h1 h2 h3 (zN.mp h4)
 shut:=fun h1 h2 h3 h4=>by show Exists _;exact cZ _ _ _ rfl h1 h2 h3 (zN.mpr h4)
 moOpen:=fun z7=>bB z7 fun o kvs h1 h2 h3 h4=>(du o kvs h1 h2 h3 (zN.mp h4))
 moShut:=fun h1 h2 h3 h4=>(du _ _ h1 h2 h3 (zN.mpr h4))
 part:=fun h=>by refine aY (bA.mp h) fun t z8=>?_;subst z8;rfl
def DS{K:Type}[DecidableEq K][DK K](Z:Mu)(d:DV)(l:List (K×DV)):Prop:=d=DK.dv l\/∃a,d=.ptr a/\(a,DK.mo l)∈Z
def LS(Z:Mu)(d:DV)(l:List DV):Prop:=d=.lst l\/∃a,d=.ptr a/\(a,.lst l)∈Z
section
variable {K : Type} [DecidableEq K] [DK K] {l : List (K × DV)} {d : DV} {v : aE}
theorem DS.open(h:DS Z d l)(S:b9 (cx G B) V Y Z s)(hi:Is G.prog G.w V d v):∃a o kvs,v=.ref a/\s.heap.get? a=ac o/\(a==fP)=ak/\o.IsDictOf (DK.knd G.prog G.w (K:=K)) kvs/\KV G.prog G.w V l kvs:=by
 rcases h with rfl|⟨a,rfl,hm⟩
 .refine bl (DK.open_ hi) fun a o kvs e h1 r=>?_
  exact i0 a o kvs e (S.vh _ _ h1) r
 .refine aZ (aT.mp hi) fun z9 zz=>?_
  subst z9;refine g5 (DK.moOpen (S.mu _ hm)) fun o kvs r=>?_;exact oW a o kvs rfl r
theorem LS.open{l:List DV}(h:LS Z d l)(S:b9 (cx G B) V Y Z s)(hi:Is G.prog G.w V d v):∃a o vs n,v=.ref a/\s.heap.get? a=ac o/\o.cls=.type "list"/\(o.dict=aq/\o.slots=#[])/\o.data=.seq vs n/\gO G.prog G.w V l vs.toList:=by
 rcases h with rfl|⟨a,rfl,hm⟩
 .refine fD hi ?_
  clear hi;intro a o vs n e h1 r;exact kh a o vs n e (S.vh _ _ h1) r
 .refine aZ (aT.mp hi) fun z10 zz=>?_
  subst z10;refine sL (S.mu _ hm) fun o vs n r=>?_;exact⟨a,o,vs,n,rfl,r⟩
theorem GF{id:String}(D:DS Z d l)(slot:Slot "dict" name id)(hty:iL (.builtin id)=pure (.type "method_descriptor")):∀V s v A P E,b9 (cx G B) V Y Z s->Is G.prog G.w V d v->(∀first s',gO G.prog G.w V [d] first->b9 (cx G B) V Y Z s'->P (.builtin id,first) s')->bd (bf G.prog G.w) A (jx v name pl) P E s:=by intro V s v A P E S hi q;refine bU (D.open S hi) fun a o kvs z11 ho zz hd zz=>?_;subst z11;refine cX hd ?_;clear hd;intro es ep he zz;exact Rh (T:="dict") (bq o ho he.1) PySem.F.plainAttrs_dict slot hty (fun b e=>by(injection e with e;subst e);exact(bq o ho he.2.1)) (q _ _ (aG.mpr (bO _ _ rfl hi (be.mpr rfl))) S)
theorem GD{l:List DV}{id:String}(D:LS Z d l)(slot:Slot "list" name id)(hty:iL (.builtin id)=pure (.type "method_descriptor")):∀V s v A P E,b9 (cx G B) V Y Z s->Is G.prog G.w V d v->(∀first s',gO G.prog G.w V [d] first->b9 (cx G B) V Y Z s'->P (.builtin id,first) s')->bd (bf G.prog G.w) A (jx v name pl) P E s:=by intro V s v A P E S hi q;refine bE (D.open S hi) fun a o vs n z12 ho hc hn hd zz=>?_;subst z12;exact Rh (T:="list") (bq o ho hc) PySem.F.plainAttrs_list slot hty (fun b e=>by(injection e with e;subst e);exact(bq o ho hn.1)) (q _ _ (aG.mpr (bO _ _ rfl hi (be.mpr rfl))) S)
theorem D5{dflt:DV}(D:DS Z d l)(q:Q ((kr l k).getD dflt) Y Z):cI G B E (.builtin "dict.get") ([d]++[DK.key k,dflt]) Y Z Q:=by intro V s vs S hi;refine aM (aG.mp hi) ?_;clear hi;intro v zz z13 iv hi;subst z13;refine aM (aG.mp hi) ?_;clear hi;intro kv zz z14 ik hi;subst z14;refine aM (aG.mp hi) ?_;clear hi;intro dv zz z15 idf hi;subst z15;obtain rfl:=be.mp hi;refine bU (D.open S iv) fun a o kvs z16 ho lo hd hk=>?_;subst z16;have hD:s.heap.DictOf (DK.knd G.prog G.w (K:=K)) a kvs:=bc.mpr (bq o ho hd);exact qe AH hD.typeIs yG (PySem.F.args_dict_get_3 _ _ _) (meets_dict_get_default _ a (DK.is ik) lo dv) (bq _ hD.mapOf ⟨_,Y,Z,V,S.sat_toks _,.refl _,hk.getD idf,q⟩)
theorem D6(D:DS Z d l)(q:Q ((kr l k).getD .none) Y Z):cI G B E (.builtin "dict.get") ([d]++[DK.key k]) Y Z Q:=by intro V s vs S hi;refine aM (aG.mp hi) ?_;clear hi;intro v zz z17 iv hi;subst z17;refine aM (aG.mp hi) ?_;clear hi;intro kv zz z18 ik hi;subst z18;obtain rfl:=be.mp hi;refine bU (D.open S iv) fun a o kvs z19 ho lo hd hk=>?_;subst z19;have hD:s.heap.DictOf (DK.knd G.prog G.w (K:=K)) a kvs:=bc.mpr (bq o ho hd);exact qe AH hD.typeIs yG (PySem.F.args_dict_get_2 _ _) (meets_dict_get _ a (DK.is ik) lo) (bq _ hD.mapOf ⟨_,Y,Z,V,S.sat_toks _,.refl _,hk.getD (aT.mpr ⟨rfl,rfl⟩),q⟩)
theorem Ti(D:DS Z d l)(q:Q (.bool (kr l k).isSome) Y Z):O2 G B E (Is G.prog G.w) (bi .In) (DK.key k) d Y Z Q:=by intro V s kv v S ik iv;refine bU (D.open S iv) fun a o kvs z20 ho lo hd hk=>?_;subst z20;have hD:s.heap.DictOf (DK.knd G.prog G.w (K:=K)) a kvs:=bc.mpr (bq o ho hd);exact wpAny_in_of (DK.is ik) lo hD.mapOf ⟨_,Y,Z,V,S.sat_toks _,.refl _,aT.mpr ⟨rfl,rfl⟩,hk.isSome▸q⟩
theorem QD{o i:bZ}(h:EV G B E (a9 o B.env) Y Z (Ru G B E i (i5 o i) Q)):EV G B E (a9 (.Subscript o i pos) B.env) Y Z Q:=by intro V s S;refine Subscript_ (WP.use h S (fun a s_1 da Y1 Z1 V_1 S_1 k_1 i_1 h₁=>?_));refine WP.use h₁ S_1 (fun b s_2 db Y2 Z2 V_2 S_2 k_2 i_2 h_2=>?_);exact aQ (h_2 V_2 s_2 a b S_2 (i_1.mono k_2) i_2) (fun zz zz=>qK.up (k_1.trans k_2)) fun zz zz x=>x
theorem cw{x:DV}(D:DS Z d l)(e:kr l k=ac x)(q:Q x Y Z)(hs:∀o i,rT slice ak o i=HS [o,i] (HW o i)):O2 G B E (Is G.prog G.w) (i5 value slice) d (DK.key k) Y Z Q:=by intro V s v kv S iv ik;refine bU (D.open S iv) fun a o kvs z24 ho lo hd hk=>?_;subst z24;have hD:s.heap.DictOf (DK.knd G.prog G.w (K:=K)) a kvs:=bc.mpr (bq o ho hd);refine ar (hk.some e) fun u hu iu=>?_;exact WM hD.typeIs slot_dict_getitem.lookup (wpAny_getItem_of (DK.is ik) hD.mapOf hu ⟨x,Y,Z,V,S.sat_toks _,.refl _,iu,q⟩) (hs _ _)
theorem C7{i:Int}{n j:Nat}(h0:0<=i)(h1:i<n)(e:i.toNat=j):mv i n=ac j:=by unfold mv;dsimp only;rw[if_neg (nU.mpr h0),decide_eq_true h0,decide_eq_true h1,e];rfl
theorem eh{l:List DV}{i:Int}{j:Nat}{x:DV}(h0:-(2 ^ 63)<=i)(h1:i<2 ^ 63)(hj:mv i l.length=ac j)(e:l[j]?=ac x)(q:Q x Y Z)(hs:∀o i,rT slice ak o i=HS [o,i] (HW o i)):O2 G B E (Is G.prog G.w) (i5 value slice) (.tup l) (.int i) Y Z Q:=by
 intro V s v kv S iv ik;refine bE iv ?_;clear iv;intro a o vs n z25 ho hc hn hd hl;subst z25;refine aY (bA.mp ik) fun t z26=>?_;subst z26;refine ar (lf hl e) fun u hu iu=>?_;have hT:IsTup s.heap a vs.toList.toArray:=(dI o (S.vh _ _ ho) hc n (by simpa using hd))
 exact item_tupleT hT h0 h1 (by rw[bb hl];exact hj) hu ⟨x,Y,Z,V,S,.refl _,iu,q⟩ (hs _ _)
theorem lR{l:List DV}{i:Int}{x:DV}(D:LS Z d l)(h0:0<=i)(h1:i<2 ^ 63)(e:l[i.toNat]?=ac x)(q:Q x Y Z)(hs:∀o i,rT slice ak o i=HS [o,i] (HW o i)):O2 G B E (Is G.prog G.w) (i5 value slice) d (.int i) Y Z Q:=by
 intro V s v kv S iv ik;refine bE (D.open S iv) fun a o vs n z27 ho hc hn hd hl=>?_;subst z27;refine aY (bA.mp ik) fun t z28=>?_;subst z28;refine ar (lf hl e) fun u hu iu=>?_;have hL:s.heap.IsList a vs:=(dI o ho hc n hd)
 exact WM hL.typeIs Re.lookup (wpAny_getItem_list hL h0 h1 (by simpa using hu) ⟨x,Y,Z,V,S,.refl _,iu,q⟩) (hs _ _)
theorem Pd{i j:Int}(q:Q (.int (i+j)) Y Z):O2 G B E (Is G.prog G.w) (fJ .Add) (.int i) (.int j) Y Z Q:=by intro V s a b S ia ib;refine aY (bA.mp ia) fun t z30=>?_;subst z30;refine aY (bA.mp ib) fun u z29=>?_;subst z29;exact add_int ⟨_,Y,Z,V,S.sat_toks _,.refl _,bA.mpr ⟨_,rfl⟩,q⟩
theorem Pb{i j:Int}(q:Q (.int (i-j)) Y Z):O2 G B E (Is G.prog G.w) (fJ .Sub) (.int i) (.int j) Y Z Q:=by intro V s a b S ia ib;refine aY (bA.mp ia) fun t z32=>?_;subst z32;refine aY (bA.mp ib) fun u z31=>?_;subst z31;exact sub_int ⟨_,Y,Z,V,S.sat_toks _,.refl _,bA.mpr ⟨_,rfl⟩,q⟩
theorem Gv{i j:Int}(q:Q (.bool (i==j)) Y Z):O2 G B E (Is G.prog G.w) (bi .Eq) (.int i) (.int j) Y Z Q:=by intro V s a b S ia ib;refine aY (bA.mp ia) fun t z34=>?_;subst z34;refine aY (bA.mp ib) fun u z33=>?_;subst z33;exact eq_int ⟨_,Y,Z,V,S,.refl _,aT.mpr ⟨rfl,rfl⟩,q⟩
theorem Gl{i j:Int}(q:Q (.bool (i != j)) Y Z):O2 G B E (Is G.prog G.w) (bi .NotEq) (.int i) (.int j) Y Z Q:=by intro V s a b S ia ib;refine aY (bA.mp ia) fun t z36=>?_;subst z36;refine aY (bA.mp ib) fun u z35=>?_;subst z35;exact ne_int ⟨_,Y,Z,V,S,.refl _,aT.mpr ⟨rfl,rfl⟩,q⟩
theorem Gm{i j:Int}(q:Q (.bool (decide (i<j))) Y Z):O2 G B E (Is G.prog G.w) (bi .Lt) (.int i) (.int j) Y Z Q:=by intro V s a b S ia ib;refine aY (bA.mp ia) fun t z38=>?_;subst z38;refine aY (bA.mp ib) fun u z37=>?_;subst z37;exact lt_int ⟨_,Y,Z,V,S,.refl _,aT.mpr ⟨rfl,rfl⟩,q⟩
theorem Gq{i j:Int}(q:Q (.bool (decide (i>j))) Y Z):O2 G B E (Is G.prog G.w) (bi .Gt) (.int i) (.int j) Y Z Q:=by intro V s a b S ia ib;refine aY (bA.mp ia) fun t z40=>?_;subst z40;refine aY (bA.mp ib) fun u z39=>?_;subst z39;exact gt_int ⟨_,Y,Z,V,S,.refl _,aT.mpr ⟨rfl,rfl⟩,q⟩
theorem Gs{i j:Int}(q:Q (.bool (decide (i>=j))) Y Z):O2 G B E (Is G.prog G.w) (bi .GtE) (.int i) (.int j) Y Z Q:=by intro V s a b S ia ib;refine aY (bA.mp ia) fun t z42=>?_;subst z42;refine aY (bA.mp ib) fun u z41=>?_;subst z41;exact ge_int ⟨_,Y,Z,V,S,.refl _,aT.mpr ⟨rfl,rfl⟩,q⟩
theorem Gn{i j:Int}(q:Q (.bool (decide (i<=j))) Y Z):O2 G B E (Is G.prog G.w) (bi .LtE) (.int i) (.int j) Y Z Q:=by intro V s a b S ia ib;refine aY (bA.mp ia) fun t z44=>?_;subst z44;refine aY (bA.mp ib) fun u z43=>?_;subst z43;exact le_int ⟨_,Y,Z,V,S,.refl _,aT.mpr ⟨rfl,rfl⟩,q⟩
theorem QF{x:bZ}(h:EV G B E (a9 x B.env) Y Z fun d Y' Z'=>∃i,d=.int i/\Q (.int (-i)) Y' Z'):EV G B E (a9 (.UnaryOp .USub x pos) B.env) Y Z Q:=by intro V s S;refine ZQ (WP.use h S (fun v s_1 d Y1 Z1 V_1 S_1 k_1 i_1 z46=>ar z46 fun i e q=>?_));subst e;refine aY (bA.mp i_1) fun t z47=>?_;subst z47;exact neg_int ⟨_,Y1,Z1,V_1,S_1.sat_toks _,k_1,bA.mpr ⟨_,rfl⟩,q⟩
noncomputable def ER(v:aE):Bool:=tL v.ctorIdx 0
noncomputable def pw:DV->Option Bool|.raw v=>ac (ER v)|.any=>aq|_=>ac ak
theorem gL(z:v=u)(h:ac (ER u)=ac b):(v==dm)=b:=by subst z;refine Eq.trans ?_ (aB h);cases v<;>rfl
theorem BL(h:pw d=ac b)(hi:Is G.prog G.w V d v):(v==dm)=b:=by
 cases d with
 |raw u=>exact gL (aT.mp hi).1 h|any=>injection h|int i=>exact aY (bA.mp hi) fun t z=>gL z h
 |str i=>exact aY (io.mp hi) fun t z=>gL z h
 |byt b=>exact aY hi fun t z=>gL z h
 |tup l=>exact d1 hi fun a o vs n z _=>gL z h
 |lst l=>exact d1 hi fun a o vs n z _=>gL z h
 |sdic l=>exact fw hi fun a o vs z _=>gL z h
 |idic l=>exact fw hi fun a o vs z _=>gL z h
 |inst C l=>exact d1 hi fun a o vs n z _=>gL z h
theorem Dd(h:pw d=ac b)(q:Q (.bool b) Y Z):O2 G B E (Is G.prog G.w) (bi .Is) d .none Y Z Q:=by intro V s a c S ia ic;refine aZ (aT.mp ic) fun z59 zz=>?_;subst z59;exact is_none ⟨_,Y,Z,V,S,.refl _,aT.mpr ⟨by rw[BL h ia],rfl⟩,q⟩
theorem xf(h:pw d=ac b)(q:Q (.bool (!b)) Y Z):O2 G B E (Is G.prog G.w) (bi .IsNot) d .none Y Z Q:=by intro V s a c S ia ic;refine aZ (aT.mp ic) fun z60 zz=>?_;subst z60;exact isNot_none ⟨_,Y,Z,V,S,.refl _,aT.mpr ⟨by rw[BL h ia],rfl⟩,q⟩
theorem b9.grow0(S:b9 (cx G B) V Y Z s){h':jk}{t:Nat}(hx:lN s.heap.objs.size s.heap h')(hsz:s.heap.objs.size<=h'.objs.size):b9 (cx G B) V Y Z {s with heap:=h',toks:=t}:=by have k:∀{b:aW}{o:ux},s.heap.get? b=ac o->h'.get? b=ac o:=fun e=>hx _ _ (bP (aR e)) e;refine ar S.m ?_;(try clear m);intro m z61 he;refine fw z61 ?_;clear z61;intro o es ep ho r;refine⟨(bq m (oW o es ep (k ho) r) he),S.nd,fun p hp=>?_,S.dj,fun b o e=>k (S.vh _ _ e),S.vL,S.vm,S.fr,S.v0,S.b0,S.mf,fun b o n l e=>let ⟨o',e',r⟩:=S.pr b o n l e;⟨o',k e',r⟩,ae S.sz hsz,S.hk,S.rest⟩;refine aY ((S.mu p hp).at) fun o ho=>?_;exact(S.mu p hp).mono (.refl _) ((k ho).trans ho.symm)
theorem Fs{a b:DV}{Q:aP->Mu->Prop}(O:B.Ok G)(hn:B.hd=ak)(h1:pF Y x a Y1)(h2:pF Y1 y b Y2)(q:Q Y2 Z):AS G B E (.Tuple [.Name x px,.Name y py] k pos) (.tup [a,b]) Y Z Q:=by
 intro V s v S hi;refine d1 hi ?_;clear hi;intro t o vs n z62 y14;refine oM y14 ?_;clear y14;intro ho hc zz hd u1 y15;refine mi y15 ?_;clear y15;intro zz hv iu1 u2 r y16;refine jK y16 ?_;clear y16;intro z63 iu2 z64;subst z62;subst z63;subst z64;have hT:s.heap.IsTuple t vs:=(dI o (S.vh _ _ ho) hc n hd)
 have hsz:vs.size=2:=by rw[<-aF,hv];rfl
 rw[yC];refine ah (cG ?_);show bd _ _ (unpack (.ref t) [(ak,assign (.Name x px) B.env),(ak,assign (.Name y py) B.env)]) _ _ _;unfold unpack;show bd _ _ (holding _ (rS (.ref t) 2 aq) >>= _) _ _ _;rw[<-hsz];refine ah (bG (b5 (fX (O.calm hn) hT fun h' hx hz=>?_)));rw[hv];have S1:b9 (cx G B) V Y Z {s with heap:=h'}:=(S.grow0 hx hz)
 refine ah (bG (ah (cG (c7 (gJ O S1 iu1 h1 fun s2 S2=>?_)))));refine ah (bG (ah (cG (c7 (gJ O S2 iu2 h2 fun s3 S3=>?_)))));exact aH ⟨(),Y2,Z,V,S3,.refl _,trivial,q⟩
end
def Jf(n:Int)(o:ux):Prop:=∃t u v,o={cls:=.type "range",dict:=aq,data:=.fields #[.int 0 t,.int n u,.int 1 v],slots:=#[]}
theorem mY{n:Int}(O:B.Ok G)(q:∀a,Q (.ptr a) Y ((a,.pr (Jf n))::Z)):cI G B E (.type "range") [.int n] Y Z Q:=by intro V s vs S hi;refine aM (aG.mp hi) ?_;clear hi;intro v zz z1 iv hi;subst z1;obtain rfl:=be.mp hi;refine aY (bA.mp iv) fun t z2=>?_;subst z2;exact call_range_1 ⟨_,Y,_,V,(S.allocMu O.c _ (.pr (Jf n)) rfl ⟨_,aN _ rfl,_,_,_,rfl⟩).sat_toks _,.refl _,aT.mpr ⟨rfl,rfl⟩,q _⟩
theorem u8(n):s9 0 n 1=(n.toNat:Int):=by
 unfold s9;split;.split<;>omega
 .omega
theorem A7{n:Int}(h:n<1000000)(h0:-1000000<n):wM 0 n 1=ai:=by unfold wM RQ;rw[u8];simp;omega
theorem mR{n:Int}(O:B.Ok G)(hn:B.hd=ak)(h:n<1000000)(h0:-1000000<n):qF G B E (.ptr a) ((dF n.toNat).map fun i=>.int (i:Nat)) Y ((a,.pr (Jf n))::Z) Z:=by
 intro V s v P S hi q;refine aZ (aT.mp hi) fun z3 zz=>?_;subst z3;refine wj (S.mu _ (.head _)) fun o ho t u w z4=>?_;subst z4;refine wpAny_pyIter_range ho (A7 h h0) ?_;refine(u8 n).symm▸?_;let own:Nat->Mu:=fun i=>[(s.heap.objs.size,.pr fun o=>o={cls:=.type "range_iterator",dict:=aq,data:=.fields #[e9 (i:Nat),e9 ((n.toNat:Int)-(i:Nat)),e9 1],slots:=#[]})]
 have S2:=S.drop.allocMu O.c {cls:=.type "range_iterator",data:=.fields #[e9 0,e9 (n.toNat:Int),e9 1]} (.pr fun o=>o={cls:=.type "range_iterator",dict:=aq,data:=.fields #[e9 (0:Nat),e9 ((n.toNat:Int)-(0:Nat)),e9 1],slots:=#[]}) rfl (bq _ (aN _ rfl) (by simp));refine q _ own _ V S2 (.refl _) ⟨?_,?_,fun k S' q'=>by refine ar (S'.mu _ (.head _)) fun oi hoi z5=>?_;subst z5;exact wpAny_pyIter_rangeiter hoi q'⟩
 .intro i d hd V' Y' Z' s' P E' k S' q'
  rw[bj] at hd;have hi:i<n.toNat:=by
   rcases Nat.lt_or_ge i n.toNat with z|z;.exact z
   .rw[CR (by simpa using z)] at hd;injection hd
  rw[cM (by simpa using hi)] at hd;simp at hd;subst hd;refine ar (S'.mu _ (.head _)) fun oi hoi z6=>?_;subst z6;refine wpAny_pyNext_range_item hoi (Yr hi) fun h' hi' hs'=>q' _ _ V' (S'.turn0 (mo':=.pr fun o=>o={cls:=.type "range_iterator",dict:=aq,data:=.fields #[e9 (i+1:Nat),e9 ((n.toNat:Int)-(i+1:Nat)),e9 1],slots:=#[]}) hs' (bq _ hi' ?_)) (.refl _) (bA.mpr ⟨_,rfl⟩);simp[Int.sub_sub]
 .intro V' Y' Z' s' P E' k S' q'
  refine ar (S'.mu _ (.head _)) fun oi hoi z7=>?_;subst z7;exact b5 (wpAny_pyNext_range_end (O.calm hn) hoi (by simp) fun h' hx' hz=>q' _ V' (S'.gone hx' hz) (.refl _))
theorem pX{l:List (aV×α)}(nd:(l.map (·.1)).Nodup)(h:(x,v)∈l):l.lookup x=ac v:=by
 induction l with|nil=>cases h|cons p r ih=>
  rw[au,av] at nd;rw[dY];rcases ao.mp h with e|h;.rw[<-e,beq_self_eq_true]
  .rw[beq_false_of_ne fun e:x=p.1=>nd.1 (e▸ax (f:=(·.1)) h)]
   exact ih nd.2 h
theorem rc:∀{ps:List aV}{ds:List DV}{vs:List aE},gO G.prog G.w V ds vs->∀p∈ps.zip ds,∃v,(p.1,v)∈ps.zip vs/\Is G.prog G.w V p.2 v
 |[],_,_,_,p,hp=>by simp at hp
 |_::_,[],_,_,p,hp=>by simp at hp
 |x::ps,d::ds,vs,h,p,hp=>by
  refine aM (aG.mp h) fun v rs z8 a b=>?_;subst z8;rw[HH] at hp ⊢;rcases ao.mp hp with rfl|hp;.exact bq v (.head _) a
  .refine ar (rc b p hp) fun u hu iu=>?_
   exact bq u (.tail _ hu) iu
theorem wz{rest:List aV}(hlen:ds.length=ps.length)(hb:∀vs,vs.length=ps.length->i6 fd ⟨vs,[]⟩=pure (ps.zip vs))(nd:ps.Nodup)(hl:((ps++rest).all fun x=>fd.scope.names.lookup x==ac .local)=ai):∀V s vs,Kp G.hb.get? V->Kp V s.heap.get?->gO G.prog G.w V ds vs->∃binds,w4 s fd ⟨vs,[]⟩ binds/\(∀x∈binds,fd.scope.names.lookup x.1=ac .local)/\∀p∈(ps.zip ds++rest.map fun x=>(x,DV.any)),fd.scope.names.lookup p.1=ac .local/\(p.2≠.any->∃v,binds.reverse.lookup p.1=ac v/\Is G.prog G.w V p.2 v):=by
 intro V s vs zz zz hi;have hv:vs.length=ps.length:=(bb hi).trans hlen;have L:∀x∈ps++rest,fd.scope.names.lookup x=ac .local:=fun x hx=>by simpa using aU.mp hl x hx
 have nz:((ps.zip vs).map (·.1)).Nodup:=by refine((show(ps.zip vs).map (·.1)=ps from jO (bv hv.symm)) ..).symm▸?_;exact nd
 have nr:((ps.zip vs).reverse.map (·.1)).Nodup:=by refine(m5 ..).symm▸?_;unfold rO;rw[CQ];exact nz.imp fun h=>oZ h
 refine cB (ps.zip vs) (.of_eq (hb vs hv)) (fun x hx=>L _ (bF _ (gb hx).1)) (fun p hp=>?_);rcases aJ.mp hp with h|h
 .refine ar (rc hi p h) fun v hv iv=>?_
  exact⟨L _ (bF _ (gb h).1),fun zz=>(bq v (pX nr (KE.mpr hv)) iv)⟩
 .refine ar (az.mp h) fun x hx z9=>?_
  subst z9;exact⟨L x (aK _ hx),fun h=>absurd rfl h⟩
def Cy(G:G0)(name:aV)(Q:DV->aP->Mu->Prop):DV->aP->Mu->Prop:=fun d Y' Z'=>∃C l ns attr d',d=.inst C l/\ms G C/\kz G.K (.ref C) name=ac attr/\noGet G.K attr=ai/\l.map (·.1)=ns/\ns.Nodup/\CF l name d'/\Q d' Y' Z'
theorem JP(O:B.Ok G)(h:EV G B E (a9 e B.env) Y Z (Cy G name Q))
  (he:a9 (.Attribute e name pos) B.env=(do let o <-a9 e B.env;sT pos.atName;let r <-holding [o] (getAttr o name ai);WU e o r;pure r)) :
  EV G B E (a9 (.Attribute e name pos) B.env) Y Z Q:=ML O h he
structure fx (G:G0) (C:aW) (ns:List aV) (name:aV):Prop where
 cls:ms G C
 find:kz G.K (.ref C) name=ac aq
 nd:ns.Nodup
theorem Vk(F:fx G C ns name)(hl:l.map (·.1)=ns)(hx:CF l name d')(q:Q d' Y Z):Cy G name Q (.inst C l) Y Z:=⟨C,l,ns,aq,d',rfl,F.cls,F.find,rfl,hl,F.nd,hx,q⟩
def Nj(x:aV)(Q:aP->Mu->Prop):DV->aP->Mu->Prop:=fun d Y' Z'=>∃Y'',pF Y' x d Y''/\Q Y'' Z'
theorem DL{Q:Fl->aP->Mu->Prop}(O:B.Ok G)(h:EV G B E (a9 e B.env) Y Z (Nj x (Q .next)))(hs:gN e (ac (.Name x xp)) pos.line B.env=pure ak):EX G B E (fb (.Assign [.Name x xp] e pos) B.env) Y Z Q:=Ha O h hs
theorem Th{Q:aP->Mu->Prop}(h:pF Y x d Y')(q:Q Y' Z):Nj x Q d Y Z:=(bq Y' h q)
def rL(b:Bool)(P R:Prop):Prop:=(b=ai->P)/\(b=ak->R)
theorem Na{P R:Prop}(h:P):rL ai P R:=⟨fun zz=>h,fun h=>by injection h⟩
theorem Nb{P R:Prop}(h:R):rL ak P R:=⟨fun h=>by(injection h),fun zz=>h⟩
abbrev IfK(G:G0)(B:Bx)(E:aE->ay->Prop)(b o:List jU)(Q:Fl->aP->Mu->Prop):Bool->aP->Mu->Prop:=fun c Y' Z'=>rL c (EX G B E (eD b B.env) Y' Z' Q) (EX G B E (eD o B.env) Y' Z' Q)
abbrev ZE(G:G0)(B:Bx)(E:aE->ay->Prop)(b o:bZ)(Q:DV->aP->Mu->Prop):Bool->aP->Mu->Prop:=fun c Y' Z'=>rL c (EV G B E (a9 b B.env) Y' Z' Q) (EV G B E (a9 o B.env) Y' Z' Q)
abbrev ZO(G:G0)(B:Bx)(E:aE->ay->Prop)(rest:List bZ)(Q:Bool->aP->Mu->Prop):Bool->aP->Mu->Prop:=fun b Y' Z'=>rL b (EB G B E (jb .And rest B.env) Y' Z' Q) (Q ak Y' Z')
abbrev OrK(G:G0)(B:Bx)(E:aE->ay->Prop)(rest:List bZ)(Q:Bool->aP->Mu->Prop):Bool->aP->Mu->Prop:=fun b Y' Z'=>rL b (Q ai Y' Z') (EB G B E (jb .Or rest B.env) Y' Z' Q)
theorem JE{b o:List jU}{Q:Fl->aP->Mu->Prop}(h:EB G B E (isTrue t B.env (a9 t B.env)) Y Z (IfK G B E b o Q)):EX G B E (fb (.If t b o pos) B.env) Y Z Q:=UY h
theorem Hd{t b o:bZ}(h:EB G B E (isTrue t B.env (a9 t B.env)) Y Z (ZE G B E b o Q)):EV G B E (a9 (.IfExp t b o pos) B.env) Y Z Q:=JL h
theorem xu{x:bZ}{Q:Bool->aP->Mu->Prop}(h:EB G B E (isTrue x B.env (a9 x B.env)) Y Z (ZO G B E rest Q)):EB G B E (jb .And (x::rest) B.env) Y Z Q:=Av (h.mono fun zz zz zz h=>⟨h.2,h.1⟩)
theorem Au{x:bZ}{Q:Bool->aP->Mu->Prop}(h:EB G B E (isTrue x B.env (a9 x B.env)) Y Z (OrK G B E rest Q)):EB G B E (jb .Or (x::rest) B.env) Y Z Q:=Cn (h.mono fun zz zz zz h=>⟨h.1,h.2⟩)
def Kt(d:DV)(P R:Prop):Prop:=∃c,tF d=ac c/\rL c P R
abbrev Fw(G:G0)(B:Bx)(E:aE->ay->Prop)(y:bZ)(Q:DV->aP->Mu->Prop):DV->aP->Mu->Prop:=fun a Y' Z'=>Kt a (EV G B E (a9 y B.env) Y' Z' Q) (Q a Y' Z')
abbrev Q3(G:G0)(B:Bx)(E:aE->ay->Prop)(y:bZ)(Q:DV->aP->Mu->Prop):DV->aP->Mu->Prop:=fun a Y' Z'=>Kt a (Q a Y' Z') (EV G B E (a9 y B.env) Y' Z' Q)
theorem JQ{x y:bZ}(h:EV G B E (a9 x B.env) Y Z (Fw G B E y Q)):EV G B E (a9 (.BoolOp .And [x,y] pos) B.env) Y Z Q:=MN (h.mono fun zz zz zz z1=>ar z1 fun c e h=>(cB c e h.2 h.1))
theorem MC{x y:bZ}(h:EV G B E (a9 x B.env) Y Z (Q3 G B E y Q)):EV G B E (a9 (.BoolOp .Or [x,y] pos) B.env) Y Z Q:=QE (h.mono fun zz zz zz z2=>ar z2 fun c e h=>(cB c e h.1 h.2))
abbrev Ra(G:G0)(B:Bx)(E:aE->ay->Prop)(f:aE)(Q:DV->aP->Mu->Prop):List DV->aP->Mu->Prop:=fun ds Y' Z'=>cI G B E f ds Y' Z' Q
abbrev AC(G:G0)(B:Bx)(E:aE->ay->Prop)(f:aE)(pre:List DV)(Q:DV->aP->Mu->Prop):List DV->aP->Mu->Prop:=fun ds Y' Z'=>cI G B E f (pre++ds) Y' Z' Q
def Cw(G:G0)(B:Bx)(E:aE->ay->Prop)(pos:xA)(args:List bZ)(Q:DV->aP->Mu->Prop):DV->aP->Mu->Prop:=fun fd Y1 Z1=>∃f,fd=.raw f/\bH G f/\EL G B E (dA (cy pos (br args B.env))) Y1 Z1 (Ra G B E f Q)
theorem wf(O:B.Ok G)(h:EV G B E (a9 func B.env) Y Z (Cw G B E pos args Q))
  (he:a9 (.Call func args [] pos) B.env=(do rY pos (<-a9 func B.env) [] (cy pos (br args B.env)) (pG pos (jw [] B.env))))
  (hp:(cy pos (br args B.env)).any (·.1)=ak):EV G B E (a9 (.Call func args [] pos) B.env) Y Z Q:=MJ O h he hp
theorem Kh(hf:bH G f)(h:EL G B E (dA (cy pos (br args B.env))) Y Z (Ra G B E f Q)):Cw G B E pos args Q (.raw f) Y Z:=(cB f rfl hf h)
def ny(G:G0)(B:Bx)(E:aE->ay->Prop)(name:aV)(pl:HG Bool)(pos:xA)(args:List bZ)(Q:DV->aP->Mu->Prop):DV->aP->Mu->Prop:=fun d Y1 Z1=>∃f ds,(∀V s v A P E,b9 (cx G B) V Y1 Z1 s->Is G.prog G.w V d v->(∀first s',gO G.prog G.w V ds first->b9 (cx G B) V Y1 Z1 s'->P (f,first) s')->bd (bf G.prog G.w) A (jx v name pl) P E s)/\bH G f/\EL G B E (dA (cy pos (br args B.env))) Y1 Z1 (AC G B E f ds Q)
theorem Hc{o:bZ}(O:B.Ok G)(h:EV G B E (a9 o B.env) Y Z (ny G B E name pl pos args Q))
  (he:a9 (.Call (.Attribute o name apos) args [] pos) B.env=(do
     let ov <-a9 o B.env
     sT apos.atName
     let (f,first) <-holding [ov] (jx ov name pl)
     rY pos f first (cy pos (br args B.env)) (pG pos (jw [] B.env))))
  (hp:(cy pos (br args B.env)).any (·.1)=ak):EV G B E (a9 (.Call (.Attribute o name apos) args [] pos) B.env) Y Z Q:=JJ O h he hp
structure lG (G:G0) (C:aW) (ns:List aV) (name:aV) (f:aW):Prop where
 cls:ms G C
 find:kz G.K (.ref C) name=ac (ac (.ref f))
 fn:isFn G.K (.ref f)=ai
 no:ns.contains name=ak
 keep:keepIn G.K (.ref f)=ai
theorem Di(O:B.Ok G)(F:lG G C ns name f)(hl:l.map (·.1)=ns)(h:EL G B E (dA (cy pos (br args B.env))) Y Z (AC G B E (.ref f) [.inst C l] Q)):ny G B E name pl pos args Q (.inst C l) Y Z:=(bO (.ref f) [.inst C l] (GE O F.cls F.find F.fn hl F.no) (cj F.keep) h)
theorem qt{K:Type}[DecidableEq K][DK K]{l:List (K×DV)}{id:String}(D:DS Z d l)(slot:Slot "dict" name id)(hty:iL (.builtin id)=pure (.type "method_descriptor"))(h:EL G B E (dA (cy pos (br args B.env))) Y Z (AC G B E (.builtin id) [d] Q)):ny G B E name pl pos args Q d Y Z:=(bO (.builtin id) [d] (GF D slot hty) kc h)
theorem kH{id:String}(D:LS Z d l)(slot:Slot "list" name id)(hty:iL (.builtin id)=pure (.type "method_descriptor"))(h:EL G B E (dA (cy pos (br args B.env))) Y Z (AC G B E (.builtin id) [d] Q)):ny G B E name pl pos args Q d Y Z:=(bO (.builtin id) [d] (GD D slot hty) kc h)
def Q4(Q:DV->aP->Mu->Prop):DV->aP->Mu->Prop:=fun d Y' Z'=>∃i,d=.int i/\Q (.int (-i)) Y' Z'
theorem MF{x:bZ}(h:EV G B E (a9 x B.env) Y Z (Q4 Q)):EV G B E (a9 (.UnaryOp .USub x pos) B.env) Y Z Q:=QF h
theorem YN{i:Int}(q:Q (.int (-i)) Y Z):Q4 Q (.int i) Y Z:=(bq i rfl q)
def QX(Q:DV->aP->Mu->Prop):List DV->aP->Mu->Prop:=fun ds Y' Z'=>ds.length<=1000000/\Q (.tup ds) Y' Z'
theorem Hb(O:B.Ok G)(h:EL G B E (dA (cy pos (br elts B.env))) Y Z (QX Q)):EV G B E (a9 (.Tuple elts k pos) B.env) Y Z Q:=JH O h
theorem Xg(h:ds.length<=1000000)(q:Q (.tup ds) Y Z):QX Q ds Y Z:=⟨h,q⟩
abbrev AsK(G:G0)(B:Bx)(E:aE->ay->Prop)(tg:bZ)(Q:aP->Mu->Prop):DV->aP->Mu->Prop:=fun d Y' Z'=>AS G B E tg d Y' Z' Q
theorem p9{Q:Fl->aP->Mu->Prop}(h:EV G B E (a9 e B.env) Y Z (AsK G B E (.Tuple [.Name x px,.Name y py] k tp) (Q .next)))(h1:nO [.Tuple [.Name x px,.Name y py] k tp] e pos.line B.env=pure ak)(h2:nP [.Tuple [.Name x px,.Name y py] k tp] e B.env=pure aq):EX G B E (fb (.Assign [.Tuple [.Name x px,.Name y py] k tp] e pos) B.env) Y Z Q:=by intro V s S;refine Assign_Tuple (WP.use h S (fun v s_1 d Y1 Z1 V_1 S_1 k_1 i_1 hA=>?_)) h1 h2;exact aQ (hA V_1 s_1 v S_1 i_1) (fun zz s_2 z4=>iI z4 fun zz Y2 Z2 V_2 S_2 k_2 zz q=>⟨.next,Y2,Z2,V_2,S_2,k_1.trans k_2,rfl,q⟩) fun zz zz x=>x
theorem cS(h:Z.map (·.1)=Z0.map (·.1))(r:R d Z):ki Z0 R (.ret d) Y Z:=(ez [] Z d (.refl _) h r (.inl rfl))
theorem kM(h:Z.map (·.1)=Z0.map (·.1))(r:R d Z):ki Z0 R (.ret d) Y (p::Z):=(ez [p] Z d (.refl _) h r (.inl rfl))
theorem U2(h:Z.map (·.1)=Z0.map (·.1))(r:R d Z):ki Z0 R (.ret d) Y (p::p'::Z):=(ez [p,p'] Z d (.refl _) h r (.inl rfl))
theorem gM(h:Z.map (·.1)=Z0.map (·.1))(r:R .none Z):ki Z0 R .next Y Z:=(ez [] Z .none (.refl _) h r (.inr (.inl ⟨rfl,rfl⟩)))
theorem B8(h:Z.map (·.1)=Z0.map (·.1))(e:Rt mo=ac d)(r:R d Z):ki Z0 R (.ret (.ptr a)) Y ((a,mo)::Z):=(ez [(a,mo)] Z d (.refl _) h r (.inr (.inr (bO a mo rfl (.head _) e))))
theorem U3(h:Z.map (·.1)=Z0.map (·.1))(e:Rt mo=ac d)(r:R d Z):ki Z0 R (.ret (.ptr a)) Y (p::p'::(a,mo)::Z):=(ez [p,p',(a,mo)] Z d (.refl _) h r (.inr (.inr (bO a mo rfl (.tail _ (.tail _ (.head _))) e))))
def bY(G:G0)(x:aV)(d:DV):Prop:=∃v,Ec G x v/\Is G.prog G.w G.hb.get? d v
theorem we(O:B.Ok G)(h:bY G x d)(hx:B.env.kindOf x=ac .globalImplicit)(hd:(x==("__debug__" : aV))=ak)(q:Q d Y Z):EV G B E (a9 (.Name x pos) B.env) Y Z Q:=let ⟨_,a,b⟩:=h;MH O a hx hd b q
def N5(G:G0)(C:aW)(name:aV):Prop:=∀{A:fQ}{s:ay}{x:aW}{ox:ux}{od:Option ux}{tk:Tok}{v:aE}{R:yE->ay->Prop},G.K.In s.heap->W.InstAt s.heap x ox C od->(∀b,bd (bf G.prog G.w) A.in1 (KI (.ref x) (.ref C) (.str name tk) name v b) (fun fin s'=>match fin with|.done f=>R (.ok f) s'|.again c'=>c'.quiet=ai/\fH (bf G.prog G.w) A c' R s') (fun e s'=>R (.error e) s') s)->fH (bf G.prog G.w) A (.call (.builtin "object.__setattr__") ⟨[.ref x,.str name tk,v],[]⟩) R s
structure gi (G:G0) (C:aW) (name:aV):Prop where
 set:kz G.K (.ref C) "__setattr__" = ac (ac (.builtin "object.__setattr__"))
 opens:N5 G C name
 hd:(Ri G.K C).any (·.hasDict)=ai
theorem dc(h1:kz G.K (.ref C) "__setattr__" = ac (ac (.builtin "object.__setattr__")))(h2:plainOver G.K C=ai)(h3:takerIn G.K C name=ac aq)(h4:(Ri G.K C).any (·.hasDict)=ai):gi G C name:=⟨h1,fun X I h=>osa_open X I h2 h3 h,h4⟩
theorem Mg:∀{l:List (aV×DV)}{es:List mA},yx G.prog G.w V l es->es.length=l.length:=by
 intro p0_;induction p0_ with
 |nil=>intro es h;rw[h];rfl
 |cons p_ r ih=>
  rcases p_ with⟨x,d⟩
  intro es h;refine bB h ?_;clear h;intro e rs z1 zz zz h;subst z1;rw[cK,cK,ih h]
theorem Jk:∀{l:List (aV×DV)}{es:List mA},yx G.prog G.w V l es->(l.map (·.1)).contains x=ak->es.any (·.key.isStr x)=ak:=by
 intro p0_;induction p0_ with
 |nil=>intro es h zz;rw[h];rfl
 |cons p_ r ih=>
  rcases p_ with⟨y,d⟩
  intro es h n;refine bB h ?_;clear h;intro e rs z2 z3 zz h;subst z2;refine aY z3 ?_;clear z3;intro t hk;rw[au,dq,fm] at n;rw[dD,hk,ih h n.2,qM];have n1:=n.1;rw[beq_eq_false_iff_ne] at n1;simpa[pH] using fun q=>n1 q.symm
theorem IQ{hsh:Int}:∀{es:List mA},es.any (·.key.isStr name)=ak->putL name hsh k v es=es++[⟨hsh,k,v⟩]:=by
 intro p0_;induction p0_ with
 |nil=>intro zz;exact rfl
 |cons e r ih=>intro h;rw[dD,fm] at h;unfold putL;rw[h.1,ih h.2];rfl
theorem Dw{hsh:Int}(hi:Is G.prog G.w V d v):∀{l:List (aV×DV)}{es:List mA},yx G.prog G.w V l es->yx G.prog G.w V (l++[(x,d)]) (es++[⟨hsh,.str x t,v⟩]):=by
 intro p0_;induction p0_ with
 |nil=>intro es h;rw[h];show Exists _;exact du _ [] rfl ⟨t,rfl⟩ hi rfl
 |cons p_ r ih=>
  rcases p_ with⟨y,d'⟩
  intro es h;refine bB h ?_;clear h;intro e rs z4 hk hi' h;subst z4;show Exists _;exact du e _ rfl hk hi' (ih h)
set_option tactic.hygienic true in
theorem uL{Z1:Mu}{l:List (aV×DV)}{Q:Fin->ay->Prop}(S:b9 (cx G B) V Y (Z1++(dx,.flds l)::Z) s)(hi:Is G.prog G.w V d v)(hno:(l.map (·.1)).contains name=ak)(hl:l.length<=900)(q:∀s',b9 (cx G B) V Y (Z1++(dx,.flds (l++[(name,d)]))::Z) s'->Q (.done (.ret .none)) s'):bd (bf G.prog G.w) A (nsSet dx name v) (fun _ s'=>bd (bf G.prog G.w) A (do lookBehind dx (ac (.str name 0));ret .none) Q E s') E s:=by
 refine cX (S.mu (dx,.flds l) (aK _ (.head _))) fun es n D hf=>?_;have D:s.heap.get? dx=ac (jg es n):=D;have hget:=Jl hf hno;have e:Wf name (wJ G.w.params name) (.str name s.toks) v (jg es n)=jg (es++[⟨wJ G.w.params name,.str name s.toks,v⟩]) (putN name es n):=by rw[putName_dict,IQ (Jk hf hno)]
 have D':=cp (Wf name (wJ G.w.params name) (.str name s.toks) v) D (by rw[e];rfl);unfold nsSet;refine ah (ah (wpAny_askSetting (aH (ah (wpAny_mkText (ah (CJ D ?_)))))));have c:(!es.toArray.any (·.key.isStr name)&&es.toArray.any (·.refKey))=ak:=by
  rw[<-jE,<-jE];unfold getL at hget;split at hget;.cases hget
  .split at hget
   .injection hget
   .rename_i z;rw[Bool.not_eq_true] at z
    rw[kA,z,Bool.and_false]
 dsimp only;rw[aRefKeyMayBeTheName_at,c];have hz:es.length<=1000:=by rw[Mg hf];exact jd hl rfl
 refine wpAny_updatePart D ?_;refine ah (wpAny_lookBehind (D'.trans (congrArg ac e)) (pastItsLine_dict (by rw[lK,aS,AE,bQ];exact om0 hz)) ?_);exact aH (q _ (S.turn (t:=s.toks+1) (mo':=.flds (l++[(name,d)])) (cV ..) (jN _ _ (D'.trans (congrArg ac e)) (Dw hi hf))))
theorem uY{x dx C:aW}{Q:Unit->ay->Prop}(O:B.Ok G)(S:b9 (cx G B) V Y ((x,.obj ox)::(dx,.flds l)::Z) s)(ec:ox.cls=.ref C)(ed:ox.dict=ac dx)(en:notCls ox=ai)(hi:Is G.prog G.w V d v)(F:gi G C name)(hno:(l.map (·.1)).contains name=ak)(hl:l.length<=900)(q:∀s',b9 (cx G B) V Y ((x,.obj ox)::(dx,.flds (l++[(name,d)]))::Z) s'->Q () s'):bd (bf G.prog G.w) B.A (setAttr (.ref x) name v) Q E s:=by
 have X:=S.kin O;have hx:s.heap.get? x=ac ox:=S.mu _ (.head _);refine cX (S.mu (dx,.flds l) (.tail _ (.head _))) fun es n D hf=>?_;have D:s.heap.get? dx=ac (jg es n):=D;have I:InstAt s.heap x ox C (ac (jg es n)):=⟨hx,ec,en,by rw[ed];exact D⟩
 refine set_plain X I F.set (F.opens (s:={s with toks:=s.toks+1}) X I fun b=>?_);refine ar (W4 F.hd) fun cd hc hd'=>?_;obtain⟨oc,odi,oda,osl⟩:=ox;dsimp only at ec ed;subst ec ed;refine ah (aH (ah (ah (CJ hx (ah (KZ X hc _ _ _ _ (fun zz zz e=>e) ?_))))));rw[hd'];exact aH (a:=ac dx) (ah (aH (ah (uL (Z1:=[(x,.obj _)]) (S.sat_toks _) hi hno hl q))))
theorem wd{o e:bZ}{Q:Fl->aP->Mu->Prop}(O:B.Ok G)(h:EV G B E (a9 e B.env) Y Z fun d Y1 Z1=>EV G B E (a9 o B.env) Y1 Z1 fun d' Y2 Z2=>∃x dx C l Zr,d'=.ptr x/\Z2=(x,.obj (cn C dx))::(dx,.flds l)::Zr/\gi G C name/\(l.map (·.1)).contains name=ak/\l.length<=900/\Q .next Y2 ((x,.obj (cn C dx))::(dx,.flds (l++[(name,d)]))::Zr))(hs:gN e (ac (.Attribute o name apos)) pos.line B.env=pure ak):EX G B E (fb (.Assign [.Attribute o name apos] e pos) B.env) Y Z Q:=by intro V s S;refine j5 (WP.use h S (fun v s_1 d Y1 Z1 V_1 S_1 k_1 i_1 h₁=>?_)) hs;refine WP.use h₁ S_1 (fun ov s_2 d' Y2 Z2 V_2 S_2 k_2 i_2 z7=>ei z7 fun x dx C l Zr y51=>iX y51 fun ed em F hno hl q=>?_);subst ed em;refine aZ (aT.mp i_2) fun z8 zz=>?_;subst z8;exact uY O S_2 rfl rfl rfl (i_1.mono k_2) F hno hl fun s' S'=>⟨.next,Y2,_,V_2,S',k_1.trans k_2,rfl,q⟩
def Q0(G:G0)(name:aV)(d:DV)(Q:Fl->aP->Mu->Prop):DV->aP->Mu->Prop:=fun d' Y2 Z2=>∃x dx C l Zr,d'=.ptr x/\Z2=(x,.obj (cn C dx))::(dx,.flds l)::Zr/\gi G C name/\(l.map (·.1)).contains name=ak/\l.length<=900/\Q .next Y2 ((x,.obj (cn C dx))::(dx,.flds (l++[(name,d)]))::Zr)
abbrev Vx(G:G0)(B:Bx)(E:aE->ay->Prop)(o:bZ)(name:aV)(Q:Fl->aP->Mu->Prop):DV->aP->Mu->Prop:=fun d Y1 Z1=>EV G B E (a9 o B.env) Y1 Z1 (Q0 G name d Q)
theorem ua{o e:bZ}{Q:Fl->aP->Mu->Prop}(O:B.Ok G)
  (h:EV G B E (a9 e B.env) Y Z (Vx G B E o name Q))
  (hs:gN e (ac (.Attribute o name apos)) pos.line B.env=pure ak):EX G B E (fb (.Assign [.Attribute o name apos] e pos) B.env) Y Z Q:=wd O h hs
theorem pJ{x dx C:aW}{Q:Fl->aP->Mu->Prop}(F:gi G C name)(hno:(l.map (·.1)).contains name=ak)(hl:l.length<=900)(q:Q .next Y ((x,.obj (cn C dx))::(dx,.flds (l++[(name,d)]))::Z)):Q0 G name d Q (.ptr x) Y ((x,.obj (cn C dx))::(dx,.flds l)::Z):=⟨x,dx,C,l,Z,rfl,rfl,F,hno,hl,q⟩
theorem qE.made(h:qE A (k+1)):qE (A.under (.builtin "type.__call__" ⟨.ref C::rest,kw⟩)) k:=by
 have hw:(s8 "type.__call__" ⟨.ref C::rest,kw⟩).weight=1:=by kernel_rfl
 have hu:(s8 "type.__call__" ⟨.ref C::rest,kw⟩).cUnits=1:=rfl;refine⟨?_,?_⟩;.have:=h.1;show A.depth+(s8 "type.__call__" ⟨.ref C::rest,kw⟩).weight+4*k<900;exact om1 hw this
 .have:=h.2;show A.units+(s8 "type.__call__" ⟨.ref C::rest,kw⟩).cUnits+20*k<9000;exact om2 hu this
structure oV (G:G0) (C fI:aW):Prop where
 makes:makesIn G.K C=ai
 init:kz G.K (.ref C) "__init__" = ac (ac (.ref fI))
 fn:HR G.K (.ref fI)=ac (.type "function")
noncomputable abbrev xU(s:ay)(C:aW):jk:=(s.heap.push yB).push (cn C s.heap.objs.size)
noncomputable abbrev BC(s:ay)(C:aW)(l:List (aV×DV))(Z:Mu):Mu:=(s.heap.objs.size+1,.obj (cn C s.heap.objs.size))::(s.heap.objs.size,.flds l)::Z
theorem sv(s C):(xU s C).objs.size=s.heap.objs.size+2:=by rw[bV,bV]
theorem pq(e:s.heap.get? a=ac o):(xU s C).get? a=ac o:=aX _ (aX _ e)
theorem BB(lt:a<s.heap.objs.size)(h:a∉Z.map (·.1)):a∉(BC s C l Z).map (·.1):=fun z=>by
 rcases ao.mp z with z|z;.exact absurd z (bP (gE lt))
 .rcases ao.mp z with z|z
  .exact absurd z (bP lt)
  .exact h z
theorem Eb.muLt(P:Eb G V Z s)(h:a∈Z.map (·.1)):a<s.heap.objs.size:=ar (az.mp h) fun p hp e=>aY (P.mu p hp).at fun o ho=>e▸aR ho
theorem Bk{C:aW}(P:Eb G V Z s):Eb G V (BC s C [] Z) {s with heap:=xU s C}:=by
 have gx:(xU s C).get? (s.heap.objs.size+1)=ac (cn C s.heap.objs.size):=by heap_get
 refine⟨P.b0,fun a o e=>pq (P.vh _ _ e),fun p hp=>?_,?_,fun p hp=>?_⟩
 .rcases ao.mp hp with rfl|hp
  .exact gx
  .rcases ao.mp hp with rfl|hp
   .exact jN [] 0 (aX _ (aN _ rfl)) rfl
   .exact aY ((P.mu p hp).at) fun o ho=>(P.mu p hp).mono (.refl _) ((pq ho).trans ho.symm)
 .refine av.mpr ⟨fun q=>?_,av.mpr ⟨fun q=>mF _ (P.muLt q),P.nd⟩⟩
  rcases ao.mp q with q|q;.exact absurd q (K3 _)
  .exact absurd (P.muLt q) (bu.mpr (cD _))
 .rcases ao.mp hp with rfl|hp
  .exact P.nV (cD _)
  .rcases ao.mp hp with rfl|hp
   .exact P.nV (aI _)
   .exact P.vm p hp
theorem AZ{A A':fQ}{C:aW}(hA:A'.frames=A.frames)(hstk:m3 A (Z.map (·.1)) V s):m3 A' ((BC s C [] Z).map (·.1)) V {s with heap:=xU s C}:=ar hstk fun l hl hs=>(bq l (hA.trans hl) (fun env he=>gz (hs env he) fun a f o b c d e e'=>⟨a,f,o,b,c,BB (aR e) d,pq e,e'⟩))
theorem xM{A A':fQ}{C:aW}{l:List (aV×DV)}{Zr:Mu}{V':Vw}{s':ay}(hA:A'.frames=A.frames)(P:Eb G V Z s)(T:Az G A' V (BC s C [] Z) {s with heap:=xU s C} V' (BC s C l Zr) s'):∃V'',Az G A V Z s V'' Zr s'/\Is G.prog G.w V'' (.inst C l) (.ref (s.heap.objs.size+1))/\Kp V' V''/\∀a,s.heap.objs.size+2<=a->V'' a=V' a:=by
 have hx:s'.heap.get? (s.heap.objs.size+1)=ac (cn C s.heap.objs.size):=T.mu _ (.head _);refine cX (T.mu (s.heap.objs.size,.flds l) (.tail _ (.head _))) fun es n hd hf=>?_;have hd:s'.heap.get? s.heap.objs.size=ac (jg es n):=hd;have vx:V' (s.heap.objs.size+1)=aq:=T.vm _ (.head _);have vd:V' s.heap.objs.size=aq:=T.vm (s.heap.objs.size,.flds l) (.tail _ (.head _));have k1:Kp V' (fR V' s.heap.objs.size (jg es n)):=c9 vd;have k2:Kp (fR V' s.heap.objs.size (jg es n)) (fR (fR V' s.heap.objs.size (jg es n)) (s.heap.objs.size+1) (cn C s.heap.objs.size)):=c9 (by rw[dB _ _ (K3 _)];exact vx);have as:Zr.map (·.1)=Z.map (·.1):=(HJ (HJ T.as).2).2;have out:∀{a},a≠s.heap.objs.size+1->a≠s.heap.objs.size->fR (fR V' s.heap.objs.size (jg es n)) (s.heap.objs.size+1) (cn C s.heap.objs.size) a=V' a:=fun q q'=>(dB _ _ q).trans (dB _ _ q');refine qc (fR (fR V' s.heap.objs.size (jg es n)) (s.heap.objs.size+1) (cn C s.heap.objs.size)) ⟨T.v0.trans (k1.trans k2),fun a o e=>?_,fun a ha=>?_,fun p hp=>(T.mu p (.tail _ (.tail _ hp))).mono (k1.trans k2) rfl,as,fun p hp=>?_,fun a o hn e=>(show mV A'=mV A by unfold mV;rw[hA])▸T.pr a o (BB (aR e) hn) (pq e),ae (cg _ 2) (sv s C▸T.sz),T.rest⟩ ?_ (k1.trans k2) (fun a ha=>out (gT ha) (gT (Nat.lt_of_succ_lt ha)))
 .by_cases q:a=s.heap.objs.size+1
  .subst q;rw[bT] at e;exact hx.trans e
  .by_cases q':a=s.heap.objs.size
   .subst q';rw[dB _ _ q,bT] at e;exact hd.trans e
   .exact T.vh _ _ ((out q q').symm.trans e)
 .by_cases q:a=s.heap.objs.size+1
  .exact .inr (q▸cD _)
  .by_cases q':a=s.heap.objs.size
   .exact .inr (q'▸aI _)
   .rw[out q q'] at ha
    exact(T.fr a ha).imp id fun z=>ae (cg _ 2) (sv s C▸z)
 .have:=P.muLt (as▸ax hp:p.1∈Z.map (·.1))
  rw[out (bP (gE this)) (bP this)];exact T.vm p (.tail _ (.tail _ hp))
 .show Exists _
  exact fF _ _ es n rfl (bT _ _ _) (by rw[dB _ _ (bP (c8 _)),bT]) (hf.mono (k1.trans k2))
theorem kq(g:G.Ok)(F:oV G C fI)(H:∀x dx,gf G hd k (.ref fI) (.ptr x::ds) ((x,.obj (cn C dx))::(dx,.flds [])::Zc) (fun d Z'=>∃l Zr,d=.none/\Z'=(x,.obj (cn C dx))::(dx,.flds l)::Zr/\R (.inst C l) Zr) (fun zz zz zz zz zz=>False)):gf G hd (k+1) (.ref C) ds Zc R (fun zz zz zz zz zz=>False):=by
 intro A V s vs rm hcalm hh hstk P hi;have kb:∀b o,G.hb.get? b=ac o->s.heap.get? b=ac o:=fun b o e=>P.vh _ _ (P.b0 _ _ e);have X:G.K.In s.heap:=g.kin.keeps kb;have P':=Bk (C:=C) P;have hst':=AZ (C:=C) (A':=A.under (.builtin "type.__call__" ⟨.ref C::vs,[]⟩)) rfl hstk;have fin:=fun l Zr V' s'=>xM (A:=A) (A':=A.under (.builtin "type.__call__" ⟨.ref C::vs,[]⟩)) (C:=C) (l:=l) (Zr:=Zr) (V':=V') (s':=s') rfl P;rcases s with⟨h,gs,dr,tk,os⟩
 refine make_core (makes_of X F.makes) (jS X F.init) (fun self=>bind_fn X self F.fn) (.inl rfl) ?_;refine dP (H (h.objs.size+1) h.objs.size (A.under (.builtin "type.__call__" ⟨.ref C::vs,[]⟩)) V _ (.ref (h.objs.size+1)::vs) rm.made hcalm hh hst' P' (aG.mpr (bO _ _ rfl (aT.mpr ⟨rfl,rfl⟩) hi))) fun r s' hr=>?_;rcases r with e|(v|_|_|_)<;>first|exact hr.elim|skip
 refine bl hr fun d Z' V' T i y52=>aM y52 fun l Zr z9 z10 hR=>?_;subst z9;subst z10;refine aZ (aT.mp i) fun z11 zz=>?_;subst z11;exact⟨rfl,jD (fin l Zr V' s' T) fun V'' T2 i2 _ _=>(i0 (.inst C l) Zr V'' T2 i2 hR)⟩
def Q2(a:aW)(h:jk):Prop:=∃o vs,h.get? a=ac o/\o.data=.fields vs/\vs[2]?=ac .none
noncomputable def cY(a:aW):HG α->Prop|.pure _=>True|.raise _=>True|.unsupported _=>True|.finish _=>True|.rule _ k=>cY a (k ())|.at _ k=>cY a (k ())|.load _ _ k=>∀o,cY a (k o)|.update b _ f k=>(∀h,Q2 a h->Q2 a (h.update b f))/\cY a (k ())|.alloc _ k=>∀x,cY a (k x)|.ask k=>∀x,cY a (k x)|.stack k=>∀x,cY a (k x)|.fresh k=>∀x,cY a (k x)|.point _ k=>cY a (k ())|_=>False
theorem cz(hf:∀x,cY a (f x)):∀{t:HG α},cY a t->cY a (t >>= f):=by
 intro t;show cY a t->cY a (Sem.bind t f);induction t with
 |pure x=>exact fun zz=>hf x
 |raise|unsupported|finish=>exact fun h=>h
 |rule _ k ih|«at» _ k ih=>exact fun h=>ih () h
 |point _ k ih=>exact fun h=>ih () h
 |load _ _ k ih=>exact fun h o=>ih o (h o)
 |alloc _ k ih=>exact fun h o=>ih o (h o)
 |ask k ih=>exact fun h o=>ih o (h o)
 |stack k ih=>exact fun h o=>ih o (h o)
 |fresh k ih=>exact fun h o=>ih o (h o)
 |update b _ g k ih=>exact fun h=>⟨h.1,ih () h.2⟩
 |_=>exact fun h=>h.elim
theorem tn{x:α}:cY a (pure x:HG α):=trivial
theorem Q2.push(q:Q2 a h)(o):Q2 a (h.push o):=by refine cX q ?_;clear q;intro o' vs h1 h2;exact jN o' vs (aX _ h1) h2
theorem FP{Q:α->xA->ay->Prop}{E:aE->xA->ay->Prop}:∀{p:xA}{s:ay},cY a t->Q2 a s.heap->CN M Γ t Q E p s->CN M Γ t (fun x p' s'=>Q2 a s'.heap/\Q x p' s') (fun e p' s'=>Q2 a s'.heap/\E e p' s') p s:=by
 induction t with
 |pure x=>intro p s _ q h;exact⟨q,h⟩
 |raise v=>intro p s _ q h;exact⟨q,h⟩
 |unsupported|finish=>intro p s _ q h;exact h
 |rule _ k ih|«at» _ k ih=>intro p s kk q h;exact ih _ kk q h
 |point _ k ih=>intro p s kk q h;exact ih _ kk q h
 |ask k ih|stack k ih=>intro p s kk q h;exact ih _ (kk _) q h
 |fresh k ih=>intro p s kk q h;exact ih _ (kk _) q h
 |alloc o k ih=>intro p s kk q h;exact ih _ (kk _) (q.push o) h
 |load b _ k ih=>intro p s kk q ⟨o,ho,h⟩;exact⟨o,ho,ih _ (kk _) q h⟩
 |update b _ f k ih=>intro p s kk q ⟨ha,h⟩;exact⟨ha,ih _ kk.2 (kk.1 _ q) h⟩
 |_=>intro p s kk q h;exact kk.elim
theorem eV{Q:α->ay->Prop}(k:cY a t)(q:Q2 a s.heap)(h:bd M A t (fun x s'=>Q2 a s'.heap->Q x s') (fun e s'=>Q2 a s'.heap->E e s') s):bd M A t Q E s:=fun Γ p hΓ=>FE M Γ t (fun zz zz zz x=>x.2 x.1) (fun zz zz zz x=>x.2 x.1) p s (FP k q (h Γ p hΓ))
theorem Q2.upd(hf:∀o vs,o.data=.fields vs->vs[2]?=ac .none->∃vs',(f o).data=.fields vs'/\vs'[2]?=ac .none)(h)(q:Q2 a h):Q2 a (h.update b f):=by
 refine aM q ?_;clear q;intro o vs h1 h2 h3;by_cases e:b=a
 .subst e
  refine ar (hf o vs h2 h3) fun vs' g2 g3=>?_;exact bO (f o) vs' (cp _ h1 (pI g2)) g2 g3
 .exact bO o vs ((jc _ _ e).trans h1) h2 h3
theorem qv(hi:i≠2):cY a (updateField b i v):=by
 intro o;show cY a (match o.data with|.fields vs=>if i<vs.size then update b (AP (·.setIfInBounds i v)) else KT "internal:no-such-field"|_=>KT "internal:write-to-non-record");split
 .split
  .refine⟨Q2.upd fun o vs h2 h3=>(bq _ (ly h2 _) ?_),trivial⟩
   rw[Array.getElem?_setIfInBounds_ne hi];exact h3
  .trivial
 .trivial
theorem jV(hi:i≠2):cY a (KU e i v):=by
 unfold KU;split;.exact qv hi
 .trivial
theorem j9:cY a (field e i):=by
 unfold field;refine cz (fun x=>?_) ?_;.split<;>trivial
 .unfold fieldsOf
  split
  .intro o
   show cY a (match o.data with|.fields vs=>pure vs|_=>KT "internal:no-fields");split<;>trivial
  .trivial
theorem gK:cY a (HE e f):=by
 unfold HE;refine cz (fun x=>?_) j9;split;.exact jV (by decide)
 .trivial
theorem xl:cY a (WZ env outer):=by
 unfold WZ;split;.trivial
 .split
  .trivial
  .exact cz (fun x=>tn) j9
theorem BH:cY a (keptBack env b outer):=by
 cases outer with
 |nil=>
  show cY a (if(env.scope.isGenerator||env.scope.isCoroutine)=ai then pure dm else do return if <-underTheClaimsCaller then .notImplemented else .none);by_cases h:(env.scope.isGenerator||env.scope.isCoroutine)=ai;.rw[if_pos h];trivial
  .rw[if_neg h];exact fun zz=>trivial
 |cons c r=>exact(trivial:cY a (pure _:HG aE))
theorem zG:∀{l:List Op},cY a (readyFrames l):=by
 intro p0_;induction p0_ with|nil=>exact trivial|cons env outer ih=>
  unfold readyFrames;cases env.frame with|none=>trivial|some f=>
   dsimp only;refine cz (fun o=>?_) (fun zz=>trivial);split;.trivial
   .refine cz (fun x=>cz (fun y=>?_) BH) xl
    exact cz (fun zz=>ih) ⟨Q2.upd fun o vs h2 h3=>(bq vs h2 h3),trivial⟩
theorem vC:cY a (yF env):=by
 unfold yF;refine cz (fun l=>cz (fun x=>?_) ?_) (fun zz=>trivial);.split<;>trivial
 .cases List.dropWhile (fun x=>x.frame != env.frame) l with|nil=>trivial|cons e r=>exact cz (fun zz=>tn) zG
theorem zI:cY a (nK x1 x2 x3 x4 x5 pl):=by
 unfold nK newFields newObj;generalize[x1,x2,x3,x4,x5]++(if pl.isEmpty=ai then d6 6 dm else pl)=l;dsimp only;split;.trivial
 .exact fun zz=>trivial
theorem zH:cY a (HX f b):=by unfold HX;refine cz (fun l=>?_) (fun zz=>trivial);dsimp only;split<;>trivial
theorem oA:cY a (RC e env):=by
 unfold RC;cases env.frame with|none=>trivial|some f=>
  dsimp only;refine cz (fun head=>?_) j9;have tail:cY a (do KU e 1 (<-nK head (<-yF env) .none (e9 f) .none (<-HX f (head != .none))):HG Unit):=
   cz (fun zz=>cz (fun zz=>cz (fun zz=>jV (by decide)) zI) zH) vC
  split
  .refine cz (fun x=>?_) j9
   split;.trivial
   .exact cz (fun zz=>tail) (jV (by decide))
  .exact tail
theorem kI:cY a (leaving env e):=cz (fun zz=>gK) oA
def wF(o:ux):Prop:=o.cls=.ref 59/\∃vs a0,o.data=.fields vs/\vs[0]?=ac a0/\vs[1]?=ac .none/\vs[2]?=ac .none
structure Zi (G:G0) (A:fQ) (V:Vw) (Z:Mu) (s:ay) (x:aW) (fl:aE) (a:aW) (l:List Op) (V':Vw) (base:jk) (a0:aE) (s':ay):Prop where
 fr:A.frames=ac l
 st:base.StaysIn s'.heap
 no:base.get? a=aq
 ff:s'.heap.FunFrames base l
 tr:s'.heap.TracedAtW base a (.ref 59) a0 fl
 big:s.heap.objs.size<=a
 q2:Q2 a s'.heap
 v0:Kp V V'
 vb:Kp V' base.get?
 vn:∀b,V' b≠aq->V b≠aq\/s.heap.objs.size<=b
 mu:∀p∈Z,ju G.prog G.w V' base.get? p.1 p.2
 vm:∀p∈Z,V' p.1=aq
 pr:∀b o,b∉Z.map (·.1)->b∉mV A->s.heap.get? b=ac o->base.get? b=ac o
 sl:∀b o,b≠x->b∈mV A->s.heap.get? b=ac o->∃sl,s'.heap.get? b=ac {o with slots:=sl}
 sz:s.heap.objs.size<=s'.heap.objs.size
 rest:uf s s'
structure Zk (G:G0) (A:fQ) (V:Vw) (Z:Mu) (s:ay) (x:aW) (a:aW) (V':Vw) (base:jk) (s':ay):Prop where
 no:base.get? a=aq
 big:s.heap.objs.size<=a
 v0:Kp V V'
 vb:Kp V' base.get?
 vn:∀b,V' b≠aq->V b≠aq\/s.heap.objs.size<=b
 mu:∀p∈Z,ju G.prog G.w V' base.get? p.1 p.2
 vm:∀p∈Z,V' p.1=aq
 pr:∀b o,b∉Z.map (·.1)->b∉mV A->s.heap.get? b=ac o->base.get? b=ac o
 sl:∀b o,b≠x->b∈mV A->s.heap.get? b=ac o->∃sl,s'.heap.get? b=ac {o with slots:=sl}
 sz:s.heap.objs.size<=s'.heap.objs.size
 rest:uf s s'
theorem Zi.b{x:aW}(X:Zi G A V Z s x fl a l V' base a0 s'):Zk G A V Z s x a V' base s':=⟨X.no,X.big,X.v0,X.vb,X.vn,X.mu,X.vm,X.pr,X.sl,X.sz,X.rest⟩
def XF(G:G0)(A:fQ)(V:Vw)(Z:Mu)(s:ay)(x:aW)(fl e:aE)(s':ay):Prop:=∃a l V' base a0,e=.ref a/\Zi G A V Z s x fl a l V' base a0 s'
abbrev XE(G:G0)(Z:Mu):fQ->Vw->ay->aE->ay->Prop:=fun A V s e s'=>XF G A V Z s s.heap.objs.size .none e s'
abbrev jf(G:G0)(k:Nat)(f:aE)(ds:List DV)(Z:Mu)(R:DV->Mu->Prop)(ok:Prop):Prop:=gf G ak k f ds Z (fun d Z'=>ok/\R d Z') (fun A V s e s'=>¬ok/\XE G Z A V s e s')
structure qb (B:Bx):Prop where
 frame:B.env.frame=ac B.L
 fr:∃l,B.A.frames=ac (B.env::l)
inductive EF (G:G0) (B:Bx) (Z0:Mu):aE->ay->Prop
 |made {a:aW} {V:Vw} {Y:aP} {Z:Mu} {s':ay}:b9 (cx G B) V Y ((a,.pr wF)::Z) s'->(∀p∈Z0,p∈Z)->EF G B Z0 (.ref a) s'
 |fly {e:aE} {s':ay}:XF G B.A B.V0 Z0 B.s0 B.L .none e s'->EF G B Z0 e s'
 |held {e:aE} {s':ay}:XF G B.A B.V0 Z0 B.s0 B.L (e9 B.L) e s'->EF G B Z0 e s'
theorem qb.mem(W:qb B):B.L∈mV B.A:=by refine aY W.fr fun l hl=>?_;unfold mV;rw[hl];exact cm.mpr (bq B.env (.head _) W.frame)
theorem XF.up(O:B.Ok G)(W:qb B)(S:b9 (cx G B) V Y Z s)(P:iZ Z Zc f)(h0:∀p∈Z0,p∈Z)(hm:B.m0=Z0.map (·.1))(h:XF G B.A V Zc s s.heap.objs.size .none e s'):XF G B.A B.V0 Z0 B.s0 B.L .none e s':=by
 refine pC h ?_;clear h;intro a l V' base a0 z1 X;subst z1;have dj:=av.mp S.dj;have inj:∀p∈Z,∀q∈Z,p.1=q.1->p=q:=fun p hp q hq e=>by
  have nd:(Z.map (·.1)).Nodup:=dj.2;clear dj S h0 P;induction Z with|nil=>cases hp|cons r t ih=>
   rw[au,av] at nd;rcases ao.mp hp with hp1|hp1<;>rcases ao.mp hq with hq1|hq1
   .exact hp1.trans hq1.symm
   .exact absurd (by rw[<-hp1,e];exact ax hq1) nd.1
   .exact absurd (by rw[<-hq1,<-e];exact ax hp1) nd.1
   .exact ih hp1 hq1 nd.2
 refine⟨a,l,V',base,a0,rfl,X.fr,X.st,X.no,X.ff,X.tr,ae S.sz X.big,X.q2,S.v0.trans X.v0,X.vb,fun b hb=>?_,fun p hp=>?_,fun p hp=>?_,fun b o hb hf ho=>?_,fun b o hx hb ho=>?_,ae S.sz X.sz,S.rest.trans X.rest⟩
 .rcases X.vn b hb with z|z
  .exact S.fr b z
  .exact .inr (ae S.sz z)
 .have hp':=h0 p hp
  by_cases q:p.1∈Zc.map (·.1)
  .refine ar (az.mp q) fun r hr e=>?_
   exact inj r (P.sub r hr) p hp' e▸X.mu r hr
  .refine aY ((S.mu p hp').at) fun o ho=>?_
   exact(S.mu p hp').mono X.v0 ((X.pr p.1 o q (fun z=>((S.stk O).fro z).2.1 (ax hp')) ho).trans ho.symm)
 .have hp':=h0 p hp
  cases q:V' p.1 with|none=>rfl|some o=>
   rcases X.vn p.1 (by rw[q];simp) with z|z;.exact absurd (S.vm p hp') z
   .exact absurd (S.muLt hp') (bu.mpr z)
 .have hL:b≠B.L:=fun q=>hf (q▸W.mem)
  refine ar (S.pr b o (by rw[show(cx G B).m0=B.m0 from rfl,hm];exact hb) hL ho) fun o' e' nr=>?_;rw[nr.1 hf] at e';refine X.pr b o (fun z=>?_) hf e';refine ar (az.mp z) fun r hr e=>?_;subst e;rcases S.mf r (P.sub r hr) with z|z;.exact hb (hm▸z)
  .exact absurd (aR ho) (bu.mpr z)
 .by_cases q:b∈B.m0
  .refine ar (az.mp (hm▸q)) fun r hr e=>?_
   subst e;exact absurd (ax (h0 r hr)) ((S.stk O).fro hb).2.1
  .refine ar (S.pr b o q hx ho) fun o' e' r=>?_
   refine aY (X.sl b o' (bP (aR e')) hb e') ?_;(try clear sl);intro sl hs;refine Fc r ?_;clear r;intro zz sl' z2;subst z2;exact⟨sl,hs⟩
theorem ww(O:B.Ok G)(W:qb B)(hm:B.m0=Z0.map (·.1))(H:jf G k f ds Zc R ok)(hh:B.hd=ak)(P:iZ Z Zc re)(hk:k<=B.k)(h0:∀p∈Z0,p∈Z)(hE:¬ok->∀e s',XF G B.A B.V0 Z0 B.s0 B.L .none e s'->E e s')(q:ok->∀d Zc',R d Zc'->Q d Y (re Zc')):cI G B E f ds Y Z Q:=wx O H (.inr hh) P hk (fun d Zc' h=>q h.1 d Zc' h.2) fun V s e s' S h=>hE h.1 e s' (XF.up O W S P h0 hm h.2)
theorem Ez{h h':jk}(u:h.UpToSlots h')(hn:∀vs,o.data≠.fields vs)(e:h.get? b=ac o')(x:∃sl,o'={o with slots:=sl}):∃sl,h'.get? b=ac {o with slots:=sl}:=by refine aY x ?_;clear x;intro sl z3;subst z3;refine aY (u b _ e hn) fun sl' e'=>?_;exact⟨sl',e'⟩
theorem vz{E':aE->ay->Prop}(hB:B=⟨A.deeper env,env,s.heap.objs.size,V,Z0.map (·.1),s,k,hd⟩)(hfe:env.frame=ac s.heap.objs.size)(O:B.Ok G)(hst:m3 A (Z0.map (·.1)) V s)(h:EF G B Z0 e s'):bd (bf G.prog G.w) B.A (leaving B.env e) (fun zz s''=>XE G Z0 A V s e s'') E' s':=by
 refine ar hst ?_;clear hst;intro l hl hst;have hfr:B.A.frames=ac (B.env::l):=by rw[hB];exact e8 hl
 have hf:B.env.frame=ac B.L:=by rw[hB];exact hfe
 have hL:B.L=s.heap.objs.size:=by rw[hB]
 have hV:B.V0=V:=by rw[hB]
 have hs0:B.s0=s:=by rw[hB]
 have hm0:B.m0=Z0.map (·.1):=by rw[hB]
 have W:qb B:=⟨hf,l,hfr⟩
 have sub:∀b,b∈mV A->b∈mV B.A:=fun b hb=>by unfold mV at hb ⊢;rw[hl] at hb;rw[hfr];refine ar (cm.mp hb) fun env he hf=>?_;exact cm.mpr (bq env (.tail _ he) hf)
 have froL:∀{b},b≠B.L->b∉mV A->b∉mV B.A:=fun {b} n h z=>by
  unfold mV at h z;rw[hfr] at z;rw[hl] at h;refine ar (cm.mp z) fun env he hf'=>?_;rcases ao.mp he with rfl|he;.rw[hf] at hf';exact n (aB hf').symm
  .exact h (cm.mpr (bq env he hf'))
 have nf:∀{b o},b∈mV A->s.heap.get? b=ac o->∀vs,o.data≠.fields vs:=fun {b o} hb ho=>by unfold mV at hb;rw[hl] at hb;refine ar (cm.mp hb) fun env he hf=>?_;refine gz (hst env he) fun zz f o' hf' zz zz ho' hd=>?_;rw[hf] at hf';(injection hf' with hf';subst hf');rw[ho] at ho';(injection ho' with ho';subst ho');exact hd
 have nsz:∀{b o},s.heap.get? b=ac o->b≠B.L:=fun e=>hL▸bP (aR e);have Xout:∀{a:aW}{V':Vw}{base:jk}{a0:aE}{h':jk},Zk G B.A B.V0 Z0 B.s0 B.L a V' base s'->base.StaysIn h'->h'.FunFrames base l->h'.TracedW base a (.ref 59) a0->s'.heap.UpToSlots h'->s'.heap.objs.size<=h'.objs.size->Q2 a h'->XE G Z0 A V s (.ref a) {s' with heap:=h'}:=fun {a V' base a0 h'} X x1 x2 x3 x4 x5 x6=>by
  refine⟨a,l,V',base,a0,rfl,hl,x1,X.no,x2,x3,hs0▸X.big,x6,hV▸X.v0,X.vb,fun b hb=>?_,X.mu,X.vm,fun b o h1 h2 h3=>?_,fun b o zz hb ho=>?_,?_,?_⟩;.have:=X.vn b hb;rw[hV,hs0] at this;exact this
  .exact X.pr b o h1 (froL (nsz h3) h2) (by rw[hs0];exact h3)
  .refine aY (X.sl b o (nsz ho) (sub b hb) (by rw[hs0];exact ho)) ?_
   (try clear sl);intro sl hs;exact Ez x4 (nf hb ho) hs ⟨sl,rfl⟩
  .have:=X.sz;rw[hs0] at this;exact ae this x5
  .have:=X.rest;rw[hs0] at this;exact this
 cases h with
 |@made a V_1 Y1 Z1 _ S h0=>
  refine mi (S.mu (a,.pr wF) (.head _)) fun oe ho hc vs a0 y32=>jW y32 fun hd h00 h01 h02=>?_;have ho:s'.heap.get? a=ac oe:=ho;have hVa:V_1 a=aq:=S.vm (a,.pr wF) (.head _);have dj:=av.mp S.dj;have dj2:=av.mp (au▸dj.2);have stk:=S.stk O;have q2:Q2 a s'.heap:=(bO oe vs ho hd h02)
  have bget:∀{b o},s'.heap.get? b=ac o->b≠a->b∉mV B.A->(Rg s'.heap (a::mV B.A)).get? b=ac o:=fun e n1 n2=>hideAll_get _ e fun z=>by
   rcases ao.mp z with z|z;.exact n1 z
   .exact n2 z
  have hff:s'.heap.FunFrames (Rg s'.heap (a::mV B.A)) (B.env::l):=by
   refine ar stk ?_;clear stk;intro l' hl' hs;rw[hfr] at hl';(injection hl' with hl';subst hl');have hin:∀env∈B.env::l,∀f,env.frame=ac f->f∈a::mV B.A:=fun env he f hf=>.tail _ (by unfold mV;rw[hfr];exact cm.mpr (bq env he hf));have go:∀ls,(∀env∈ls,env∈B.env::l)->s'.heap.FunFrames (Rg s'.heap (a::mV B.A)) ls:=by
    intro ls;induction ls with
    |nil=>exact fun zz=>trivial
    |cons env r ih=>intro hsub;refine gz (hs env (hsub env (.head _))) fun k1 f o k2 k3 k4 k5 k6=>?_;exact jR k1 (du f o k2 (HV _ (hin env (hsub env (.head _)) f k2)) k5 k6) (ih fun e he=>hsub e (.tail _ he))
   exact go _ fun zz h=>h
  refine eV kI q2 (b5 (wpAny_leaving_firstW (base:=Rg s'.heap (a::mV B.A)) hfr hff hf ho (fun b o e=>of_hideAll _ e) (HV _ (.head _)) hd h01 h00 fun h' z4=>jW z4 fun x1 x2 x3 x4=>?_));intro x5 x6;rw[hc] at x3;refine Xout (V':=V_1) ⟨HV _ (.head _),(S.mf (a,.pr wF) (.head _)).resolve_left (fun z=>by rw[show(cx G B).m0=B.m0 from rfl,hm0] at z;refine ar (az.mp z) fun r hr e=>?_;exact dj2.1 (e▸ax (h0 r hr))),S.v0,fun b o e=>?_,S.fr,fun p hp=>?_,fun p hp=>S.vm p (.tail _ (h0 p hp)),fun b o h1 h2 h3=>?_,fun b o h1 h2 h3=>?_,S.sz,S.rest⟩ x1 x2.2.2 x3 x4 x5 x6
  .refine bget (S.vh _ _ e) (fun q=>?_) (fun q=>?_)
   .rw[q,hVa] at e;injection e
   .rw[(stk.fro q).1] at e;injection e
  .have hp':=h0 p hp
   refine aY ((S.mu p (.tail _ hp')).at) fun o ho'=>?_;exact(S.mu p (.tail _ hp')).mono (.refl _) ((bget ho' (fun q=>dj2.1 (by have:=ax (f:=fun x:aW×MO=>x.1) hp';rw[q] at this;exact this)) (fun q=>(stk.fro q).2.1 (ax (Em _ hp')))).trans ho'.symm)
  .have hL':b≠B.L:=fun q=>h2 (q▸W.mem)
   have hbm:b∉B.m0:=hm0▸h1;refine ar (S.pr b o hbm hL' h3) fun o' e' nr=>?_;rw[nr.1 h2] at e';refine bget e' (fun q=>?_) h2;subst q;rcases S.mf _ (.head _) with z|z;.exact hbm z
   .exact absurd (aR h3) (bu.mpr z)
  .by_cases q:b∈B.m0
   .refine ar (az.mp (hm0▸q)) fun r hr e=>?_
    subst e;exact absurd (ax (Em _ (h0 r hr))) (stk.fro h2).2.1
   .refine E9 (S.pr b o q h1 h3) fun o' e' zz sl z5=>?_
    subst z5;exact⟨sl,e'⟩
 |fly h=>refine pC h ?_;clear h;intro a l' V' base a0 z6 X;subst z6;obtain rfl:l'=B.env::l:=aB (X.fr.symm.trans hfr);refine eV kI X.q2 (b5 (wpAny_leaves_onW hfr hf (oX X.st X.no X.ff X.tr) fun h' z7 u=>jW z7 fun x1 x2 x3 x4=>fun x5 x6=>Xout X.b x1 x3 x4 u x5 x6))
 |held h=>refine pC h ?_;clear h;intro a l' V' base a0 z8 X;subst z8;obtain rfl:l'=B.env::l:=aB (X.fr.symm.trans hfr);refine eV kI X.q2 (b5 ?_);unfold leaving;refine ah (wpAny_noteFrame_againW hf X.tr (wpAny_landsW (oX X.st X.no X.ff X.tr) fun h' z9 u=>jW z9 fun x1 x2 x3 x4=>fun x5 x6=>Xout X.b x1 x3.2.2 x4 u x5 x6))
theorem JR(g:G.Ok)(ho:G.K.lookup f=ac o)(hdata:o.data=.func fd)(hb:fd.body=.stmts body)(hco:fd.scope.isCoroutine=ak)(hgen:fd.scope.isGenerator=ak)(hk:fd.scope.kind=.function)(hcell:∀x∈fd.scope.names,x.2≠.cell)(hgl:fd.globals=ce)(hbu:fd.builtins=d7)(hcd:nR G.K fd.code fd.qualname=ai)(bind:∀V s vs,Kp G.hb.get? V->Kp V s.heap.get?->gO G.prog G.w V ds vs->∃binds,w4 s fd ⟨vs,[]⟩ binds/\(∀x∈binds,fd.scope.names.lookup x.1=ac .local)/\∀p∈Y0,fd.scope.names.lookup p.1=ac .local/\(p.2≠.any->∃v,binds.reverse.lookup p.1=ac v/\Is G.prog G.w V p.2 v))(hns:Y0.map (·.1)=ns)(nd:ns.Nodup)(H:∀B,B.Ok G->qb B->B.k=k->B.hd=ak->B.env=nI fd B.L f->B.m0=Z0.map (·.1)->EX G B (fun e s'=>¬ok/\EF G B Z0 e s') (eD body B.env) Y0 Z0 (ki Z0 fun d Z'=>ok/\R d Z')):jf G (k+1) (.ref f) ds Z0 R ok:=
 JW (EE:=fun B e s'=>¬ok/\EF G B Z0 e s') g ho hdata hb hco hgen hk hcell hgl hbu hcd bind hns nd
  (fun A V s B hB O hst e s' h=>aQ (vz (E':=fun zz zz=>False) hB rfl O hst h.2) (fun zz zz x=>⟨h.1,x⟩) fun zz zz x=>x.elim)
  fun B O h1 h2=>H B O ⟨h1,h2⟩
theorem tU{s:ay}{Q:Unit->ay->Prop}(hkb:base.StaysIn s.heap)(hen:base.get? e=aq)(hl:s.heap.FunFrames base l)(ht:s.heap.TracedAtW base e cls a0 fl)(h:∀h',Heap.HeldW base l e cls a0 L h'->s.heap.UpToSlots h'->Q () {s with heap:=h'}):bd M A (HE (.ref e) (ac L)) Q E s:=by
 refine ei ht ?_;clear ht;intro oe vs T oT ts y33;refine iX y33 ?_;clear y33;intro he hcls hd h1 hnT y34;refine jW y34 ?_;clear y34;intro hTe hT hdT h3;have hsz3:3<ts.size:=(kP.mp h3).1;have other:∀b,b≠T->(s.heap.update T (AP (·.setIfInBounds 3 ((ac L).elim dm fun f=>e9 f)))).get? b=s.heap.get? b:=fun b hb=>jc _ _ (oZ hb);have noRecord:∀b o,s.heap.get? b=ac o->(∀vs,o.data≠.fields vs)->b≠T:=fun b o hb hnf q=>by rw[q,hT] at hb;injection hb with hb;subst hb;exact hnf ts hdT
 unfold HE;refine ah (rR he hd h1 ?_);rw[if_pos (show(cs T != dm)=ai from by simp)];refine CH hT hdT hsz3 (h _ (oX (fun b o hbo=>(other b fun q=>by rw[q,hnT] at hbo;injection hbo).trans (hkb b o hbo)) hen (hl.of_keeps fun b o hb hnf=>(bq o ((other b (noRecord b o hb hnf)).trans hb) rfl)) ?_) fun b o hb hnf=>⟨o.slots,(other b (noRecord b o hb hnf)).trans hb⟩);exact⟨oe,vs,T,_,_,(other e (oZ hTe)).trans he,hcls,hd,h1,hnT,hTe,cp _ hT (pI (ly hdT _)),ly hdT _,by simp[hsz3]⟩
theorem M6{x L:aW}(hfr:A.frames=ac (env::outer))(hf:env.frame=ac L)(nf:∀b o,b∈mV A->s.heap.get? b=ac o->b≠x->∀vs,o.data≠.fields vs)(h:XF G A V Z s x .none e s')(hE:∀s'',XF G A V Z s x (e9 L) e s''->E e s''):wS (bf G.prog G.w) A env (cameBackBy (bf G.prog G.w) A env E) e s':=by refine pC h ?_;clear h;intro a l V' base a0 z10 X;subst z10;obtain rfl:l=env::outer:=aB (X.fr.symm.trans hfr);refine eV oA X.q2 (b5 (VQ hfr hf (oX X.st X.no X.ff X.tr) fun h' z11 u=>jW z11 fun x1 x2 x3 x4=>?_));intro z1 z2;refine ei (id x4) fun oe vs T oT ts y35=>iX y35 fun he hcls hd h1 hnT y36=>jW y36 fun hTe hT hdT h3=>?_;unfold cameBackBy;refine ah (rR he hd h1 ?_);rw[if_neg (show ¬((cs T==dm)=ai) from by simp),hf];refine eV gK z2 (b5 (tU (s:={s' with heap:=h'}) x1 x2 x3 x4 fun h'' z12 u'=>jW z12 fun y1 y2 y3 y4=>?_));intro z3 z4;refine hE _ ⟨a,_,V',base,a0,rfl,X.fr,y1,X.no,y3,y4,X.big,z4,X.v0,X.vb,X.vn,X.mu,X.vm,X.pr,fun b o h1 h2 h3=>?_,ae X.sz (ae z1 z3),X.rest⟩;refine aY (X.sl b o h1 h2 h3) ?_;(try clear sl);intro sl hs;refine aY (u b _ hs (nf b o h2 h3 h1)) fun sl' hs'=>?_;refine aY (u' b _ hs' (nf b o h2 h3 h1)) fun sl'' hs''=>?_;exact⟨sl'',hs''⟩
theorem Bx.Ok.nf(O:B.Ok G):∀b o,b∈mV B.A->B.s0.heap.get? b=ac o->b≠B.L->∀vs,o.data≠.fields vs:=fun b o hb ho hn=>by refine ar O.stk fun l hl h=>?_;unfold mV at hb;rw[hl] at hb;refine ar (cm.mp hb) fun env he hf=>?_;refine sM (h env he) fun zz f hf' q=>?_;rw[hf] at hf';(injection hf' with hf';subst hf');refine Am (q.resolve_left hn) fun zz zz o' ho' hd=>?_;rw[ho] at ho';(injection ho' with ho';subst ho');exact hd
def CE(G:G0)(B:Bx)(Y:aP)(Z:Mu)(e:aE)(s':ay):Prop:=∃V s Zc re,b9 (cx G B) V Y Z s/\iZ Z Zc re/\XF G B.A V Zc s s.heap.objs.size .none e s'
theorem wy(O:B.Ok G)(H:jf G k f ds Zc R ok)(hh:B.hd=ak)(P:iZ Z Zc re)(hk:k<=B.k)(hE:¬ok->∀e s',CE G B Y Z e s'->E e s')(q:ok->∀d Zc',R d Zc'->Q d Y (re Zc')):cI G B E f ds Y Z Q:=wx O H (.inr hh) P hk (fun d Zc' h=>q h.1 d Zc' h.2) fun V s e s' S h=>hE h.1 e s' (kh V s _ _ S P h.2)
noncomputable def Uv(B:Bx)(a:aW):Bx:={B with A:=B.A.mark (ac (.ref a)),hd:=ai}
theorem I0(O:B.Ok G):(Uv B a).Ok G:=⟨O.g,⟨O.c.fn,O.c.loc,O.c.glo,O.c.bui⟩,O.room,(fun h=>by injection h),O.stk⟩
theorem b9.unmark(h:b9 (cx G (Uv B a)) V' Y' Z' s')(hk:CG B.A V'):b9 (cx G B) V' Y' Z' s':=⟨h.m,h.nd,h.mu,h.dj,h.vh,h.vL,h.vm,h.fr,h.v0,h.b0,h.mf,h.pr,h.sz,hk,h.rest⟩
theorem b9.caught{re:Mu->Mu}{base:jk}{s_1 s_2:ay}{vs:Array aE}(O:B.Ok G)(W:qb B)(S:b9 (cx G B) V Y Z s)(P:iZ Z Zc re)(X:Zk G B.A V Zc s s.heap.objs.size a V' base s_1)(st:base.StaysIn s_2.heap)(u:s_1.heap.UpToSlots s_2.heap)(hsz:s_1.heap.objs.size<=s_2.heap.objs.size)(hr:uf s_1 s_2)(he:s_2.heap.get? a=ac oe)(hd:oe.data=.fields vs)(h2:vs[2]?=ac .none):b9 (cx G (Uv B a)) (fR V' a oe) Y Z s_2:=by
 have dj:=av.mp S.dj;have stk:=S.stk O;have inj:∀p∈Z,∀q∈Z,p.1=q.1->p=q:=fun p hp q hq e=>by
  have nd:(Z.map (·.1)).Nodup:=dj.2;clear dj S P stk;induction Z with|nil=>cases hp|cons r t ih=>
   rw[au,av] at nd;rcases ao.mp hp with hp1|hp1<;>rcases ao.mp hq with hq1|hq1
   .exact hp1.trans hq1.symm
   .exact absurd (by rw[<-hp1,e];exact ax hq1) nd.1
   .exact absurd (by rw[<-hq1,<-e];exact ax hp1) nd.1
   .exact ih hp1 hq1 nd.2
 have va:V' a=aq:=by cases q:V' a with|none=>rfl|some o=>have:=X.vb _ _ q;rw[X.no] at this;injection this
 have k:Kp V' (fR V' a oe):=c9 va;have vnone:∀b o,s.heap.get? b=ac o->V b=aq->V' b=aq:=fun b o ho hv=>by
  cases q:V' b with|none=>rfl|some x=>
   rcases X.vn b (by rw[q];simp) with z|z;.exact absurd hv z
   .exact absurd (aR ho) (bu.mpr z)
 have nfr:∀b o,b∈mV B.A->s.heap.get? b=ac o->∀vs,o.data≠.fields vs:=fun b o hb ho=>by refine ar stk ?_;clear stk;intro l hl h;unfold mV at hb;rw[hl] at hb;refine ar (cm.mp hb) fun env he hf=>?_;refine gz (h env he) fun zz f o' hf' zz zz ho' hd'=>?_;rw[hf] at hf';(injection hf' with hf';subst hf');rw[ho] at ho';(injection ho' with ho';subst ho');exact hd'
 have frm:∀b o,b∈mV B.A->s.heap.get? b=ac o->∃sl,s_2.heap.get? b=ac {o with slots:=sl}:=fun b o hb ho=>by refine aY (X.sl b o (bP (aR ho)) hb ho) ?_;(try clear sl);intro sl hs;exact Ez u (nfr b o hb ho) hs ⟨sl,rfl⟩
 have ne_a:∀b o,s.heap.get? b=ac o->b≠a:=fun b o ho q=>absurd (aR ho) (bu.mpr (q▸X.big));have mub:∀p∈Z,ju G.prog G.w V' s_2.heap.get? p.1 p.2:=fun p hp=>by
  have:ju G.prog G.w V' base.get? p.1 p.2:=by
   by_cases q:p.1∈Zc.map (·.1)
   .refine ar (az.mp q) fun r hr e=>?_
    exact inj r (P.sub r hr) p hp e▸X.mu r hr
   .refine aY ((S.mu p hp).at) fun o ho=>?_
    exact(S.mu p hp).mono X.v0 ((X.pr p.1 o q (fun z=>(stk.fro z).2.1 (ax hp)) ho).trans ho.symm)
  refine aY this.at fun o ho=>?_;exact this.mono (.refl _) ((st _ _ ho).trans ho.symm)
 refine ar S.m ?_;(try clear m);intro m z5 hen;refine fw z5 ?_;clear z5;intro oL es ep hL hr';have hL:s.heap.get? B.L=ac oL:=hL;refine aY (frm B.L oL W.mem hL) fun sl hs=>?_;have aL:B.L≠a:=ne_a _ _ hL;refine⟨(bq m (oW _ es ep hs hr') (b9.envMono (X.v0.trans k) hen)),S.nd,fun p hp=>(mub p hp).mono k rfl,S.dj,fun b o e=>?_,?_,fun p hp=>?_,fun b hb=>?_,S.v0.trans (X.v0.trans k),S.b0,S.mf,fun b o n l e=>?_,ae S.sz (ae X.sz hsz),.inr (ez a oe vs rfl (bT _ _ _) hd h2),S.rest.trans (X.rest.trans hr)⟩
 .by_cases q:b=a
  .subst q;rw[bT] at e;(injection e with e;subst e);exact he
  .rw[dB _ _ q] at e;exact st _ _ (X.vb _ _ e)
 .show fR V' a oe B.L=aq
  rw[dB _ _ aL];exact vnone _ _ hL S.vL
 .refine aY ((S.mu p hp).at) fun o ho=>?_
  rw[dB _ _ (ne_a _ _ ho)];exact vnone _ _ ho (S.vm p hp)
 .by_cases q:b=a
  .exact .inr (by rw[q];exact ae S.sz X.big)
  .rw[dB _ _ q] at hb
   rcases X.vn b hb with z|z;.exact S.fr b z
   .exact .inr (ae S.sz z)
 .refine ar (S.pr b o n l e) fun o' e' nr=>?_
  by_cases q:b∈mV B.A
  .refine aY (frm b o' q e') fun sl hs=>?_
   exact bq _ hs (nr.trans ⟨fun z=>absurd q z,sl,rfl⟩)
  .refine bq o' (st _ _ (X.pr b o' (fun z=>?_) q e')) nr
   refine ar (az.mp z) fun r hr e''=>?_;subst e'';rcases S.mf r (P.sub r hr) with z|z;.exact n z
   .exact absurd (aR e) (bu.mpr z)
structure Ee (G:G0) (C:aW) (nm q:aV) (N:aW) (bs bm:List aE) (sub:List aE) (k0 k1 k2 k3 k5:Option aE) (newId:String):Prop where
 obj:G.K.lookup C=ac (hG nm q C N bs bm ai [] sub ak aq aq k0 k1 k2 k3 k5 newId)
 base:bm.contains (.type "BaseException")=ai
theorem JA{sub:List aE}{newId:String}{Y':aP}{Z':Mu}{Q:Fl->aP->Mu->Prop}(O:B.Ok G)(W:qb B)(F:Ee G 59 nm q N bs bm sub k0 k1 k2 k3 k5 newId)(hg:bY G x (.ptr 59))(hx:B.env.kindOf x=ac .globalImplicit)(hdbg:(x==("__debug__" : aV))=ak)(h:∀B_1,B_1.Ok G->B_1.env=B.env->B_1.k=B.k->B_1.hd=B.hd->B_1.m0=Z.map (·.1)->EX G B_1 (CE G B_1 Y' Z') (eD body B_1.env) Y Z Q)(hc:∀B',B'.Ok G->B'.env=B.env->B'.k=B.k->B'.hd=ai->B'.m0=Z'.map (·.1)->EX G B' (fun zz zz=>False) (eD (b_0::suite) B'.env) Y' Z' Q):EX G B E (fb (.Try body [.ExceptHandler (ac (.Name x xp)) aq (b_0::suite) hp] [] [] pos) B.env) Y Z Q:=by
 intro V s S;have O_1:(CC B V Z s).Ok G:=O.re S;have W_1:qb (CC B V Z s):=⟨W.frame,W.fr⟩
 refine Rx (aQ (h (CC B V Z s) O_1 rfl rfl rfl rfl V s S.rebase) (fun f s_1 z6=>iI z6 fun fl Y1 Z1 V_1 S_1 k_1 hf hq=>?_) fun e s_1 hce=>?_)
 .have S_1:=S.unbase S_1
  cases fl with
  |next=>obtain rfl:f=.next:=hf;exact i8 ⟨.next,Y1,Z1,V_1,S_1,k_1,rfl,hq⟩
  |cont=>obtain rfl:f=.cont:=hf;exact⟨.cont,Y1,Z1,V_1,S_1,k_1,rfl,hq⟩
  |brk=>obtain rfl:f=.brk:=hf;exact⟨.brk,Y1,Z1,V_1,S_1,k_1,rfl,hq⟩
  |ret d=>refine ar hf ?_;clear hf;intro v z7 hv;subst z7;exact⟨.ret d,Y1,Z1,V_1,S_1,k_1,(bq v rfl hv),hq⟩
 .refine d1 hce ?_
  clear hce;intro V_1 s_0 Zc re S_1 y11;refine JY y11 ?_;clear y11;intro P a l V' base y12;refine ar y12 ?_;clear y12;intro a0 z8 X;subst z8;refine aY W.fr fun l' hl'=>?_;obtain rfl:l=B.env::l':=aB (X.fr.symm.trans hl');refine eV oA X.q2 (b5 (VQ hl' W.frame (oX X.st X.no X.ff X.tr) fun h_2 H_2 u_2=>fun z1 q1=>?_));refine eV gK q1 (b5 (wpAny_landsW (s:={s_1 with heap:=h_2}) H_2 fun h_3 H_3 u_3=>fun z2 q2=>?_));have hK:∀{h:jk},base.StaysIn h->h.get? 59=ac (hG nm q 59 N bs bm ai [] sub ak aq aq k0 k1 k2 k3 k5 newId):=fun st=>st _ _ (X.vb _ _ (X.v0 _ _ (S_1.v0 _ _ (S_1.b0 _ _ (O.g.kin _ _ F.obj)))));refine aM q2 ?_;clear q2;intro oe vs e1 e2 e3;have S_3:=S_1.caught O_1 W_1 P X.b (s_2:={s_1 with heap:=h_3}) H_3.1 (u_2.trans u_3) (ae z1 z2) (.refl _) e1 e2 e3;refine wpAny_handleBy_cons (codeAny_handlers_test ?_) (by intro q;injection q);refine ar hg ?_;clear hg;intro gv hgv hgi;refine aZ (aT.mp hgi) fun z9 zz=>?_;subst z9;refine Jw (B:=Uv (CC B V Z s) a) (I0 O_1) hgv hx hdbg S_3 ?_;have hcls:oe.cls=.ref 59:=by refine J2 H_3 ?_;clear H_3;intro zz zz zz oe' zz y13;refine bl y13 ?_;clear y13;intro zz zz zz he' hc' zz;have e1:h_3.get? a=ac oe:=e1;rw[e1] at he';(injection he' with he';subst he');exact hc'.1
  refine wpAny_excMatches_sub_self (h:=h_3) (hK H_3.1) e1 hcls F.base ?_;refine codeAny_handlers_suite (eV gK (bO oe vs e1 e2 e3) (b5 (lands_againW (s:={s_1 with heap:=h_3}) H_3 fun h_4 H4 u4=>fun z3 q3=>?_)));refine aM q3 ?_;clear q3;intro oe' vs' f1 f2 f3;have S_4:=S_1.caught O_1 W_1 P X.b (s_2:={s_1 with heap:=h_4}) H4.1 ((u_2.trans u_3).trans u4) (ae z1 (ae z2 z3)) (.refl _) f1 f2 f3;have O4:(CC (Uv (CC B V Z s) a) (fR V' a oe') Z' {s_1 with heap:=h_4}).Ok G:=(I0 O_1).re S_4;have va:V' a=aq:=by cases q:V' a with|none=>rfl|some o=>have:=X.vb _ _ q;rw[X.no] at this;injection this
  have kk:Kp V (fR V' a oe'):=S_1.v0.trans (X.v0.trans (c9 va));refine aQ (hc _ O4 rfl rfl rfl rfl _ _ S_4.rebase) (fun f s_5 z10=>iI z10 fun fl Y5 Z5 V5 S_5 k_5 hf hq=>?_) fun zz zz x=>x.elim;have S_6:b9 (cx G B) V5 Y5 Z5 s_5:=S.unbase ((S_4.unbase S_5).unmark (S.hk.mono (kk.trans k_5)));exact⟨fl,Y5,Z5,V5,S_6,kk.trans k_5,hf,hq⟩
section
variable {h : jk} {g : Array GenState} {d : Drawn} {t : Nat} {os : wV} {R : yE → ay → Prop}
variable {nm q : aV} {C N : aW} {bs bm bmB : List aE} {sub : List aE} {k0 k1 k2 k3 k5 : Option aE} {B newId initId : String}
theorem LP(F:w3 B newId initId bmB)(hB:bm.contains (.type B)=ai)(hA:bm.contains (.type "AttributeError")=ak)(hN:bm.contains (.type "NameError")=ak)(hC:h.get? C=ac (hG nm q C N bs bm ai [] sub ak aq aq k0 k1 k2 k3 k5 newId))(hq:R (.ok (.ret (.ref (h.objs.size+1)))) ⟨(h.push {cls:=.type "tuple",data:=.seq rest.toArray}).push {cls:=.ref C,data:=.fields #[.ref h.objs.size,.none,.none,.none,.bool ak,.none]},g,d,t,os⟩)(hrest:rest.length<=fY):fH (bf prog w) A (.builtin newId ⟨.ref C::rest,[]⟩) R ⟨h,g,d,t,os⟩:=by
 have hends:=F.ends;have hcB:(cs C::bm).contains (.type B)=ai:=by rw[dq,hB,td]
 have hcA:(cs C::bm).contains (.type "AttributeError")=ak:=by rw[dq,hA];rfl
 have hcN:(cs C::bm).contains (.type "NameError")=ak:=by rw[dq,hN];rfl
 refine PySem.codeAny_builtinAt F.entry ?_;unfold gS.«BaseException.__new__»;refine KC ?_;show PySem.wpAt _ _ _ (stack >>= _) _ _ _;refine KC (PySem.wpAt_stack fun p below=>Eg ?_);wp_walk;refine Eg ?_;rw[F.owner];repeat(first|with_reducible refine wpAny_madeHere_exc F.canon hC ?_|with_reducible refine eC hC ?_|(with_reducible refine lH hC ?_;first|rw[hcB]|rw[hcA]|rw[hcN])|wp_step)
 show R _ _;rw[bV];exact hq
noncomputable abbrev f9(C t:aW):ux:={cls:=.ref C,data:=.fields #[.ref t,.none,.none,.none,.bool ak,.none]}
theorem wv(F:w3 B newId initId bmB)(hB:bm.contains (.type B)=ai){Q:Unit->ay->Prop}(hC:h.get? C=ac (hG nm q C N bs bm ai [] sub ak aq aq k0 k1 k2 k3 k5 newId))(he:h.get? e=ac oe)(hcls:oe.cls=.ref C)(hq:Q () ⟨h,g,d,t,os⟩):bd M A (RI initId ⟨.ref e::rest,[]⟩) Q E ⟨h,g,d,t,os⟩:=by
 have hcB:(cs C::bm).contains (.type B)=ai:=by rw[dq,hB,td]
 have hshort:=F.noStar;simp only[RI,F.initKind,F.initSplit,F.initRow];repeat(first|(with_reducible refine eC he ?_;rw[hcls])|with_reducible refine eC hC ?_|(with_reducible refine lH hC ?_;rw[hcB])|wp_step)
 refine Fy ?_;rw[show ∀(a b:String)(n:Nat),Bind.check ⟨.positional,"*",B,.self,[⟨"args",.varPos,ak⟩]⟩ a b n (kR (fun x=>x.fst) ({pos:=cs e::rest}:Args).kw)=pure () from fun a b n=>check_star_args _ _ _ _ _ _];exact aH hq
theorem w5{K:Oo}(F:w3 B newId initId bmB)(hB:bm.contains (.type B)=ai)(hA:bm.contains (.type "AttributeError")=ak)(hN:bm.contains (.type "NameError")=ak)(X:K.In h){Q:Fin->ay->Prop}(hC:h.get? C=ac (hG nm q C N bs bm ai [] sub ak aq aq k0 k1 k2 k3 k5 newId))(hi:kz K (.ref C) "__init__" = ac (ac (.ref fI)))(hf:HR K (.ref fI)=ac (.type "function"))(hq:fH (bf prog w) A (.call (.ref fI) ⟨.ref (h.objs.size+1)::rest,[]⟩) (oY (fun r s'=>r=.none/\Q (.done (.ret (.ref (h.objs.size+1)))) s') E) ⟨(h.push {cls:=.type "tuple",data:=.seq rest.toArray}).push (f9 C h.objs.size),g,d,t,os⟩)(hrest:rest.length<=fY):bd (bf prog w) A (gS.«type.__call__» ⟨.ref C::rest,[]⟩) Q E ⟨h,g,d,t,os⟩:=by
 repeat(first|with_reducible refine eC hC ?_|with_reducible refine wpAny_madeBy_exc hC ?_|wp_step)
 refine codeAny_call_builtin_code (HK _ F.quiet) (PySem.wpAny_check_new_subU F hB .base hC ?_);refine LP F hB hA hN hC ?_ hrest;show bd _ _ _ _ _ _;have kk:∀b o,h.get? b=ac o->((h.push {cls:=.type "tuple",data:=.seq rest.toArray}).push {cls:=.ref C,data:=.fields #[.ref h.objs.size,.none,.none,.none,.bool ak,.none]}).get? b=ac o:=fun b o e=>aX _ (aX _ e);have hC1:=kk _ _ hC;have hget:((h.push {cls:=.type "tuple",data:=.seq rest.toArray}).push {cls:=.ref C,data:=.fields #[.ref h.objs.size,.none,.none,.none,.bool ak,.none]}).get? (h.objs.size+1)=ac {cls:=.ref C,data:=.fields #[.ref h.objs.size,.none,.none,.none,.bool ak,.none]}:=by heap_get
 have hcC:(cs C::bm).contains (.ref C)=ai:=by simp
 unfold Oh;repeat(first|with_reducible refine eC hget ?_|(with_reducible refine lH hC1 ?_;rw[hcC])|wp_step)
 show bd _ _ (Oa (.ref C) _) _ _ _;refine((jS X hi).keeps kk).here ?_;refine bG (ah ?_);refine((bind_fn X (.ref (h.objs.size+1)) hf).keeps kk).here ?_;refine ah (ky (dP hq fun r s' z=>?_));rcases r with e|(v|_|_|_)<;>first|exact z.elim|skip
 .exact z
 .refine aZ z ?_
  clear z;intro z1 z;subst z1;wp_walk;exact z
theorem Aq{K:Oo}(F:w3 B newId initId bmB)(hB:bm.contains (.type B)=ai)(hA:bm.contains (.type "AttributeError")=ak)(hN:bm.contains (.type "NameError")=ak)(X:K.In h){Q:aE->ay->Prop}(hC:h.get? C=ac (hG nm q C N bs bm ai [] sub ak aq aq k0 k1 k2 k3 k5 newId))(hi:kz K (.ref C) "__init__" = ac (ac (.ref fI)))(hf:HR K (.ref fI)=ac (.type "function"))(hq:fH (bf prog w) (A.under (.builtin "type.__call__" ⟨.ref C::rest,[]⟩)) (.call (.ref fI) ⟨.ref (h.objs.size+1)::rest,[]⟩) (oY (fun r s'=>r=.none/\Q (.ref (h.objs.size+1)) s') E) ⟨(h.push {cls:=.type "tuple",data:=.seq rest.toArray}).push (f9 C h.objs.size),g,d,t,os⟩)(hrest:rest.length<=fY):bd (bf prog w) A (call (.ref C) rest) Q E ⟨h,g,d,t,os⟩:=by
 have f1:=tc_lookup;have f2:=tc_bind (.ref C);have hT:(⟨h,g,d,t,os⟩:ay).TypeIs (.ref C) "type":=(bq _ hC rfl)
 refine ky (codeAny_of_tree ?_);show bd _ _ (callAny (.ref C) _) _ _ _;repeat(any_goals (first|assumption|with_reducible refine eC hC ?_|wp_step))
 refine⟨rfl,?_⟩;exact codeAny_call_builtin_at (HK _ (by decide +kernel)) entry_typeCall (wpAny_check_type_call_sub hC (w5 F hB hA hN X hC hi hf hq hrest))
end
abbrev VG(Q:Fl->aP->Mu->Prop):DV->aP->Mu->Prop:=fun zz Y' Z'=>Q .next Y' Z'
theorem E5{Q:Fl->aP->Mu->Prop}(O:B.Ok G)(h:EV G B E (a9 e B.env) Y Z (VG Q))(hs:gN e aq pos.line B.env=pure ak):EX G B E (fb (.Expr e pos) B.env) Y Z Q:=by
 intro V s S;have hi:interactive B.env=ak:=by unfold interactive;rw[show B.env.scope.kind=.function from O.c.fn];rfl
 exact wpAny_Expr_any (WP.use h S (fun v s_1 d Y1 Z1 V_1 S_1 k_1 zz q=>⟨.next,Y1,Z1,V_1,S_1,k_1,rfl,q⟩)) hi hs
theorem zx{K:Oo}{T:String}{Q:aE×List aE->ay->Prop}(X:K.In s.heap)(ht:iL (.type T)=pure (.type "type"))(hs:FH T=ak)(e:findCls K (.type T) (.type "type") name=ac (.val v))(hh:rW v=ai)(h:Q (v,[]) {s with toks:=s.toks+1}):bd (bf G.prog G.w) A (jx (.type T) name pl) Q E s:=by
 have hstub:yz (.type T)=pure aq:=by unfold yz;dsimp only;rw[hs];rfl
 have L0:lI (bf G.prog G.w) s.heap (iL (.type T)) (.type "type"):=hX ht;have hg:kz K (.type "type") "__getattribute__" = ac (ac (.builtin "type.__getattribute__")):=type_tga;unfold jx specialOf;refine ah (ah (L0.here ((jS X hg).here ?_)));dsimp only;rw[if_pos canon_tga];refine ah (aQ (Q:=fun v=>Q (v,[])) (E:=E) ?_ (fun zz zz z=>aH z) fun zz zz z=>z);have LO:lI (bf G.prog G.w) s.heap (yz (.type T)) aq:=hX hstub;refine cls_open X LO L0 hg (looks_hook X (r:=aq) (by rfl)) (by show Rd K _ _=_;rfl) e (aH (by show bd _ _ (handedOut v) _ _ _;rw[handedOut_of hh];exact aH h))
theorem Dh{T f:String}(O:B.Ok G)(ht:iL (.type T)=pure (.type "type"))(hs:FH T=ak)(e:findCls G.K (.type T) (.type "type") name=ac (.val (.builtin f)))(hh:rW (.builtin f)=ai)(h:EL G B E (dA (cy pos (br args B.env))) Y Z fun es Y' Z'=>cI G B E (.builtin f) ([]++es) Y' Z' Q):ny G B E name pl pos args Q (.raw (.type T)) Y Z:=(bO (.builtin f) [] (fun V s v A P E S hi q=>by refine aZ (aT.mp hi) fun z3 zz=>?_;subst z3;exact zx (S.kin O) ht hs e hh (q [] _ (be.mpr rfl) (S.sat_toks _))) kc h)
structure AA (G:G0) (nm q:aV) (N:aW) (bs bm:List aE) (sub:List aE) (k0 k1 k2 k3 k5:Option aE):Prop where
 cls:Ee G 59 nm q N bs bm sub k0 k1 k2 k3 k5 "Exception.__new__"
 exc:bm.contains (.type "Exception")=ai
 att:bm.contains (.type "AttributeError")=ak
 nam:bm.contains (.type "NameError")=ak
 init:kz G.K (.ref 59) "__init__" = ac (ac (.ref 36))
 fn:HR G.K (.ref 36)=ac (.type "function")
theorem Ap{sub:List aE}(O:B.Ok G)(F:AA G nm qn N bs bm sub k0 k1 k2 k3 k5)(q:∀t',Q .none Y ((e,.obj (f9 59 t'))::Z)):cI G B E (.builtin "Exception.__init__") [.ptr e,d] Y ((e,.obj (f9 59 t))::Z) Q:=by
 intro V s vs S hi;refine aM (aG.mp hi) ?_;clear hi;intro v1 r1 z4 i1 hi;subst z4;refine aM (aG.mp hi) ?_;clear hi;intro v2 r2 z5 i2 hi;subst z5;obtain rfl:=be.mp hi;refine aZ (aT.mp i1) fun z6 zz=>?_;subst z6;have FB:=wH;have hC:s.heap.get? 59=ac (hG nm qn 59 N bs bm ai [] sub ak aq aq k0 k1 k2 k3 k5 "Exception.__new__"):=S.kin O _ _ F.cls.obj;have he:s.heap.get? e=ac {cls:=.ref 59,data:=.fields #[.ref t,.none,.none,.none,.bool ak,.none]}:=S.mu (e,.obj (f9 59 t)) (.head _);have hcB:(cs 59::bm).contains (.type "Exception")=ai:=by rw[dq,F.exc,td]
 have hshort:=FB.noStar;have fin:∀h',h'=(s.heap.push {cls:=.type "tuple",data:=.seq [v2].toArray}).update e (AP (·.setIfInBounds 0 (.ref s.heap.objs.size)))->qK G B (Is G.prog G.w) V Q .none {s with heap:=h'}:=by rintro h' rfl;have S1:=S.alloc O.c {cls:=.type "tuple",data:=.seq [v2].toArray} rfl;have k1:Kp V (fR V s.heap.objs.size {cls:=.type "tuple",data:=.seq [v2].toArray}):=c9 S.fresh;refine⟨.none,Y,_,_,S1.turn (Z1:=[]) (mo':=.obj (f9 59 s.heap.objs.size)) (cV ..) ?_,k1,aT.mpr ⟨rfl,rfl⟩,q _⟩;exact cp _ (aX _ he) rfl
 obtain⟨hp,gs,dr,tk,os⟩:=s;refine ky (K0 FB.init.plain FB.initEntry (wv FB F.exc hC he rfl ?_));wp_walk;exact fin _ rfl
theorem b9.swap(S:b9 C V Y (p::p'::Z) s):b9 C V Y (p'::p::Z) s:=by
 have m:∀x,x∈p'::p::Z->x∈p::p'::Z:=fun x h=>by
  rcases ao.mp h with h|h;.exact .tail _ (h▸.head _)
  .rcases ao.mp h with h|h
   .exact h▸.head _
   .exact .tail _ (.tail _ h)
 refine⟨S.m,S.nd,fun x h=>S.mu x (m x h),?_,S.vh,S.vL,fun x h=>S.vm x (m x h),S.fr,S.v0,S.b0,fun x h=>S.mf x (m x h),S.pr,S.sz,S.hk,S.rest⟩;have d:=S.dj;simp only[au,av,ao,not_or] at d ⊢;exact oX (jR d.1.2.1 d.1.1 d.1.2.2) ⟨fun e=>d.2.1.1 e.symm,d.2.2.1⟩ d.2.1.2 d.2.2.2
noncomputable abbrev wa(C t dx:aW):ux:={cls:=.ref C,dict:=ac dx,data:=.fields #[.ref t,.none,.none,.none,.bool ak,.none]}
theorem zb{Q:Unit->ay->Prop}(O:B.Ok G)(S:b9 (cx G B) V Y ((e,.obj (f9 59 t))::Z) s)(hi:Is G.prog G.w V d v)(F:gi G 59 name)(q:∀dx s',b9 (cx G B) V Y ((e,.obj (wa 59 t dx))::(dx,.flds [(name,d)])::Z) s'->Q () s'):bd (bf G.prog G.w) B.A (setAttr (.ref e) name v) Q E s:=by
 have X:=S.kin O;have hx:s.heap.get? e=ac (f9 59 t):=S.mu _ (.head _);have I:W.InstAt s.heap e (f9 59 t) 59 aq:=⟨hx,rfl,rfl,trivial⟩
 refine set_plain X I F.set (F.opens (s:={s with toks:=s.toks+1}) X I fun b=>?_);refine ar (W4 F.hd) fun cd hc hd'=>?_;refine ah (aH (ah (ah (CJ hx (ah (KZ X hc _ _ _ _ (fun zz zz e=>e) ?_))))));rw[hd'];show bd _ _ (alloc {cls:=cU "dict",data:=Data.dict #[]} >>= fun d=>update e (fun o=>{cls:=o.cls,dict:=ac d,data:=o.data,slots:=o.slots}) >>= fun zz=>pure (ac d)) _ _ _;have hx1:(s.heap.push yB).get? e=ac (f9 59 t):=aX _ hx;have ne:e≠s.heap.objs.size:=bP (aR hx);refine ah (wpAny_alloc (ah (wpAny_update hx1 (aH ?_))));show bd _ _ (KJ s.heap.objs.size _ _ _) _ _ _;have S1:b9 (cx G B) V Y ((s.heap.objs.size,.flds [])::(e,.obj (f9 59 t))::Z) {s with heap:=s.heap.push yB}:=S.allocMu O.c yB (.flds []) rfl (jN [] 0 (aN _ rfl) rfl);have S2:b9 (cx G B) V Y ((s.heap.objs.size,.flds [])::(e,.obj (wa 59 t s.heap.objs.size))::Z) {s with heap:=(s.heap.push yB).update e (fun o=>{cls:=o.cls,dict:=ac s.heap.objs.size,data:=o.data,slots:=o.slots}),toks:=s.toks+1}:=S1.turn (Z1:=[(s.heap.objs.size,.flds [])]) (mo':=.obj (wa 59 t s.heap.objs.size)) (cV ..) (cp _ hx1 rfl);exact ah (aH (ah (uL (Z1:=[]) (l:=[]) (S2.sat_toks _) hi rfl (a7 _) fun s' S'=>q _ _ S'.swap)))
def Vu(G:G0)(name:aV)(d:DV)(Q:Fl->aP->Mu->Prop):DV->aP->Mu->Prop:=fun d' Y2 Z2=>∃e t Zr,d'=.ptr e/\Z2=(e,.obj (f9 59 t))::Zr/\gi G 59 name/\∀dx,Q .next Y2 ((e,.obj (wa 59 t dx))::(dx,.flds [(name,d)])::Zr)
def Vt(G:G0)(name:aV)(d:DV)(Q:Fl->aP->Mu->Prop):DV->aP->Mu->Prop:=fun d' Y2 Z2=>∃e t dx l Zr,d'=.ptr e/\Z2=(e,.obj (wa 59 t dx))::(dx,.flds l)::Zr/\gi G 59 name/\(l.map (·.1)).contains name=ak/\l.length<=900/\Q .next Y2 ((e,.obj (wa 59 t dx))::(dx,.flds (l++[(name,d)]))::Zr)
theorem JC{o e:bZ}{Q:Fl->aP->Mu->Prop}(O:B.Ok G)(h:EV G B E (a9 e B.env) Y Z fun d Y1 Z1=>EV G B E (a9 o B.env) Y1 Z1 (Vu G name d Q))(hs:gN e (ac (.Attribute o name apos)) pos.line B.env=pure ak):EX G B E (fb (.Assign [.Attribute o name apos] e pos) B.env) Y Z Q:=by intro V s S;refine j5 (WP.use h S (fun v s_1 d Y1 Z1 V_1 S_1 k_1 i_1 h₁=>?_)) hs;refine WP.use h₁ S_1 (fun ov s_2 d' Y2 Z2 V_2 S_2 k_2 i_2 z9=>eB z9 fun x t Zr ed em F q=>?_);subst ed em;refine aZ (aT.mp i_2) fun z10 zz=>?_;subst z10;exact zb O S_2 (i_1.mono k_2) F fun dx s' S'=>⟨.next,Y2,_,V_2,S',k_1.trans k_2,rfl,q dx⟩
theorem JB{o e:bZ}{Q:Fl->aP->Mu->Prop}(O:B.Ok G)(h:EV G B E (a9 e B.env) Y Z fun d Y1 Z1=>EV G B E (a9 o B.env) Y1 Z1 (Vt G name d Q))(hs:gN e (ac (.Attribute o name apos)) pos.line B.env=pure ak):EX G B E (fb (.Assign [.Attribute o name apos] e pos) B.env) Y Z Q:=by intro V s S;refine j5 (WP.use h S (fun v s_1 d Y1 Z1 V_1 S_1 k_1 i_1 h₁=>?_)) hs;refine WP.use h₁ S_1 (fun ov s_2 d' Y2 Z2 V_2 S_2 k_2 i_2 z13=>ei z13 fun x t dx l Zr y47=>iX y47 fun ed em F hno hl q=>?_);subst ed em;refine aZ (aT.mp i_2) fun z14 zz=>?_;subst z14;exact uY O S_2 rfl rfl rfl (i_1.mono k_2) F hno hl fun s' S'=>⟨.next,Y2,_,V_2,S',k_1.trans k_2,rfl,q⟩
theorem D2{sub:List aE}(O:B.Ok G)(F:AA G nm qn N bs bm sub k0 k1 k2 k3 k5)(H:∀e t,gf G ak k (.ref 36) [.ptr e,.str m] [(e,.obj (f9 59 t))] (fun d Z'=>d=.none/\∃t dx,Z'=[(e,.obj (wa 59 t dx))]) (fun zz zz zz zz zz=>False))(hh:B.hd=ak)(hk:k+1<=B.k)(q:∀e t dx,Q (.ptr e) Y ((e,.obj (wa 59 t dx))::Z)):cI G B E (.ref 59) [.str m] Y Z Q:=by intro V s vs S hi;refine aM (aG.mp hi) ?_;clear hi;intro v1 r1 z15 i1 hi;subst z15;obtain rfl:=be.mp hi;have hC:s.heap.get? 59=ac (hG nm qn 59 N bs bm ai [] sub ak aq aq k0 k1 k2 k3 k5 "Exception.__new__"):=S.kin O _ _ F.cls.obj;have X:=S.kin O;have S1:=S.alloc O.c {cls:=.type "tuple",data:=.seq [v1].toArray} rfl;have kk1:Kp V (fR V s.heap.objs.size {cls:=.type "tuple",data:=.seq [v1].toArray}):=c9 S.fresh;have S2:=S1.allocMu O.c (f9 59 s.heap.objs.size) (.obj (f9 59 s.heap.objs.size)) rfl (aN _ rfl);have esz:(s.heap.push {cls:=.type "tuple",data:=.seq [v1].toArray}).objs.size=s.heap.objs.size+1:=bV ..;dsimp only at S2;rw[esz] at S2;have P:iZ ((s.heap.objs.size+1,MO.obj (f9 59 s.heap.objs.size))::Z) [(s.heap.objs.size+1,.obj (f9 59 s.heap.objs.size))] _:=.take .nil;have hz:=H (s.heap.objs.size+1) s.heap.objs.size (B.A.under (.builtin "type.__call__" ⟨.ref 59::[v1],[]⟩)) _ _ [.ref (s.heap.objs.size+1),v1] (qE.made (O.room.le hk)) (fun zz=>O.calm hh) S2.hk ((S2.stk O).less fun a z=>P.sublist.subset z) (S2.pre P) (aG.mpr (bO _ _ rfl (aT.mpr ⟨rfl,rfl⟩) (aG.mpr (bO _ _ rfl (i1.mono kk1) (be.mpr rfl)))));obtain⟨h,gs,dr,tk,os⟩:=s;refine Aq wH F.exc F.att F.nam X hC F.init F.fn (dP hz (oY.mono (fun r s' z16=>bl z16 fun d Z' V' T i y48=>Ak y48 fun ed t dx e=>?_) fun zz zz x=>x.elim)) (by show 1<=2 ^ 24;decide);subst e ed;refine aZ (aT.mp i) fun z17 zz=>?_;subst z17;have S3:=S2.post O P (show Az G B.A _ _ _ _ _ _ from⟨T.v0,T.vh,T.fr,T.mu,T.as,T.vm,T.pr,T.sz,T.rest⟩);exact⟨rfl,.ptr (h.objs.size+1),Y,_,V',S3,kk1.trans T.v0,aT.mpr ⟨rfl,rfl⟩,q _ t dx⟩
theorem xe{C N:aW}{nm qn:aV}{bs bm sub:List aE}{k0 k1 k2 k3 k5:Option aE}{newId:String}{x:HG aE}{Q:Flow->ay->Prop}(hbase:bm.contains (.type "BaseException")=ai)(hh:A.handled=aq)(h:bd M A x (fun v s_1=>∃e t dx,v=.ref e/\s_1.heap.get? C=ac (hG nm qn C N bs bm ai [] sub ak aq aq k0 k1 k2 k3 k5 newId)/\s_1.heap.get? e=ac {cls:=.ref C,dict:=ac dx,data:=.fields #[.ref t,.none,.none,.none,.bool ak,.none]}/\E (.ref e) s_1) E s):bd M A (raiseStmt env (ac x) aq) Q E s:=by
 have hcB:(cs C::bm).contains (.type "BaseException")=ai:=by rw[dq,hbase,td]
 unfold raiseStmt;refine ah (aQ h (fun v s_1 h₁=>?_) fun zz zz x=>x);refine eB h₁ ?_;clear h₁;intro e t dx z18 hC he hE;subst z18;obtain⟨hp,g,d,tk,os⟩:=s_1;repeat(first|with_reducible refine eC he ?_|with_reducible refine eC hC ?_|(with_reducible refine lH hC ?_;rw[hcB])|wp_step)
 exact wpAny_raiseNew_none hh hE
theorem JD{sub:List aE}{x:bZ}{Q:Fl->aP->Mu->Prop}(O:B.Ok G)(F:AA G nm qn N bs bm sub k0 k1 k2 k3 k5)(hh:B.hd=ak)(hok:¬ok)(h:EV G B (fun zz zz=>False) (a9 x B.env) Y Z fun d Y' Z'=>∃e t dx Z'',d=.ptr e/\Z'=(e,.obj (wa 59 t dx))::Z''/\∀p∈Z0,p∈Z''):EX G B (fun e s'=>¬ok/\EF G B Z0 e s') (fb (.Raise (ac x) aq pos) B.env) Y Z Q:=by intro V s S;rw[arm_exec_Raise];refine ah (cG (xe (C:=59) (nm:=nm) (qn:=qn) (N:=N) (bs:=bs) (bm:=bm) (sub:=sub) (k0:=k0) (k1:=k1) (k2:=k2) (k3:=k3) (k5:=k5) (newId:="Exception.__new__") F.cls.base (O.calm hh) ?_));refine ah (aQ (h V s S) (fun v s_1 z19=>iI z19 fun d Y1 Z1 V_1 S_1 k_1 i_1 z20=>fD z20 fun e t dx Z'' ed em hsub=>ah (cG (aH ?_))) fun zz zz x=>x.elim);subst ed em;refine aZ (aT.mp i_1) fun z21 zz=>?_;subst z21;have he:s_1.heap.get? e=ac (wa 59 t dx):=S_1.mu _ (.head _);refine cZ e t dx rfl (S_1.kin O _ _ F.cls.obj) he hok ?_;exact .made (S_1.turn (Z1:=[]) (mo':=.pr wF) (.refl _ _) ⟨_,he,rfl,_,_,rfl,rfl,rfl,rfl⟩) hsub
theorem xS{cd:ClassData}(hc:Ri G.K C=ac cd)(hp:∀self,Od self "__setattr__" cd.mro=pure ())(hm:cd.mro.contains (.type "object")=ai)(ht:takerIn G.K C name=ac aq):N5 G C name:=by
 intro A s x ox od tk v R X I h;have SF:=PySem.F.store_object;have ne:cd.mro.isEmpty=ak:=by cases q:cd.mro with|nil=>rw[q] at hm;injection hm|cons _ _=>rfl
 have sub:lI (bf G.prog G.w) s.heap (Oh (.ref x) (.type "object")) ai:=I.type.andThen (looks_mroIn X (by unfold mroIn;rw[hc,sW,if_neg (by rw[ne];decide),hm]));refine K0 SF.slot.plain SF.entry (@check_slot (bf G.prog G.w) _ _ s "object.__setattr__" "object" "__setattr__" (.ref x) [.str name tk,v] [] _ SF.kind SF.split sub (SF.args (.ref x) (.str name tk) v) ?_);refine ar (cC.mp ht) fun attr ha hr=>?_;have hm':lI (bf G.prog G.w) s.heap (mroOf (.ref C)) cd.mro:=(KZ X hc).andThen .now;have L3:lI (bf G.prog G.w) s.heap (KH attr) aq:=by cases attr with|none=>exact .now|some a=>refine ar (aD.mp hr) fun b hb e=>?_;refine(looks_takesIn X hb).andThen ?_;cases b<;>first|exact .now|injection e
 rw[osa_eq,refuse_eq];refine ah (ah (I.type.here (ah (hm'.here ?_))));rw[hp];refine aH (ah (I.type.here (ah ((jS X ha).here (ah (L3.here ?_))))));exact h _
theorem kJ:∀{vs vs':List aE},gO G.prog G.w V ds vs->gO G.prog G.w V ds' vs'->gO G.prog G.w V (ds++ds') (vs++vs'):=by
 induction ds with
 |nil=>intro vs vs' h h';obtain rfl:=be.mp h;exact h'
 |cons d r ih=>intro vs vs' h h';refine aM (aG.mp h) fun v rs z1 a b=>?_;subst z1;exact aG.mpr (bO v _ rfl a (ih b h'))
theorem QT(g:G.Ok){ps:List aV}{ds dds:List DV}{dvs:List aE}{rest:List aV}(hlen:ds.length+dds.length=ps.length)(hb:∀s vs,vs.length=ds.length->G.K.In s.heap->w4 s fd ⟨vs,[]⟩ (ps.zip (vs++dvs)))(hd:∀V,gO G.prog G.w V dds dvs)(nd:ps.Nodup)(hl:((ps++rest).all fun x=>fd.scope.names.lookup x==ac .local)=ai):∀V s vs,Kp G.hb.get? V->Kp V s.heap.get?->gO G.prog G.w V ds vs->∃binds,w4 s fd ⟨vs,[]⟩ binds/\(∀x∈binds,fd.scope.names.lookup x.1=ac .local)/\∀p∈(ps.zip (ds++dds)++rest.map fun x=>(x,DV.any)),fd.scope.names.lookup p.1=ac .local/\(p.2≠.any->∃v,binds.reverse.lookup p.1=ac v/\Is G.prog G.w V p.2 v):=by
 intro V s vs k1 k2 hi0;have hv0:vs.length=ds.length:=bb hi0;have X:G.K.In s.heap:=g.kin.keeps fun b o e=>k2 _ _ (k1 _ _ e);have hi:gO G.prog G.w V (ds++dds) (vs++dvs):=kJ hi0 (hd V);have hv:(vs++dvs).length=ps.length:=by rw[bb hi,aS];exact hlen
 have L:∀x∈ps++rest,fd.scope.names.lookup x=ac .local:=fun x hx=>by simpa using aU.mp hl x hx
 have nz:((ps.zip (vs++dvs)).map (·.1)).Nodup:=by rw[show(ps.zip (vs++dvs)).map (·.1)=ps from jO (bv hv.symm)];exact nd
 have nr:((ps.zip (vs++dvs)).reverse.map (·.1)).Nodup:=by rw[m5];unfold rO;rw[CQ];exact nz.imp fun h=>oZ h
 refine cB (ps.zip (vs++dvs)) (hb s vs hv0 X) (fun x hx=>L _ (bF _ (gb hx).1)) (fun p hp=>?_);rcases aJ.mp hp with h|h
 .refine ar (rc hi p h) fun v hv iv=>?_
  exact⟨L _ (bF _ (gb h).1),fun zz=>(bq v (pX nr (KE.mpr hv)) iv)⟩
 .refine ar (az.mp h) fun x hx z2=>?_
  subst z2;exact⟨L x (aK _ hx),fun h=>absurd rfl h⟩
inductive fE (a:aW) (mo mo':MO):Mu->Mu->Prop
 |head {r:Mu}:fE a mo mo' ((a,mo)::r) ((a,mo')::r)
 |tail {p:aW×MO} {r r':Mu}:fE a mo mo' r r'->fE a mo mo' (p::r) (p::r')
theorem fE.split(h:fE a mo mo' Z Z'):∃Z1 Z2,Z=Z1++(a,mo)::Z2/\Z'=Z1++(a,mo')::Z2:=by induction h with|@head r=>exact jN [] r rfl rfl|@tail p r r' _ ih=>refine cX ih ?_;clear ih;intro m1 m2 e e';exact jN (p::m1) m2 (by rw[e];rfl) (by rw[e'];rfl)
theorem fE.mem(h:fE a mo mo' Z Z'):(a,mo)∈Z:=by refine cX h.split fun m1 m2 z3 zz=>?_;subst z3;exact aK _ (.head _)
theorem b9.repl(S:b9 C V Y Z s)(R:fE a mo mo' Z Z'){t:Nat}(hs:nJ a s.heap h')(hm:ju C.prog C.w V h'.get? a mo'):b9 C V Y Z' {s with heap:=h',toks:=t}:=by refine cX R.split fun m1 m2 z4 z5=>?_;subst z4;subst z5;exact S.turn hs hm
section
variable {K : Type} [DecidableEq K] [DK K] {l : List (K × DV)}
theorem Ba{Q:Unit->ay->Prop}(S:b9 (cx G B) V Y Z s)(R:fE a (DK.mo l) (DK.mo (jp l k d)) Z Z')(hl:l.length<=1000000)(ik:Is G.prog G.w V (DK.key k) kv)(iv:Is G.prog G.w V d v)(q:∀s',b9 (cx G B) V Y Z' s'->Q () s'):bd (bf G.prog G.w) B.A (setItem (.ref a) kv v) Q E s:=by refine bB (DK.moOpen (S.mu _ R.mem)) fun o kvs ho lo hd hk=>?_;have hD:s.heap.DictOf (DK.knd G.prog G.w (K:=K)) a kvs:=bc.mpr (bq o ho hd);refine wpAny_setItem_pairs (DK.is ik) hD (fun h' hD' hs=>q _ ?_) (by rw[hk.length];exact ae hl (by decide));refine ar (bc.mp hD') fun o' ho' hd'=>?_;exact S.repl R hs (DK.moShut ho' lo hd' (hk.put iv))
end
def HB(Q:Fl->aP->Mu->Prop)(d x:DV):DV->aP->Mu->Prop:=fun y Y' Z'=>(∃a k l Z'',x=.ptr a/\y=.str k/\fE a (.sdic l) (.sdic (jp l k d)) Z' Z''/\l.length<=1000000/\Q .next Y' Z'')\/(∃a k l Z'',x=.ptr a/\y=.int k/\fE a (.idic l) (.idic (jp l k d)) Z' Z''/\l.length<=1000000/\Q .next Y' Z'')
abbrev Vr(G:G0)(B:Bx)(E:aE->ay->Prop)(i:bZ)(Q:Fl->aP->Mu->Prop)(d:DV):DV->aP->Mu->Prop:=fun x Y2 Z2=>EV G B E (a9 i B.env) Y2 Z2 (HB Q d x)
abbrev Vs(G:G0)(B:Bx)(E:aE->ay->Prop)(o i:bZ)(Q:Fl->aP->Mu->Prop):DV->aP->Mu->Prop:=fun d Y1 Z1=>EV G B E (a9 o B.env) Y1 Z1 (Vr G B E i Q d)
theorem xq{o i e:bZ}{Q:Fl->aP->Mu->Prop}(h:EV G B E (a9 e B.env) Y Z (Vs G B E o i Q))(hs:gN e (ac (.Subscript o i pos')) pos.line B.env=pure ak):EX G B E (fb (.Assign [.Subscript o i pos'] e pos) B.env) Y Z Q:=by
 intro V s S;refine wpAny_Assign_Subscript (WP.use h S (fun v s_1 d Y1 Z1 V_1 S_1 k_1 i_1 h₁=>?_)) hs;refine WP.use h₁ S_1 (fun ov s_2 x Y2 Z2 V_2 S_2 k_2 i_2 h_2=>?_);refine WP.use h_2 S_2 (fun iv s_3 y Y3 Z3 V_3 S_3 k_3 i_3 h_3=>?_);rcases h_3 with⟨a,k,l,Z'',rfl,rfl,R,hl,q⟩|⟨a,k,l,Z'',rfl,rfl,R,hl,q⟩
 .refine aZ (aT.mp i_2) fun z9 zz=>?_
  subst z9;exact Ba (K:=aV) S_3 R hl i_3 (i_1.mono (k_2.trans k_3)) fun s' S'=>⟨.next,Y3,Z'',V_3,S',k_1.trans (k_2.trans k_3),rfl,q⟩
 .refine aZ (aT.mp i_2) fun z10 zz=>?_
  subst z10;exact Ba (K:=Int) S_3 R hl i_3 (i_1.mono (k_2.trans k_3)) fun s' S'=>⟨.next,Y3,Z'',V_3,S',k_1.trans (k_2.trans k_3),rfl,q⟩
theorem Ix{Q:Fl->aP->Mu->Prop}(R:fE a (.sdic l) (.sdic (jp l k d)) Z Z')(hl:l.length<=1000000)(q:Q .next Y Z'):HB Q d (.ptr a) (.str k) Y Z:=.inl (jv a k l Z' rfl rfl R hl q)
theorem Iy{Q:Fl->aP->Mu->Prop}{k:Int}(R:fE a (.idic l) (.idic (jp l k d)) Z Z')(hl:l.length<=1000000)(q:Q .next Y Z'):HB Q d (.ptr a) (.int k) Y Z:=.inr (jv a k l Z' rfl rfl R hl q)
theorem LS.openX(h:LS Z d l)(S:b9 (cx G B) V Y Z s)(hi:Is G.prog G.w V d v):∃a vs n,v=.ref a/\s.heap.get? a=ac {cls:=.type "list",dict:=aq,data:=.seq vs n,slots:=#[]}/\Mine.gO G.prog G.w V l vs.toList:=by refine bE (h.open S hi) fun a z11 vs n z12 ho hc z13 hd hl=>?_;obtain⟨oc,od,oda,osl⟩:=z11;subst z12;refine aZ z13 ?_;clear z13;intro hn hs;dsimp only at hc hn hs hd;subst hc hn hs hd;exact i0 a vs n rfl ho hl
theorem km(S:b9 (cx G B) V Y Z s)(hi:Is G.prog G.w V (.tup l) v):∃a vs n,v=.ref a/\V a=ac {cls:=.type "tuple",dict:=aq,data:=.seq vs n,slots:=#[]}/\s.heap.get? a=ac {cls:=.type "tuple",dict:=aq,data:=.seq vs n,slots:=#[]}/\Mine.gO G.prog G.w V l vs.toList:=by refine bE hi ?_;clear hi;intro a z14 vs n z15 ho hc z16 hd hl;obtain⟨oc,od,oda,osl⟩:=z14;subst z15;refine aZ z16 ?_;clear z16;intro hn hs;dsimp only at hc hn hs hd;subst hc hn hs hd;exact ez a vs n rfl ho (S.vh _ _ ho) hl
theorem tD{Q:DV->aP->Mu->Prop}(R:fE a (.lst l) (.lst (l++[d])) Z Z')(hl:l.length<=1000000)(q:Q .none Y Z'):cI G B E (.builtin "list.append") ([.ptr a]++[d]) Y Z Q:=by
 intro V s vs S hi;refine aM (aG.mp hi) ?_;clear hi;intro v1 r1 z17 i1 hi;subst z17;refine aM (aG.mp hi) ?_;clear hi;intro v2 r2 z18 i2 hi;subst z18;obtain rfl:=be.mp hi;refine bl (LS.openX (.inr (bq _ rfl R.mem)) S i1) fun a vs n z19 ho hL=>?_;subst z19;refine aZ (aT.mp i1) fun e zz=>?_;(injection e with e;subst e);have hsz:vs.size<=fY:=by rw[<-aF,bb hL];exact ae hl (by decide)
 refine aY (wX (o:={cls:=.type "list",dict:=aq,data:=.seq vs n,slots:=#[]}) rfl (·.push v2)) fun n' hd'=>?_;refine kx PySem.F.slot_list_append (bq _ ho rfl) PySem.F.entry_list_append ?_ (PySem.F.args_list_append_2 _ _);show bd _ _ (Rz a (·.push v2) >>= fun zz=>ret .none) _ _ s;refine ah (AO ho rfl (aH ⟨.none,rfl,.none,Y,Z',V,S.repl (t:=s.toks) R (cV ..) ?_,.refl _,aT.mpr ⟨rfl,rfl⟩,q⟩) (hz:=hsz));refine cZ _ (vs.push v2) n' (cp _ ho (rZ hd')) (yI ..) ⟨?_,?_⟩ hd' ?_;.rfl
 .rfl
 .rw[Array.toList_push];exact kJ hL (aG.mpr (bO _ _ rfl i2 (be.mpr rfl)))
theorem GV:∀{vs:List aE},Mine.gO G.prog G.w V (ds++ds') vs->∃v1 v2,vs=v1++v2/\Mine.gO G.prog G.w V ds v1/\Mine.gO G.prog G.w V ds' v2:=by
 induction ds with
 |nil=>intro vs h;exact bO [] vs rfl (be.mpr rfl) h
 |cons d r ih=>intro vs h;refine aM (aG.mp h) fun v rs z1 a b=>?_;subst z1;refine aM (ih b) fun v1 v2 z2 b1 b2=>?_;subst z2;exact bO (v::v1) v2 rfl (aG.mpr (bO _ _ rfl a b1)) b2
theorem Kd(R:fE a (.lst (l++[d])) (.lst l) Z Z')(hl:l.length<=1000000)(q:Q d Y Z'):cI G B E (.builtin "list.pop") ([.ptr a]++[]) Y Z Q:=by
 intro V s vs S hi;refine aM (aG.mp hi) ?_;clear hi;intro v1 r1 z3 i1 hi;subst z3;obtain rfl:=be.mp hi;refine bl (LS.openX (.inr (bq _ rfl R.mem)) S i1) fun a vs n z4 ho hL=>?_;subst z4;refine aZ (aT.mp i1) fun e zz=>?_;(injection e with e;subst e);refine aM (GV hL) fun v1 v2 e b1 b2=>?_;refine aM (aG.mp b2) ?_;clear b2;intro u r z5 iu b2;subst z5;obtain rfl:=be.mp b2;have hvs:vs.size=l.length+1:=by rw[<-aF,bb hL];simp
 have hv1:v1.length=l.length:=bb b1;have hsz:vs.size<=fY:=by rw[hvs];exact ae (b6 hl) (by decide)
 have hy:vs[vs.size-1]?=ac u:=by rw[<-dg,e,hvs,H5,<-hv1];simp
 refine aY (wX (o:={cls:=.type "list",dict:=aq,data:=.seq vs n,slots:=#[]}) rfl (fun xs=>xs.eraseIdxIfInBounds (vs.size-1))) fun n' hd'=>?_;refine qf PySem.F.slot_list_pop (bq _ ho rfl) PySem.F.entry_list_pop (PySem.F.args_list_pop_1 _) (Rl a vs n u hy hsz) ⟨ho,d,Y,Z',V,S.repl (t:=s.toks) R (cV ..) ?_,.refl _,iu,q⟩;refine cZ _ (vs.eraseIdxIfInBounds (vs.size-1)) n' (cp _ ho (rZ hd')) (yI ..) ⟨rfl,rfl⟩ hd' ?_;have e2:(vs.eraseIdxIfInBounds (vs.size-1)).toList=v1:=by rw[Array.toList_eraseIdxIfInBounds,e,hvs,H5,<-hv1,List.eraseIdx_append_of_length_le (aI _),Nat.sub_self];exact bR v1
 rw[e2];exact b1
theorem xV(O:B.Ok G)(S:b9 (cx G B) V Y Z s):(s.heap.objs.size==fP)=ak:=by have:=modules_low (S.lim O);rw[beq_eq_false_iff_ne];exact gT this
theorem lF{K:Type}[DecidableEq K][DK K]{l:List (K×DV)}(O:B.Ok G)(D:DS Z d l)(hl:l.length<=1000000)(q:∀a,Q (.ptr a) Y ((a,DK.mo l)::Z)):cI G B E (.type "dict") [d] Y Z Q:=by intro V s vs S hi;refine aM (aG.mp hi) ?_;clear hi;intro v1 r1 z6 i1 hi;subst z6;obtain rfl:=be.mp hi;refine bU (D.open S i1) fun a o kvs z7 ho lo hd hk=>?_;subst z7;have hD:s.heap.DictOf (DK.knd G.prog G.w (K:=K)) a kvs:=bc.mpr (bq o ho hd);refine kt_call_dict lo hD (by rw[hk.length];exact ae hl (by decide)) fun h' hD' hs=>?_;refine ar (bc.mp hD') fun o' ho' hd'=>?_;have S1:=S.allocMu O.c {cls:=.type "dict",data:=.dict #[]} (.pr fun zz=>True) rfl (bq _ (aN _ rfl) trivial);have S2:=S1.turn (t:=s.toks) (Z1:=[]) (mo':=DK.mo l) hs (DK.moShut ho' (xV O S) hd' hk);exact⟨.ptr s.heap.objs.size,Y,_,V,S2,.refl _,aT.mpr ⟨rfl,rfl⟩,q _⟩
theorem oK{K:Type}[DecidableEq K][DK K]{Q:DV->aP->Mu->Prop}(O:B.Ok G)(q:∀a,Q (.ptr a) Y ((a,DK.mo ([]:List (K×DV)))::Z)):EV G B E (a9 (.Dict [] [] pos) B.env) Y Z Q:=by intro V s S;refine Ry ?_;have hD:(s.heap.push {cls:=.type "dict",data:=.dict #[]}).DictOf (DK.knd G.prog G.w (K:=K)) s.heap.objs.size []:=jj s.heap;refine ar (bc.mp hD) fun o' ho' hd'=>?_;have S1:=S.allocMu O.c {cls:=.type "dict",data:=.dict #[]} (DK.mo ([]:List (K×DV))) rfl (DK.moShut ho' (xV O S) hd' .nil);exact⟨.ptr s.heap.objs.size,Y,_,V,S1,.refl _,aT.mpr ⟨rfl,rfl⟩,q _⟩
abbrev EP(K:Type)[DecidableEq K][DK K](G:G0)(B:Bx)(E:aE->ay->Prop)(t:HG (List (aE×aE)))(Y:aP)(Z:Mu)(Q:List (K×DV)->aP->Mu->Prop):Prop:=WP G B E (fun V l vs=>∃kvs,Carries (DK.knd G.prog G.w (K:=K)) vs kvs/\KV G.prog G.w V l kvs) t Y Z Q
section
variable {K : Type} [DecidableEq K] [DK K]
theorem QH{Q:List (K×DV)->aP->Mu->Prop}(q:Q [] Y Z):EP K G B E (sV (sU [] [] B.env pos)) Y Z Q:=fun V s S=>evalPairs_nil ⟨[],Y,Z,V,S,.refl _,(bq [] trivial .nil),q⟩
theorem MQ{vs:List bZ}{Q:List (K×DV)->aP->Mu->Prop}(h:EV G B E (a9 k B.env) Y Z fun d Y1 Z1=>∃key,d=DK.key key/\EV G B E (a9 v B.env) Y1 Z1 fun x Y2 Z2=>EP K G B E (sV (sU ks vs B.env pos)) Y2 Z2 fun l Y3 Z3=>Q ((key,x)::l) Y3 Z3):EP K G B E (sV (sU (ac k::ks) (v::vs) B.env pos)) Y Z Q:=by intro V s S;refine pairTrees_cons_walk (WP.use h S (fun a s_1 d Y1 Z1 V_1 S_1 k_1 i_1 z9=>ar z9 fun key ed h₁=>?_));subst ed;refine WP.use h₁ S_1 (fun b s_2 x Y2 Z2 V_2 S_2 k_2 i_2 h_2=>?_);exact aQ (h_2 V_2 s_2 S_2) (fun r s_3 z=>iI z fun l Y3 Z3 V_3 S_3 k_3 z q=>ar z fun kvs hc hk=>⟨(key,x)::l,Y3,Z3,V_3,S_3,k_1.trans (k_2.trans k_3),(bq ((key,b)::kvs) (jR (DK.is i_1) rfl hc) (.cons (i_2.mono k_3) hk)),q⟩) fun zz zz x=>x
theorem KV.keys{l:List (K×DV)}(h:KV prog w V l kvs):kvs.map (·.1)=l.map (·.1):=by induction h with|nil=>rfl|cons _ _ ih=>rw[au,au,ih]
theorem yn(O:B.Ok G)(h:∀a,EP K G B E (sV (sU keys values B.env pos)) Y ((a,DK.mo ([]:List (K×DV)))::Z) fun l Y' Z'=>∃Z'',(l.map (·.1)).Nodup/\fE a (DK.mo ([]:List (K×DV))) (DK.mo l) Z' Z''/\Q (.ptr a) Y' Z'')(hall:keys.all (·.isSome)=ai)(hl:keys.length=values.length)(h0:keys≠[])(hlen:keys.length<=15):EV G B E (a9 (.Dict keys values pos) B.env) Y Z Q:=by intro V s S;have hD:(s.heap.push {cls:=.type "dict",data:=.dict #[]}).DictOf (DK.knd G.prog G.w (K:=K)) s.heap.objs.size []:=jj s.heap;refine ar (bc.mp hD) fun o' ho' hd'=>?_;have S1:=S.allocMu O.c {cls:=.type "dict",data:=.dict #[]} (DK.mo ([]:List (K×DV))) rfl (DK.moShut ho' (xV O S) hd' .nil);refine VR (knd:=DK.knd G.prog G.w (K:=K)) hall hl h0 hlen (aQ (h s.heap.objs.size V _ S1) (fun vs s_1 z=>iI z fun l Y1 Z1 V_1 S_1 k_1 z z'=>ar z fun kvs hc hk=>bp z' fun Z'' nd R q=>?_) fun zz zz x=>x);refine bB (DK.moOpen (S_1.mu _ R.mem)) fun o_1 kv1 ho_1 lo1 hd_1 hk_1=>?_;cases hk_1;refine cB kvs hc (bc.mpr (bq o_1 ho_1 hd_1)) (fun h' hD' hs=>?_);rw[Nt kvs (by rw[hk.keys];exact nd)] at hD';refine ar (bc.mp hD') fun o_2 ho2 hd2=>?_;exact⟨.ptr s.heap.objs.size,Y1,Z'',V_1,S_1.repl R hs (DK.moShut ho2 lo1 hd2 hk),k_1,aT.mpr ⟨rfl,rfl⟩,q⟩
inductive N4 (a:aW) (mo:MO):Mu->Mu->Prop
 |head {r:Mu}:N4 a mo ((a,mo)::r) r
 |tail {p:aW×MO} {r r':Mu}:N4 a mo r r'->N4 a mo (p::r) (p::r')
theorem N4.split(h:N4 a mo Z Z'):∃Z1 Z2,Z=Z1++(a,mo)::Z2/\Z'=Z1++Z2:=by induction h with|@head r=>exact jN [] r rfl rfl|@tail p r r' _ ih=>refine cX ih ?_;clear ih;intro m1 m2 e e';exact jN (p::m1) m2 (by rw[e];rfl) (by rw[e'];rfl)
theorem He(O:B.Ok G)(h:∀a,EP K G B E (sV (sU keys values B.env pos)) Y ((a,DK.mo ([]:List (K×DV)))::Z) fun l Y' Z'=>∃Z'',(l.map (·.1)).Nodup/\N4 a (DK.mo ([]:List (K×DV))) Z' Z''/\Q (DK.dv l) Y' Z'')(hall:keys.all (·.isSome)=ai)(hl:keys.length=values.length)(h0:keys≠[])(hlen:keys.length<=15):EV G B E (a9 (.Dict keys values pos) B.env) Y Z Q:=by intro V s S;have hD:(s.heap.push {cls:=.type "dict",data:=.dict #[]}).DictOf (DK.knd G.prog G.w (K:=K)) s.heap.objs.size []:=jj s.heap;refine ar (bc.mp hD) fun o' ho' hd'=>?_;have S1:=S.allocMu O.c {cls:=.type "dict",data:=.dict #[]} (DK.mo ([]:List (K×DV))) rfl (DK.moShut ho' (xV O S) hd' .nil);refine VR (knd:=DK.knd G.prog G.w (K:=K)) hall hl h0 hlen (aQ (h s.heap.objs.size V _ S1) (fun vs s_1 z=>iI z fun l Y1 Z1 V_1 S_1 k_1 z z'=>ar z fun kvs hc hk=>bp z' fun Z'' nd R q=>?_) fun zz zz x=>x);refine cX R.split fun m1 m2 z19 z20=>?_;subst z19;subst z20;refine bB (DK.moOpen (S_1.mu (s.heap.objs.size,DK.mo ([]:List (K×DV))) (aK _ (.head _)))) fun o_1 kv1 ho_1 lo1 hd_1 hk_1=>?_;cases hk_1;refine cB kvs hc (bc.mpr (bq o_1 ho_1 hd_1)) (fun h' hD' hs=>?_);rw[Nt kvs (by rw[hk.keys];exact nd)] at hD';refine ar (bc.mp hD') fun o_2 ho2 hd2=>?_;have S2:=S_1.turn (t:=s_1.toks+vs.length) (mo':=DK.mo l) hs (DK.moShut ho2 lo1 hd2 hk);have S3:=S2.freeze S.sz ho2;have kf:Kp V_1 (fR V_1 s.heap.objs.size o_2):=c9 (S_1.vm (s.heap.objs.size,DK.mo ([]:List (K×DV))) (aK _ (.head _)));exact⟨DK.dv l,Y1,_,_,S3,k_1.trans kf,DK.shut (bT _ _ _) lo1 hd2 (hk.mono kf),q⟩
end
theorem qs(O:B.Ok G)(hl:l.length+l'.length<=1000000)(q:Q (.tup (l++l')) Y Z):O2 G B E (Is G.prog G.w) (fJ .Add) (.tup l) (.tup l') Y Z Q:=by
 intro V s a b S ia ib;refine eB (km S ia) fun t vs n z7 V1 h1 L1=>?_;subst z7;refine eB (km S ib) fun u ws n' z8 V2 h2 L2=>?_;subst z8;by_cases e1:vs.isEmpty=ai
 .have:l=[]:=by have:=bb L1;rw[aF,tO.mp e1] at this;exact fN.mp this.symm
  subst this;exact HY (bq _ h1 rfl) (bq _ h2 rfl) yA FC mD lJ (lx _ _) (tuple_addW0 t u vs ws n n' aq aq #[] #[] e1) (jR h1 h2 ⟨.tup l',Y,Z,V,S,.refl _,ib,q⟩)
 .by_cases e2:ws.isEmpty=ai
  .have:l'=[]:=by have:=bb L2;rw[aF,tO.mp e2] at this;exact fN.mp this.symm
   subst this;rw[bR] at q;exact HY (bq _ h1 rfl) (bq _ h2 rfl) yA FC mD lJ (lx _ _) (tuple_addW1 t u vs ws n n' aq aq #[] #[] e1 e2) (jR h1 h2 ⟨.tup l,Y,Z,V,S,.refl _,ia,q⟩)
  .refine HY (bq _ h1 rfl) (bq _ h2 rfl) yA FC mD lJ (lx _ _) (tuple_addW2 t u vs ws n n' aq aq #[] #[] e1 e2 ?_) (jR h1 h2 ?_)
   .rw[<-aF,<-aF,bb L1,bb L2];exact ae hl (by decide)
   .have S1:=S.alloc O.c {cls:=.type "tuple",data:=.seq (vs++ws)} rfl
    refine⟨.tup (l++l'),Y,Z,_,S1,c9 S.fresh,?_,q⟩;show Exists _;exact cJ _ _ (vs++ws) 0 rfl (bT _ _ _) rfl ⟨rfl,rfl⟩ rfl (by rw[qh];exact(kJ L1 L2).mono (c9 S.fresh))
theorem vq(O:B.Ok G)(D:LS Z d l)(D':LS Z d' l')(hl:l.length+l'.length<=1000000)(q:Q (.lst (l++l')) Y Z):O2 G B E (Is G.prog G.w) (fJ .Add) d d' Y Z Q:=by intro V s a b S ia ib;refine bl (D.openX S ia) fun t vs n z9 h1 L1=>?_;subst z9;refine bl (D'.openX S ib) fun u ws n' z10 h2 L2=>?_;subst z10;refine P.add_list h1 h2 ?_ (by rw[<-aF,<-aF,bb L1,bb L2];exact ae hl (by decide));have S1:=S.alloc O.c {cls:=.type "list",data:=.seq (vs++ws)} rfl;refine⟨.lst (l++l'),Y,Z,_,S1,c9 S.fresh,?_,q⟩;show Exists _;exact cJ _ _ (vs++ws) 0 rfl (bT _ _ _) rfl ⟨rfl,rfl⟩ rfl (by rw[qh];exact(kJ L1 L2).mono (c9 S.fresh))
mutual
noncomputable def pd:DV->Option fy|.raw .none=>ac .none|.raw (.bool b)=>ac (.bool b)|.int i=>ac (.int i)|.str x=>ac (.str x)|.tup l=>(Bn l).map .tuple|.lst l=>(Bn l).map .list|_=>aq
noncomputable def Bn:List DV->Option (List fy)|[]=>ac []|d::r=>(pd d).bind fun x=>(Bn r).map (x::·)
end
theorem xO{x:fy}{C:Prop}(h:aq=ac x):C:=by injection h
mutual
theorem lV {h:jk} (k:Kp V h.get?):∀d x v,pd d=ac x->Is prog w V d v->∃as,qH h v x as
 |.raw u,x,v,e,i=>by
  refine aZ (aT.mp i) fun z1 zz=>?_;subst z1;cases v<;>first|exact xO e|(injection e with e;subst e)
  .exact⟨_,.none⟩
  .exact⟨_,.bool _⟩
 |.int j,x,v,e,i=>by refine aY (bA.mp i) fun t z2=>?_;subst z2;(injection e with e;subst e);exact⟨_,.int _ _⟩
 |.str j,x,v,e,i=>by refine aY (io.mp i) fun t z3=>?_;subst z3;(injection e with e;subst e);exact⟨_,.str _ _⟩
 |.tup l,x,v,e,i=>by refine ar (aD.mp e) fun xs hx z4=>?_;subst z4;refine bE i ?_;clear i;intro a o vs n z5 h1 h2 h3 h4 h5;subst z5;refine aY (iC k l xs _ hx h5) fun as ha=>?_;exact⟨_,.tuple (k _ _ h1) h2 h4 ha⟩
 |.lst l,x,v,e,i=>by refine ar (aD.mp e) fun xs hx z6=>?_;subst z6;refine bE i ?_;clear i;intro a o vs n z7 h1 h2 h3 h4 h5;subst z7;refine aY (iC k l xs _ hx h5) fun as ha=>?_;exact⟨_,.list (k _ _ h1) h2 h4 ha⟩
 |.byt _,_,_,e,_=>xO e|.sdic _,_,_,e,_=>xO e|.idic _,_,_,e,_=>xO e|.inst _ _,_,_,e,_=>xO e|.any,_,_,e,_=>xO e
theorem iC {h:jk} (k:Kp V h.get?):∀l xs vs,Bn l=ac xs->Mine.gO prog w V l vs->∃as,CO h vs xs as
 |[],xs,vs,e,i=>by obtain rfl:=be.mp i;(injection e with e;subst e);exact⟨_,.nil⟩
 |d::r,xs,vs,e,i=>by refine aM (aG.mp i) fun v rs z8 i1 i2=>?_;subst z8;refine ar (cC.mp e) ?_;clear e;intro x hx e;refine ar (aD.mp e) fun ys hy z9=>?_;subst z9;refine aY (lV k d x v hx i1) fun as ha=>?_;refine aY (iC k r ys rs hy i2) fun bs hb=>?_;exact⟨_,.cons ha hb⟩
end
def PD(Z:Mu)(d:DV)(x:fy):Prop:=pd d=ac x\/∃l xs,LS Z d l/\Bn l=ac xs/\x=.list xs
theorem PD.reads{x:fy}(h:PD Z d x)(S:b9 (cx G B) V Y Z s)(i:Is G.prog G.w V d v):∃as,qH s.heap v x as:=by
 rcases h with h|⟨l,xs,L,hx,rfl⟩;.exact lV S.vh d x v h i
 .refine bE (L.open S i) fun a o vs n z10 ho hc hn hd hl=>?_
  subst z10;refine aY (iC S.vh l xs _ hx hl) fun as ha=>?_;exact⟨_,.list ho hc hd ha⟩
theorem Bx.Ok.line(O:B.Ok G):B.A.units+100<K1:=by have:=O.room.2;show B.A.units+100<9900;exact om3 this
theorem Bs{x y:fy}(O:B.Ok G)(P:PD Z d x)(P':PD Z d' y)(hx:a6 x=ai)(hy:a6 y=ai)(q:Q (.bool (a8 x y)) Y Z):O2 G B E (Is G.prog G.w) (bi .Eq) d d' Y Z Q:=by intro V s a b S ia ib;refine aY (P.reads S ia) fun as ra=>?_;refine aY (P'.reads S ib) fun bs rb=>?_;exact SeqAt.compareEq_shaped ra rb hx hy (by have:=O.line;exact ZZ this) ⟨_,Y,Z,V,S,.refl _,aT.mpr ⟨rfl,rfl⟩,q⟩
theorem Bq{x y:fy}(O:B.Ok G)(P:PD Z d x)(P':PD Z d' y)(hx:a6 x=ai)(hy:a6 y=ai)(q:Q (.bool (!a8 x y)) Y Z):O2 G B E (Is G.prog G.w) (bi .NotEq) d d' Y Z Q:=by intro V s a b S ia ib;refine aY (P.reads S ia) fun as ra=>?_;refine aY (P'.reads S ib) fun bs rb=>?_;exact SeqAt.compareNe_shaped ra rb hx hy (by have:=O.line;exact ZZ this) ⟨_,Y,Z,V,S,.refl _,aT.mpr ⟨rfl,rfl⟩,q⟩
theorem IU{K:Type}[DecidableEq K][DK K]{l:List (K×DV)}{k:K}(D:DS Z d l)(q:Q (.bool (!(kr l k).isSome)) Y Z):O2 G B E (Is G.prog G.w) (bi .NotIn) (DK.key k) d Y Z Q:=by intro V s kv v S ik iv;refine bU (D.open S iv) fun a o kvs z11 ho lo hd hk=>?_;subst z11;have hD:s.heap.DictOf (DK.knd G.prog G.w (K:=K)) a kvs:=bc.mpr (bq o ho hd);exact wpAny_notIn_of (DK.is ik) lo hD.mapOf ⟨_,Y,Z,V,S.sat_toks _,.refl _,aT.mpr ⟨rfl,rfl⟩,hk.isSome▸q⟩
theorem te:∀{xs:List fy}{as:List aW},CO h vs xs as->vs.length=xs.length/\∀y∈vs,∃x as,x∈xs/\qH h y x as:=by
 induction vs with
 |nil=>intro xs as r;cases r;exact⟨rfl,fun zz h=>nomatch h⟩
 |cons v vs ih=>
  intro xs as r;cases r with|cons a b=>
  refine⟨congrArg (· + 1) (ih b).1,fun y hy=>?_⟩;rcases ao.mp hy with rfl|hy;.exact jN _ _ (.head _) a
  .exact cX ((ih b).2 y hy) fun x as hx r=>(jN x as (.tail _ hx) r)
theorem yu(key:∀y d as,qH h y d as->d.canLay0=ai->e y=f d):∀{xs:List fy}{as:List aW},CO h vs xs as->(∀y∈xs,a6 y=ai)->vs.map e=xs.map f:=by
 induction vs with
 |nil=>intro xs as r _;cases r;rfl
 |cons v vs ih=>intro xs as r hs;cases r with|cons a b=>rw[au,au,key _ _ _ a (nE (hs _ (.head _))),ih b fun y hy=>hs y (.tail _ hy)]
theorem D7{l:List α}{m:List β}(h:l.map e=m.map f):l.any e=m.any f:=by have:=congrArg (fun l=>l.any id) h;rw[fk,fk] at this;exact this
theorem vM{x:fy}(r:qH h v x as)(hx:a6 x=ai){A:fQ}(hu:A.units+100<K1)(hs:s.heap=h):∃e,∀{vs:List aE}{xs:List fy}{bs:List aW},CO h vs xs bs->(∀y∈xs,a6 y=ai)->(∀y∈vs,nF A.in1 s y v (e y))/\vs.any e=xs.any fun y=>a8 y x:=by
 classical
 refine⟨fun y=>decide (∃d as,qH h y d as/\d.canLay0=ai/\a8 d x=ai),fun {vs xs bs} ra hsx=>?_⟩;have key:∀y d as,qH h y d as->d.canLay0=ai->decide (∃d as,qH h y d as/\d.canLay0=ai/\a8 d x=ai)=a8 d x:=fun y d as rd hd=>by cases q:a8 d x with|true=>exact decide_eq_true (bO d as rd hd q)|false=>refine decide_eq_false ?_;rintro ⟨d',as',rd',hd',q'⟩;rw[yD d d' y as as' hd rd rd'] at q;rw[q] at q';injection q'
 constructor
 .intro y hy
  refine cX ((te ra).2 y hy) fun d as hd rd=>?_;show nF A.in1 s y v (decide (∃d as,qH h y d as/\d.canLay0=ai/\a8 d x=ai));rw[key y d as rd (nE (hsx d hd))];subst hs;exact keq_at rd r (hsx d hd) hx (by show A.units+1+64<K1;exact ZY hu)
 .exact D7 (yu key ra hsx)
theorem Go{x:fy}(O:B.Ok G)(P:pd d=ac x)(hl:Bn l=ac xs)(hx:a6 x=ai)(hxs:∀y∈xs,a6 y=ai)(q:Q (.bool (xs.any fun y=>a8 y x)) Y Z):O2 G B E (Is G.prog G.w) (bi .In) d (.tup l) Y Z Q:=by intro V s a b S ia ib;refine aY (lV S.vh d x a P ia) fun as ra=>?_;refine eB (km S ib) fun t vs n z12 zz ht hL=>?_;subst z12;refine aY (iC S.vh l xs _ hl hL) fun bs rb=>?_;refine aY (vM ra hx (A:=B.A) O.line rfl) fun e he=>?_;refine aZ (he rb hxs) fun h1 h2=>?_;refine SeqAt.in_tupleAt (items:=vs) e (dI _ ht rfl n rfl) (fun y hy=>h1 y (by simpa using hy)) ⟨_,Y,Z,V,S,.refl _,aT.mpr ⟨rfl,rfl⟩,?_⟩;rw[<-jE,h2];exact q
theorem Gp{x:fy}(O:B.Ok G)(P:pd d=ac x)(L:LS Z d' l)(hl:Bn l=ac xs)(hx:a6 x=ai)(hxs:∀y∈xs,a6 y=ai)(q:Q (.bool (xs.any fun y=>a8 y x)) Y Z):O2 G B E (Is G.prog G.w) (bi .In) d d' Y Z Q:=by intro V s a b S ia ib;refine aY (lV S.vh d x a P ia) fun as ra=>?_;refine bl (L.openX S ib) fun t vs n z13 ht hL=>?_;subst z13;refine aY (iC S.vh l xs _ hl hL) fun bs rb=>?_;refine aY (vM ra hx (A:=B.A) O.line rfl) fun e he=>?_;refine aZ (he rb hxs) fun h1 h2=>?_;refine SeqAt.in_listAt (items:=vs) e (dI _ ht rfl n rfl) (fun y hy=>h1 y (by simpa using hy)) ⟨_,Y,Z,V,S,.refl _,aT.mpr ⟨rfl,rfl⟩,?_⟩;rw[<-jE,h2];exact q
theorem zo{x:fy}(O:B.Ok G)(P:pd d=ac x)(L:LS Z d' l)(hl:Bn l=ac xs)(hx:a6 x=ai)(hxs:∀y∈xs,a6 y=ai)(q:Q (.bool (!xs.any fun y=>a8 y x)) Y Z):O2 G B E (Is G.prog G.w) (bi .NotIn) d d' Y Z Q:=by intro V s a b S ia ib;refine aY (lV S.vh d x a P ia) fun as ra=>?_;refine bl (L.openX S ib) fun t vs n z14 ht hL=>?_;subst z14;refine aY (iC S.vh l xs _ hl hL) fun bs rb=>?_;refine aY (vM ra hx (A:=B.A) O.line rfl) fun e he=>?_;refine aZ (he rb hxs) fun h1 h2=>?_;refine SeqAt.notIn_listAt (items:=vs) e (dI _ ht rfl n rfl) (fun y hy=>h1 y (by simpa using hy)) ⟨_,Y,Z,V,S,.refl _,aT.mpr ⟨rfl,rfl⟩,?_⟩;rw[<-jE,h2];exact q
def NsO(m:aV->Option aE)(o:ux):Prop:=∃es ep,o.data=.dict es ep/\StrKeys es/\∀name,nsFind es name=m name
def Cq(o:ux):Prop:=∃m,NsO m o
theorem vv{h:jk}:h.Ns a m↔∃o,h.get? a=ac o/\NsO m o:=⟨fun z2=>fw z2 fun o es ep ho r=>⟨o,ho,es,ep,r⟩,fun z1=>MV z1 fun o ho es ep r=>(oW o es ep ho r)⟩
noncomputable def UK(B:Bx)(env:Op)(C:aW)(V:Vw)(Z:Mu)(s:ay):Bx:={B with env:=env,L:=C,V0:=V,m0:=Z.map (·.1),s0:=s}
structure m4 (B:Bx) (scope:Rk) (cl:List (aV×aW)):Prop where
 clos:Ol scope B.env=pure cl
 cell:∀x∈scope.names,x.2≠.cell
 fn:scope.kind=.function
 names:∀x∈scope.names,x.2=.local->scope.names.lookup x.1=ac .local
theorem Jq(O:B.Ok G)(F:scope.kind=.function){Zo:Mu}(S:b9 (cx G B) V Y (Zo++Z) s):(UK B (gF scope cl C B.env) C V Z s).Ok G:=by refine⟨O.g,⟨F,rfl,O.c.glo,O.c.bui⟩,O.room,O.calm,?_⟩;refine ar (S.stk O) fun l hl h=>?_;refine bq l hl (fun env he=>?_);refine gz (h env he) fun a f o b c d e e'=>?_;refine⟨a,f,b,.inr ⟨c,fun z=>d ?_,o,e,e'⟩⟩;rw[aA];exact aK _ z
theorem b9.into(S:b9 (cx G B) V Y ((C,.pr Cq)::(Zo++Z)) s)(hk:scope.names.lookup x=ac .local):b9 (cx G (UK B (gF scope cl C B.env) C V Z s)) V [(x,.any)] Z s:=by
 have dj:=av.mp S.dj;have dj2:=av.mp (au▸dj.2);have D:=S.drop.dropAll;refine wm (S.mu (C,.pr Cq) (.head _)) fun o ho m hm=>?_;refine⟨(bq m (vv.mpr (bq o ho hm)) (fun p hp=>?_)),by simp,D.mu,?_,D.vh,S.vm _ (.head _),D.vm,fun zz h=>.inl h,.refl _,D.b0.trans D.v0,fun zz hp=>.inl (ax hp),fun zz o zz zz e=>(bq o e (.refl o)),aI _,D.hk,.refl s⟩
 .rw[ap] at hp
  subst hp;exact⟨lookup_relabel_local hk,fun h=>absurd rfl h⟩
 .refine av.mpr ⟨fun q=>dj2.1 ?_,(av.mp D.dj).2⟩
  rw[aA];exact aK _ q
theorem b9.outof{Zo Z':Mu}(O:B.Ok G)(S:b9 (cx G B) V Y ((C,mo)::(Zo++Z)) s)(S':b9 (cx G (UK B env C V Z s)) V' Y' Z' s'):b9 (cx G B) V' Y ((C,.pr Cq)::(Zo++Z')) s':=by
 have dj:=av.mp S.dj;have dj2:=av.mp (au▸dj.2);have stk:=S.stk O;have dd:=dj2.2;rw[aA,bC] at dd;have mem:∀{p},p∈Zo->p∈(C,mo)::(Zo++Z):=fun h=>.tail _ (bF _ h);have nC:∀p∈Zo,p.1≠C:=fun p hp q=>dj2.1 (by rw[aA];have:=ax (f:=fun x:aW×MO=>x.1) hp;rw[q] at this;exact bF _ this);have nm:∀p∈Zo,p.1∉Z.map (·.1):=fun p hp q=>dd.2.2 _ (ax hp) _ q rfl;have lt:∀p∈(C,mo)::(Zo++Z),p.1<s.heap.objs.size:=fun p hp=>S.muLt hp;have vnone:∀b,b<s.heap.objs.size->V b=aq->V' b=aq:=fun b hb hv=>by
  cases q:V' b with|none=>rfl|some x=>
   rcases S'.fr b (by rw[q];simp) with z|z;.exact absurd hv z
   .exact absurd hb (bu.mpr z)
 have same:∀p∈Zo,s'.heap.get? p.1=s.heap.get? p.1:=fun p hp=>by refine aY ((S.mu p (mem hp)).at) fun o ho=>?_;refine ar (S'.pr p.1 o (nm p hp) (nC p hp) ho) fun o' ho' nr=>?_;rw[nr.1 fun z=>(stk.fro z).2.1 (ax (mem hp))] at ho';exact ho'.trans ho.symm
 have mf':∀p∈Z',p.1∈Z.map (·.1)\/s.heap.objs.size<=p.1:=S'.mf;have ne':∀p∈Z',∀b,b<s.heap.objs.size->b∉Z.map (·.1)->p.1≠b:=fun p hp b hb hn q=>by
  rcases mf' p hp with z|z;.exact hn (q▸z)
  .exact absurd hb (bu.mpr (q▸z))
 refine ar S.m ?_;(try clear m);intro m z3 he;refine fw z3 ?_;clear z3;intro oL es ep hL r;have hL:s.heap.get? B.L=ac oL:=hL;have LC:B.L≠C:=fun q=>dj.1 (q▸.head _);have Lm:B.L∉Z.map (·.1):=fun q=>dj.1 (.tail _ (by rw[aA];exact aK _ q));refine ar (S'.pr B.L oL Lm LC hL) fun oL' hL' nrL=>?_;have r':=r;rw[<-nrL.data] at r';refine ar S'.m fun mC hnC zz=>?_;refine ar (vv.mp hnC) fun oC hoC hNs=>?_;refine⟨(bq m (oW oL' es ep hL' r') (b9.envMono S'.v0 he)),S.nd,fun p hp=>?_,?_,S'.vh,vnone _ (aR hL) S.vL,fun p hp=>?_,fun a ha=>?_,S.v0.trans S'.v0,S.b0,fun p hp=>?_,fun a o n l e=>?_,ae S.sz S'.sz,S'.hk,S.rest.trans S'.rest⟩
 .rcases ao.mp hp with rfl|hp
  .exact⟨oC,hoC,mC,hNs⟩
  .rcases aJ.mp hp with h|h
   .exact(S.mu p (mem h)).mono S'.v0 (same p h)
   .exact S'.mu p h
 .have djs:=av.mp S'.dj
  refine av.mpr ⟨fun q=>?_,av.mpr ⟨fun q=>?_,?_⟩⟩
  .rcases ao.mp q with q|q
   .exact LC q
   .rw[aA] at q
    rcases aJ.mp q with q|q;.exact dj.1 (.tail _ (by rw[aA];exact bF _ q))
    .refine ar (az.mp q) fun p hp e=>?_
     exact ne' p hp _ (aR hL) Lm e
  .rw[aA] at q
   rcases aJ.mp q with q|q;.exact dj2.1 (by rw[aA];exact bF _ q)
   .exact djs.1 q
  .rw[aA,bC]
   refine jR dd.1 djs.2 (fun a ha b hb e=>?_);refine ar (az.mp ha) fun p hp e1=>?_;refine ar (az.mp hb) fun q hq e2=>?_;exact ne' q hq p.1 (lt p (mem hp)) (nm p hp) (e2.trans (e.symm.trans e1.symm))
 .rcases ao.mp hp with rfl|hp
  .exact S'.vL
  .rcases aJ.mp hp with h|h
   .exact vnone _ (lt p (mem h)) (S.vm p (mem h))
   .exact S'.vm p h
 .rcases S'.fr a ha with z|z
  .exact S.fr a z
  .exact .inr (ae S.sz z)
 .rcases ao.mp hp with rfl|hp
  .exact S.mf (C,mo) (.head _)
  .rcases aJ.mp hp with h|h
   .exact S.mf p (mem h)
   .rcases mf' p h with z|z
    .refine ar (az.mp z) fun q hq e=>?_
     exact e▸S.mf q (.tail _ (aK _ hq))
    .exact .inr (ae S.sz z)
 .refine ar (S.pr a o n l e) fun o' e' nr=>?_
  have aC:a≠C:=fun q=>by
   subst q;rcases S.mf _ (.head _) with z|z;.exact n z
   .exact absurd (aR e) (bu.mpr z)
  have am:a∉Z.map (·.1):=fun q=>by
   refine ar (az.mp q) fun y hy e''=>?_;subst e'';rcases S.mf y (.tail _ (aK _ hy)) with z|z;.exact n z
   .exact absurd (aR e) (bu.mpr z)
  refine ar (S'.pr a o' am aC e') fun o'' e'' nr'=>?_;exact bq o'' e'' (nr.trans nr')
noncomputable def o8(ifs:List bZ)(env:Op):HG Bool:=forIn ifs ai fun c r=>if r=ai then do let ok <-isTrue c env (a9 c env);pure (Eo ok) else pure (Eo r)
theorem FZ{Q:Bool->aP->Mu->Prop}(q:Q ai Y Z):EB G B E (o8 [] B.env) Y Z Q:=fun V s S=>by unfold o8;rw[Ny];exact aH ⟨ai,Y,Z,V,S,.refl _,rfl,q⟩
theorem FY{Q:Bool->aP->Mu->Prop}(h:EB G B E (isTrue t B.env (a9 t B.env)) Y Z Q):EB G B E (o8 [t] B.env) Y Z Q:=fun V s S=>by unfold o8;rw[List.forIn_cons];refine ah ?_;rw[if_pos rfl];refine ah (WP.use h S (fun b s_1 b' Y1 Z1 V_1 S_1 k_1 e q=>aH ?_));subst e;dsimp only;rw[Ny];exact aH ⟨b',Y1,Z1,V_1,S_1,k_1,rfl,q⟩
def HA(G:G0)(B:Bx)(ifs:List bZ)(elt:bZ)(x:aV)(d:DV)(Z:Mu)(out:List DV)(I:List DV->Mu->Prop):Prop:=EB G B (fun zz zz=>False) (o8 ifs B.env) [(x,d)] Z fun b Y' Z3=>if b=ai then EV G B (fun zz zz=>False) (a9 elt B.env) Y' Z3 (fun y zz Z4=>I (out++[y]) Z4) else I out Z3
theorem ui{o m:List α}:W6 (o++c::d::m) (c::((d::o)++m)):=gR.trans (gR.cons _)
theorem Hn{N:ay->Prop}(O:B.Ok G)(F:m4 B scope cl)(hx:scope.names.lookup x=ac .local)(S:b9 (cx G B) V Y ((C,.pr Cq)::(((D,.lst out)::own)++Z)) s)(iu:Is G.prog G.w V d u)(ho:out.length<=1000000)(tr:HA G (UK B (gF scope cl C B.env) C V Z s) ifs elt x d Z out J)(hN:∀V' out' Z' s',out'.length<=out.length+1->b9 (cx G B) V' Y ((C,.pr Cq)::(((D,.lst out')::own)++Z')) s'->Kp V V'->J out' Z'->N s'):bd (bf G.prog G.w) B.A (assign (.Name x px) (gF scope cl C B.env) u) (fun zz s_2=>bd (bf G.prog G.w) B.A (o8 ifs (gF scope cl C B.env)) (fun ok s_3=>if ok=ai then bd (bf G.prog G.w) B.A (a9 elt (gF scope cl C B.env)) (fun y s_4=>bd (bf G.prog G.w) B.A (call (.builtin "list.append") [.ref D,y]) (fun zz s_5=>N s_5) E4 s_4) E3 s_3 else N s_3) E2 s_2) E_1 s:=by have Oc:(UK B (gF scope cl C B.env) C V Z s).Ok G:=Jq O F.fn (Zo:=(C,.pr Cq)::((D,.lst out)::own)) S;refine aQ (As (E:=fun zz zz=>False) (Q:=fun Y' Z'=>Y'=[(x,d)]/\Z'=Z) Oc .head ⟨rfl,rfl⟩ V s u (S.into hx) iu) (fun zz s_4 z5=>iI z5 fun zz Y4 Z4 V4 S_4 k_4 zz z6=>aZ z6 fun e1 e2=>?_) fun zz zz x=>x.elim;subst e1 e2;refine aQ (tr V4 s_4 S_4) (fun b s_5 z7=>iI z7 fun b' Y5 Z5 V5 S_5 k_5 eb hq=>?_) fun zz zz x=>x.elim;subst eb;cases b' with|false=>exact hN _ _ _ _ (cD _) (b9.outof (Zo:=(D,.lst out)::own) O S S_5) (k_4.trans k_5) hq|true=>refine aQ (hq V5 s_5 S_5) (fun y s6 z8=>iI z8 fun dy Y6 Z6 V6 S_6 k_6 iy hq'=>?_) fun zz zz x=>x.elim;refine aQ (tD (B:=B) (E:=fun zz zz=>False) (Y:=Y) (Q:=fun zz Y' Z'=>Y'=Y/\Z'=(C,.pr Cq)::(D,.lst (out++[dy]))::(own++Z6)) (fE.tail fE.head) ho ⟨rfl,rfl⟩ V6 s6 [.ref D,y] (b9.outof (Zo:=(D,.lst out)::own) O S S_6) (aG.mpr (bO _ _ rfl (aT.mpr ⟨rfl,rfl⟩) (aG.mpr (bO _ _ rfl iy (be.mpr rfl)))))) (fun zz s7 z9=>iI z9 fun zz Y7 Z7 V7 S_7 k7 zz z10=>aZ z10 fun e1 e2=>?_) fun zz zz x=>x.elim;subst e1 e2;exact hN _ _ _ _ (bv aS) S_7 (k_4.trans (k_5.trans (k_6.trans k7))) hq'
def VL(G:G0)(B:Bx)(V:Vw)(Y:aP)(own:Nat->Mu)(C D:aW)(N:Nat)(I:Nat->List DV->Mu->Prop)(n:Nat)(s:ay):Prop:=∃i out Z2 V',i<=N/\n=N-i/\out.length<=i/\b9 (cx G B) V' Y (own i++(C,.pr Cq)::(D,.lst out)::Z2) s/\Kp V V'/\I i out Z2
theorem Ho{elt iter:bZ}{px:xA}{ifs:List bZ}{pos:xA}{I:Nat->List DV->Mu->Prop}{T:yE->ay->Prop}(O:B.Ok G)(F:m4 B scope cl)(hx:scope.names.lookup x=ac .local)(K:Nn G B V_0 own it ds)(hds:ds.length<=1000000)(S:b9 (cx G B) V Y (own 0++(C,.pr Cq)::(D,.lst [])::Z) s)(k0:Kp V_0 V)(hI:I 0 [] Z)(hstep:∀i d,ds[i]?=ac d->∀out Z2,I i out Z2->∀Bc,Bc.Ok G->Bc.env=gF scope cl Bc.L B.env->Bc.k=B.k->Bc.hd=B.hd->Bc.m0=Z2.map (·.1)->HA G Bc ifs elt x d Z2 out (I (i+1)))(hT:∀s' V' out Z2,b9 (cx G B) V' Y ((C,.pr Cq)::(D,.lst out)::Z2) s'->Kp V V'->I ds.length out Z2->T (.ok .next) s'):fH (bf G.prog G.w) B.A (.compLoop (.ListComp elt [⟨.Name x px,iter,ifs,0⟩] scope pos) 0 it (.ref D) (gF scope cl C B.env)) T s:=by
 refine codeAny_compLoop_tests (VL G B V Y own C D ds.length I) (fun n s' z=>bE z fun i out Z2 V' hi hn hout S' k' hI=>?_) ds.length (cJ 0 [] Z V (a7 _) rfl (aI _) S (.refl _) hI);cases hd:ds[i]? with
 |none=>have e:i=ds.length:=wY hi (gW.mp hd);exact K.last (k0.trans k') (e▸S') fun s_3 V_3 S_3 k_3=>hT s_3 V_3 out Z2 S_3 (k'.trans k_3) (e▸hI)
 |some d'=>have hlt:i<ds.length:=(cq.mp hd).1;exact K.next hd (k0.trans k') S' fun u s_3 V_3 S_3 k_3 iu=>Hn O F hx (S_3.perm ui) iu (ae hout (ae (b8 hlt) hds)) (hstep i d' hd out Z2 hI _ (Jq O F.fn (Zo:=(C,.pr Cq)::((D,.lst out)::own (i+1))) (S_3.perm ui)) rfl rfl rfl rfl) fun V' out' Z' s' hl S_4 k_4 h=>⟨ds.length-(i+1),hn▸XT hlt,i+1,out',Z',V',hlt,rfl,ae hl (b6 hout),S_4.perm ui.symm,k'.trans (k_3.trans k_4),h⟩
theorem yr{I:Nat->List DV->Mu->Prop}{RR:aE->aW->yE->ay->Prop}(O:B.Ok G)(F:m4 B scope cl)(hx:scope.names.lookup x=ac .local)(K:Nn G B V_0 own it ds)(hds:ds.length<=1000000)(S:b9 (cx G B) V Y (own 0++Z) s)(k0:Kp V_0 V)(hI:I 0 [] Z)(hstep:∀i d,ds[i]?=ac d->∀out Z2,I i out Z2->∀Bc,Bc.Ok G->Bc.env=gF scope cl Bc.L B.env->Bc.k=B.k->Bc.hd=B.hd->Bc.m0=Z2.map (·.1)->HA G Bc ifs elt x d Z2 out (I (i+1)))(hRR:∀D C s' V' out Z2,B.s0.heap.objs.size<=D->b9 (cx G B) V' Y ((C,.pr Cq)::(D,.lst out)::Z2) s'->Kp V V'->I ds.length out Z2->RR (.ref D) C (.ok .next) s'):bd (bf G.prog G.w) B.A (HT []) (fun acc s_3=>bd (bf G.prog G.w) B.A (newFunctionEnv scope B.env.globals cl [] B.env.qual aq .none (ac B.env)) (fun cenv s_4=>fH (bf G.prog G.w) B.A (.compStart (.ListComp elt [⟨.Name x px,iter,ifs,0⟩] scope pos) 0 it acc {cenv with scope:=relabel scope B.env}) (RR acc cenv.locals) s_4) E s_3) E s:=by refine dk (KS F.cell (by intro y hy;simp at hy) (fun h₁ hns1 hsb1=>?_) F.fn);have S1:=S.allocMu O.c {cls:=.type "list",dict:=aq,data:=.seq ([]:List aE).toArray} (.lst []) rfl (cZ _ (#[]) 0 (aN _ rfl) rfl ⟨rfl,rfl⟩ rfl (be.mpr rfl));have S2:=S1.allocMu O.c {cls:=.type "dict",data:=.dict #[]} (.pr fun zz=>True) rfl (bq _ (aN _ rfl) trivial);refine ar (vv.mp hns1) fun oC hoC hNs=>?_;have S3:=S2.turn (t:=s.toks+([]:List (aV×aE)).length) (Z1:=[]) (mo':=.pr Cq) hsb1 ⟨oC,hoC,_,hNs⟩;dsimp only at S3;generalize hD:s.heap.objs.size=D at S3;generalize hC:(s.heap.push {cls:=.type "list",dict:=aq,data:=.seq ([]:List aE).toArray}).objs.size=C at S3;have S4:b9 (cx G B) V Y (own 0++(C,.pr Cq)::(D,.lst [])::Z) {s with heap:=h₁,toks:=s.toks+([]:List (aV×aE)).length}:=S3.perm ui.symm;have loop:=Ho (elt:=elt) (iter:=iter) (px:=px) (ifs:=ifs) (pos:=pos) (T:=RR (.ref D) C) O F hx K hds S4 k0 hI hstep fun s' V' out Z2 S' k' h=>hRR D C s' V' out Z2 (hD▸S.sz) S' k' h;subst hD hC;exact codeAny_compStart_list loop (K.self k0 S4 loop)
def Cu(G:G0)(B:Bx)(E:aE->ay->Prop)(ifs:List bZ)(elt:bZ)(x:aV)(scope:Rk)(cl:List (aV×aW))(Q:DV->aP->Mu->Prop):DV->aP->Mu->Prop:=fun d Y1 Z1=>∃ds Z',qF G B E d ds Y1 Z1 Z'/\ds.length<=1000000/\∃I:Nat->List DV->Mu->Prop,I 0 [] Z'/\
 (∀i d,ds[i]?=ac d->∀out Z2,I i out Z2->∀Bc,Bc.Ok G->Bc.env=gF scope cl Bc.L B.env->Bc.k=B.k->Bc.hd=B.hd->Bc.m0=Z2.map (·.1)->HA G Bc ifs elt x d Z2 out (I (i+1)))/\
 (∀out Z2,I ds.length out Z2->Q (.lst out) Y1 Z2)
theorem qz(hD:B.s0.heap.objs.size<=D)(S:b9 (cx G B) V Y ((D,.lst out)::Z) s):∃V',b9 (cx G B) V' Y Z s/\Kp V V'/\Is G.prog G.w V' (.lst out) (.ref D):=by have hm:=S.mu (D,.lst out) (.head _);refine aY hm.at fun o ho=>?_;have kf:Kp V (fR V D o):=c9 (S.vm (D,.lst out) (.head _));exact cB _ (S.freeze (Z1:=[]) hD ho) kf (sC rfl hm ho kf (bT _ _ _))
theorem B0(O:B.Ok G)(F:m4 B scope cl)(hx:scope.names.lookup x=ac .local)(h:EV G B E (a9 iter B.env) Y Z (Cu G B E ifs elt x scope cl Q))(hs:∀x,jT iter B.env x=pure x):EV G B E (a9 (.ListComp elt [⟨.Name x px,iter,ifs,0⟩] scope pos) B.env) Y Z Q:=by intro V s S;rw[eval_ListComp];refine Fz (use:=aq) rfl hs F.clos F.fn F.names (WP.use h S (fun xv s_1 d Y1 Z1 V_1 S_1 k_1 i_1 z12=>qB z12 fun ds Z' hit hds I hI hstep hend=>?_));refine hit V_1 s_1 xv _ S_1 i_1 fun it own s_2 V_2 S_2 k_2 K=>?_;refine yr (RR:=fun acc C=>compPost (bf G.prog G.w) B.A E aq _ acc C) O F hx K hds S_2 (.refl _) hI hstep fun D C s' V' out Z2 hD S' k' hI'=>?_;refine wm (S'.mu (C,.pr Cq) (.head _)) fun oC hoC m hm=>?_;refine bq m (vv.mpr (bq oC hoC hm)) (fun h' hs'=>?_);refine bp (qz hD (S'.gone (t:=s'.toks) hs'.extBut (bv hs'.1.symm))) fun V_3 S_3 k_3 i_3=>?_;exact⟨.lst out,Y1,Z2,V_3,S_3,k_1.trans (k_2.trans (k'.trans k_3)),i_3,hend out Z2 hI'⟩
theorem wc{Q:Fl->aP->Mu->Prop}(O:B.Ok G)(F:m4 B scope cl)(hx:scope.names.lookup x=ac .local)(hsw:gN (.ListComp elt [⟨.Name x px,iter,ifs,0⟩] scope pos) (ac (.Name y py)) spos.line B.env=pure ai)(h:EV G B E (a9 iter B.env) Y Z (Cu G B E ifs elt x scope cl (Nj y (Q .next))))(hs:∀x,jT iter B.env x=pure x):EX G B E (fb (.Assign [.Name y py] (.ListComp elt [⟨.Name x px,iter,ifs,0⟩] scope pos) spos) B.env) Y Z Q:=by intro V s S;rw[exec_Assign_Name_used _ _ _ _ hsw];refine ah (cG (ah ?_));show bd _ B.A (do let _ <-comprehension (.ListComp elt [⟨.Name x px,iter,ifs,0⟩] scope pos) scope B.env _ (HT []) ak (a9 iter B.env) (ac (assign (.Name y py) B.env))) _ _ s;refine ah (aQ (Fz (use:=ac (assign (.Name y py) B.env)) (Q:=fun zz s'=>qK G B (wE G.prog G.w) V Q .next s') rfl hs F.clos F.fn F.names (WP.use h S (fun xv s_1 d Y1 Z1 V_1 S_1 k_1 i_1 z14=>qB z14 fun ds Z' hit hds I hI hstep hend=>?_))) (fun zz s' hq=>aH (aH hq)) fun zz zz e=>e);refine hit V_1 s_1 xv _ S_1 i_1 fun it own s_2 V_2 S_2 k_2 K=>?_;refine yr (RR:=fun acc C=>compPost (bf G.prog G.w) B.A E (ac (assign (.Name y py) B.env)) _ acc C) O F hx K hds S_2 (.refl _) hI hstep fun D C s' V' out Z2 hD S' k' hI'=>?_;refine bp (qz hD S'.swap) fun V_3 S_3 k_3 i_3=>?_;refine ar (hend out Z2 hI') fun Y'' hp q=>?_;show bd _ _ (assign (.Name y py) B.env (.ref D)) _ _ _;refine aQ (As (Q:=fun Y4 Z4=>Y4=Y''/\Z4=(C,.pr Cq)::Z2) O hp ⟨rfl,rfl⟩ V_3 s' (.ref D) S_3 i_3) (fun zz s_4 z15=>iI z15 fun zz Y4 Z4 V4 S_4 k_4 zz z16=>aZ z16 fun e1 e2=>?_) fun zz zz x=>x;subst e1 e2;refine wm (S_4.mu (C,.pr Cq) (.head _)) fun oC hoC m hm=>?_;refine bq m (vv.mpr (bq oC hoC hm)) (fun h' hs'=>?_);exact⟨.next,Y4,Z2,V4,S_4.gone (t:=s_4.toks) hs'.extBut (bv hs'.1.symm),k_1.trans (k_2.trans (k'.trans (k_3.trans k_4))),rfl,q⟩
noncomputable def jt(names:List (aV×NameKind))(L:aW)(Yc:List DV):Mu:=((cP (L+1) names []).zip Yc).map fun q=>(q.1.2,MO.cell q.2)
theorem m7:∀{l:List α}{m:List β},((l.zip m).map (·.1)).Sublist l
 |[],_=>by simp
 |a::l,[]=>by simp
 |a::l,b::m=>by rw[HH,au];exact m7.cons_cons _
theorem Ki(hk:kf x=ac .local):∀{bs:List (aV×aE)}{m:aV->Option aE},(bs.map (·.1)).Nodup->(x,v)∈bs->bindL kf bs m x=ac v:=by
 have keep:∀{bs:List (aV×aE)}{m:aV->Option aE},x∉bs.map (·.1)->bindL kf bs m x=m x:=by
  intro bs;induction bs with
  |nil=>intro m _;rfl
  |cons p r ih=>intro m h;obtain⟨n,u⟩:=p;unfold bindL;rw[ih fun z=>h (.tail _ z)];have hn:x≠n:=fun q=>h (q▸.head _);split<;>simp[hn]
 intro bs;induction bs with
 |nil=>intro m _ h;cases h
 |cons p r ih=>
  intro m nd h;obtain⟨n,u⟩:=p;rw[au,av] at nd;unfold bindL;rcases ao.mp h with e|h
  ·(injection e with q3 q4;subst q3;subst q4)
   rw[keep nd.1,if_pos hk];simp
  .exact ih nd.2 h
theorem Kj(hk:kf x≠ac .local):∀{bs:List (aV×aE)}{m:aV->Option aE},(bs.map (·.1)).Nodup->(x,v)∈bs->bindC kf bs m x=ac v:=by
 have keep:∀{bs:List (aV×aE)}{m:aV->Option aE},x∉bs.map (·.1)->bindC kf bs m x=m x:=by
  intro bs;induction bs with
  |nil=>intro m _;rfl
  |cons p r ih=>intro m h;obtain⟨n,u⟩:=p;unfold bindC;rw[ih fun z=>h (.tail _ z)];have hn:x≠n:=fun q=>h (q▸.head _);split<;>simp[hn]
 intro bs;induction bs with
 |nil=>intro m _ h;cases h
 |cons p r ih=>
  intro m nd h;obtain⟨n,u⟩:=p;rw[au,av] at nd;unfold bindC;rcases ao.mp h with e|h
  ·(injection e with q1 q2;subst q1;subst q2)
   rw[keep nd.1,if_neg hk];simp
  .exact ih nd.2 h
theorem xK{ps:List aV}(hY:∀p∈Y0,fd.scope.names.lookup p.1=ac .local/\(p.2≠.any->p∈ps.zip ds))(hc:∀n,∀p∈pR (cP n fd.scope.names []) Yc,fd.scope.names.lookup p.1.1=ac .cell/\(cP n fd.scope.names []).lookup p.1.1=ac p.1.2/\(p.2≠.any->(p.1.1,p.2)∈ps.zip ds))(nd:(Y0.map (·.1)).Nodup)(nz:((ps.zip vs).map (·.1)).Nodup)(inz:∀p∈ps.zip ds,∃v,(p.1,v)∈ps.zip vs/\Is G.prog G.w V p.2 v)(P:Eb G V Z0 s)(hh:CG A V)(x:InCallC s (fc fd s.heap.objs.size f).locals (bindL (fc fd s.heap.objs.size f).kindOf (ps.zip vs) fun _=>aq) (fc fd s.heap.objs.size f).cells (bindC (fc fd s.heap.objs.size f).kindOf (ps.zip vs) fun _=>aq) {s with heap:=h₁,toks:=tk}):b9 (cx G (su A (fc fd s.heap.objs.size f) V Z0 s k hd)) V Y0 (jt fd.scope.names s.heap.objs.size Yc++Z0) {s with heap:=h₁,toks:=tk}:=by
 have hk_1:=x.toInCall.keep;have hns:h₁.Ns s.heap.objs.size _:=x.toInCall.ns;have nV:∀a,s.heap.objs.size<=a->V a=aq:=fun a ha=>P.nV ha;have zw:∀p∈jt fd.scope.names s.heap.objs.size Yc,∃q∈pR (cP (s.heap.objs.size+1) fd.scope.names []) Yc,p=(q.1.2,MO.cell q.2):=fun p hp=>by refine ar (az.mp hp) fun q hq e=>?_;exact bq q hq e.symm
 have above:∀p∈jt fd.scope.names s.heap.objs.size Yc,s.heap.objs.size<p.1:=fun p hp=>by refine ar (zw p hp) fun q hq z2=>?_;subst z2;exact x.above q.1.1 q.1.2 (gb hq).1
 have cks:(jt fd.scope.names s.heap.objs.size Yc).map (·.1)=((cP (s.heap.objs.size+1) fd.scope.names []).zip Yc).map (·.1.2):=by unfold jt;rw[bS];rfl
 have cnd:((jt fd.scope.names s.heap.objs.size Yc).map (·.1)).Nodup:=by
  rw[cks];have h1:((cP (s.heap.objs.size+1) fd.scope.names []).map (·.2)).Nodup:=by unfold rO;rw[sY];exact x.apart
  refine h1.sublist ?_;rw[show((cP (s.heap.objs.size+1) fd.scope.names []).zip Yc).map (·.1.2)=(((cP (s.heap.objs.size+1) fd.scope.names []).zip Yc).map (·.1)).map (·.2) from by rw[bS];rfl];refine Wi _ ?_;exact m7
 have mlt:∀p∈Z0,p.1<s.heap.objs.size:=fun p hp=>let ⟨_,e⟩:=(P.mu p hp).at;aR e;refine⟨(bq _ hns (fun p hp=>⟨(hY p hp).1,fun hn=>?_⟩)),nd,fun p hp=>?_,?_,fun a o e=>hk_1 _ _ (P.vh _ _ e),nV _ (aI _),fun p hp=>?_,fun a ha=>.inl ha,.refl _,P.b0,fun p hp=>?_,fun a o zz zz e=>(bq o (hk_1 _ _ e) (.refl o)),b8 hns.lt,hh,.refl s⟩
 .refine ar (inz p ((hY p hp).2 hn)) fun v hv iv=>?_
  exact bq v (Ki (hY p hp).1 nz hv) iv
 .rcases aJ.mp hp with hp|hp
  .refine ar (zw p hp) fun q hq z3=>?_
   subst z3;refine jK (hc _ q hq) fun c1 c2 c3=>?_;refine ar (x.cell q.1.1 q.1.2 c2) fun oc hoc hdc=>?_;refine bO oc _ hoc hdc (fun hn=>?_);refine ar (inz _ (c3 hn)) fun v hv iv=>?_;refine bq v (Kj ?_ nz hv) iv;intro z;have c1':(fc fd s.heap.objs.size f).kindOf q.1.1=ac .cell:=c1;rw[c1'] at z;cases z
  .refine aY ((P.mu p hp).at) fun o ho=>?_
   exact(P.mu p hp).mono (.refl _) ((hk_1 _ _ ho).trans ho.symm)
 .rw[aA]
  refine av.mpr ⟨fun q=>?_,?_⟩
  .rcases aJ.mp q with q|q
   .refine ar (az.mp q) fun p hp e=>?_
    exact absurd e (gT (above p hp))
   .refine ar (az.mp q) fun p hp e=>?_
    exact absurd e (bP (mlt p hp))
  .rw[bC]
   refine jR cnd P.nd (fun a ha b hb e=>?_);refine ar (az.mp ha) fun p hp e1=>?_;refine ar (az.mp hb) fun q hq e2=>?_;exact absurd (e1.trans (e.trans e2.symm)) (gT (gU (mlt q hq) (above p hp)))
 .rcases aJ.mp hp with hp|hp
  .exact nV _ (b8 (above p hp))
  .exact P.vm p hp
 .rcases aJ.mp hp with hp|hp
  .exact .inr (b8 (above p hp))
  .exact .inl (ax hp)
theorem E7{E:fQ->Vw->ay->aE->ay->Prop}{EE:Bx->aE->ay->Prop}(g:G.Ok)(ho:G.K.lookup f=ac o)(hdata:o.data=.func fd)(hb:fd.body=.stmts body)(hco:fd.scope.isCoroutine=ak)(hgen:fd.scope.isGenerator=ak)(hk:fd.scope.kind=.function)(hclo:fd.closure=[])(hgl:fd.globals=ce)(hbu:fd.builtins=d7)(hcd:nR G.K fd.code fd.qualname=ai){ps:List aV}(hlen:ds.length=ps.length)(hbi:∀vs,vs.length=ps.length->i6 fd ⟨vs,[]⟩=pure (ps.zip vs))(ndp:ps.Nodup)(hkind:∀n,∀x∈ps,fd.scope.names.lookup x=ac .local\/(fd.scope.names.lookup x=ac .cell/\((cP n fd.scope.names []).lookup x).isSome=ai))(hY:∀p∈Y0,fd.scope.names.lookup p.1=ac .local/\(p.2≠.any->p∈ps.zip ds))(hc:∀n,∀p∈pR (cP n fd.scope.names []) Yc,fd.scope.names.lookup p.1.1=ac .cell/\(cP n fd.scope.names []).lookup p.1.1=ac p.1.2/\(p.2≠.any->(p.1.1,p.2)∈ps.zip ds))(nd:(Y0.map (·.1)).Nodup)(hE:∀A V s B,B=⟨A.deeper (fc fd s.heap.objs.size f),fc fd s.heap.objs.size f,s.heap.objs.size,V,Z0.map (·.1),s,k,hd⟩->B.Ok G->m3 A (Z0.map (·.1)) V s->∀e s',EE B e s'->bd (bf G.prog G.w) B.A (leaving B.env e) (fun zz s''=>E A V s e s'') (fun e' s''=>E A V s e' s'') s')(H:∀B,B.Ok G->B.env.frame=ac B.L->(∃l,B.A.frames=ac (B.env::l))->B.k=k->B.hd=hd->B.env=fc fd B.L f->B.m0=Z0.map (·.1)->EX G B (EE B) (eD body B.env) Y0 (jt fd.scope.names B.L Yc++Z0) (ki Z0 R)):gf G hd (k+1) (.ref f) ds Z0 R E:=by
 intro A V s vs rm hcalm hh hstk P hi;have kb:∀b o,G.hb.get? b=ac o->s.heap.get? b=ac o:=fun b o e=>P.vh _ _ (P.b0 _ _ e);have hvl:vs.length=ps.length:=(bb hi).trans hlen;have nz:((ps.zip vs).map (·.1)).Nodup:=by rw[show(ps.zip vs).map (·.1)=ps from jO (bv hvl.symm)];exact ndp
 have inz:∀p∈ps.zip ds,∃v,(p.1,v)∈ps.zip vs/\Is G.prog G.w V p.2 v:=rc hi;refine Oj rm.depth ((g.kin.keeps kb) _ _ ho) hdata (g.lim.keeps kb) (CL (g.kin.keeps kb) hcd) hb (hbi vs hvl) hclo (fun x hx=>hkind _ _ (gb hx).1) (fun s_1 x=>?_) hco hgen hk;refine g5 x.toInCall.same fun h₁ tk z1=>?_;subst z1;have OB:(su A (fc fd s.heap.objs.size f) V Z0 s k hd).Ok G:=qY g ⟨hk,rfl,hgl,hbu⟩ rfl rm hcalm hstk;refine aQ (H _ OB rfl (ar hstk fun l hl _=>⟨l,e8 hl⟩) rfl rfl rfl rfl V _ (xK hY hc nd nz inz P hh x)) (fun fl s' z16=>iI z16 fun a Y' Z' V' S' k' i' z17=>d9 (NX hstk rfl S' i' z17) fun d Zr V'' v T hR hv h=>?_) fun e s'' x=>hE A V s _ rfl OB hstk e s'' x;rcases h with rfl|⟨rfl,rfl⟩<;>exact i0 d Zr V'' T hv hR
theorem QJ(g:G.Ok)(ho:G.K.lookup f=ac o)(hdata:o.data=.func fd)(hb:fd.body=.stmts body)(hco:fd.scope.isCoroutine=ak)(hgen:fd.scope.isGenerator=ak)(hk:fd.scope.kind=.function)(hclo:fd.closure=[])(hgl:fd.globals=ce)(hbu:fd.builtins=d7)(hcd:nR G.K fd.code fd.qualname=ai){ps:List aV}(hlen:ds.length=ps.length)(hbi:∀vs,vs.length=ps.length->i6 fd ⟨vs,[]⟩=pure (ps.zip vs))(ndp:ps.Nodup)(hkind:∀n,∀x∈ps,fd.scope.names.lookup x=ac .local\/(fd.scope.names.lookup x=ac .cell/\((cP n fd.scope.names []).lookup x).isSome=ai))(hY:∀p∈Y0,fd.scope.names.lookup p.1=ac .local/\(p.2≠.any->p∈ps.zip ds))(hc:∀n,∀p∈pR (cP n fd.scope.names []) Yc,fd.scope.names.lookup p.1.1=ac .cell/\(cP n fd.scope.names []).lookup p.1.1=ac p.1.2/\(p.2≠.any->(p.1.1,p.2)∈ps.zip ds))(nd:(Y0.map (·.1)).Nodup)(H:∀B,B.Ok G->B.k=k->B.hd=hd->B.env=fc fd B.L f->B.m0=Z0.map (·.1)->EX G B (fun zz zz=>False) (eD body B.env) Y0 (jt fd.scope.names B.L Yc++Z0) (ki Z0 R)):gf G hd (k+1) (.ref f) ds Z0 R (fun zz zz zz zz zz=>False):=E7 (EE:=fun zz zz zz=>False) g ho hdata hb hco hgen hk hclo hgl hbu hcd hlen hbi ndp hkind hY hc nd (fun zz zz zz zz zz zz zz zz zz h=>h.elim) fun B O zz zz=>H B O
theorem MT(g:G.Ok)(ho:G.K.lookup f=ac o)(hdata:o.data=.func fd)(hb:fd.body=.stmts body)(hco:fd.scope.isCoroutine=ak)(hgen:fd.scope.isGenerator=ak)(hk:fd.scope.kind=.function)(hclo:fd.closure=[])(hgl:fd.globals=ce)(hbu:fd.builtins=d7)(hcd:nR G.K fd.code fd.qualname=ai){ps:List aV}(hlen:ds.length=ps.length)(hbi:∀vs,vs.length=ps.length->i6 fd ⟨vs,[]⟩=pure (ps.zip vs))(ndp:ps.Nodup)(hkind:∀n,∀x∈ps,fd.scope.names.lookup x=ac .local\/(fd.scope.names.lookup x=ac .cell/\((cP n fd.scope.names []).lookup x).isSome=ai))(hY:∀p∈Y0,fd.scope.names.lookup p.1=ac .local/\(p.2≠.any->p∈ps.zip ds))(hc:∀n,∀p∈pR (cP n fd.scope.names []) Yc,fd.scope.names.lookup p.1.1=ac .cell/\(cP n fd.scope.names []).lookup p.1.1=ac p.1.2/\(p.2≠.any->(p.1.1,p.2)∈ps.zip ds))(nd:(Y0.map (·.1)).Nodup)(H:∀B,B.Ok G->qb B->B.k=k->B.hd=ak->B.env=fc fd B.L f->B.m0=Z0.map (·.1)->EX G B (fun e s'=>¬ok/\EF G B Z0 e s') (eD body B.env) Y0 (jt fd.scope.names B.L Yc++Z0) (ki Z0 fun d Z'=>ok/\R d Z')):jf G (k+1) (.ref f) ds Z0 R ok:=
 E7 (EE:=fun B e s'=>¬ok/\EF G B Z0 e s') g ho hdata hb hco hgen hk hclo hgl hbu hcd hlen hbi ndp hkind hY hc nd
  (fun A V s B hB O hst e s' h=>aQ (vz (E':=fun zz zz=>False) hB rfl O hst h.2) (fun zz zz x=>⟨h.1,x⟩) fun zz zz x=>x.elim)
  fun B O h1 h2=>H B O ⟨h1,h2⟩
structure df (env:Op) (x:aV) (c:aW):Prop where
 kind:env.kindOf x=ac .cell
 at_:env.cells.lookup x=ac c
theorem Ag(O:B.Ok G)(h:df B.env x c)(hm:(c,MO.cell d)∈Z)(hn:d≠.any)(hd:(x==("__debug__" : aV))=ak)(q:Q d Y Z):EV G B E (a9 (.Name x pos) B.env) Y Z Q:=by intro V s S;refine aM (S.mu _ hm) fun o xv ho hdt hv=>?_;refine ar (hv hn) fun v z1 iv=>?_;subst z1;exact N9 (wpAny_loadName_cell O.c.fn h.kind h.at_ (bq o ho hdt) ⟨d,Y,Z,V,S,.refl _,iv,q⟩) hd
theorem oJ{c:aW}{Q:Fl->aP->Mu->Prop}(O:B.Ok G)(h:EV G B E (a9 e B.env) Y Z fun d Y1 Z1=>∃d0 Z',df B.env x c/\fE c (.cell d0) (.cell d) Z1 Z'/\Q .next Y1 Z')(hs:gN e (ac (.Name x xp)) pos.line B.env=pure ak):EX G B E (fb (.Assign [.Name x xp] e pos) B.env) Y Z Q:=by intro V s S;refine Rc (WP.use h S (fun v s_1 d Y1 Z1 V_1 S_1 k_1 i_1 z3=>aM z3 fun d0 Z' hc R q=>?_)) hs;refine aM (S_1.mu _ R.mem) fun o xv ho hdt hv=>?_;refine(KP O.c.fn hc.kind hc.at_ (bq o ho hdt) fun h' hc hs=>?_);refine ar hc ?_;clear hc;intro o' ho' hd';exact⟨.next,Y1,Z',V_1,S_1.repl (t:=s_1.toks) R hs (bO o' _ ho' hd' (fun zz=>(bq v rfl i_1))),k_1,rfl,q⟩
def VD(P J:aP->Mu->Prop)(Q:Fl->aP->Mu->Prop):Fl->aP->Mu->Prop:=fun fl Y Z=>match fl with|.next=>P Y Z|.cont=>P Y Z|.brk=>J Y Z|.ret d=>Q (.ret d) Y Z
def WhI(G:G0)(B:Bx)(V:Vw)(I:Nat->aP->Mu->Prop)(n:Nat)(s:ay):Prop:=∃Y2 Z2 V',b9 (cx G B) V' Y2 Z2 s/\Kp V V'/\I n Y2 Z2
abbrev Zl(G:G0)(B:Bx)(E':aE->ay->Prop)(test:bZ)(body:List jU)(I:Nat->aP->Mu->Prop)(J:aP->Mu->Prop)(Q:Fl->aP->Mu->Prop):Prop:=∀n Y2 Z2,I n Y2 Z2->EB G B (fun zz zz=>False) (isTrue test B.env (a9 test B.env)) Y2 Z2 fun c Y3 Z3=>rL c (EX G B E' (eD body B.env) Y3 Z3 (VD (fun Y Z=>∃m,m<n/\I m Y Z) J Q)) (J Y3 Z3)
theorem uA{Q:Fl->aP->Mu->Prop}(h0:I n Y Z)(S:b9 (cx G B) V Y Z s)(hstep:Zl G B E' test body I J Q)(hend:∀Y2 Z2,J Y2 Z2->Q .next Y2 Z2)(hx:∀e s_5,E' e s_5->wS (bf G.prog G.w) B.A B.env (fun e s'=>T (.error e) s') e s_5)(hq:∀f fl Y4 Z4 V5 s_5,b9 (cx G B) V5 Y4 Z4 s_5->Kp V V5->wE G.prog G.w V5 fl f->Q fl Y4 Z4->T (.ok f) s_5):fH (bf G.prog G.w) B.A (.whileLoop test body [] B.env) T s:=by
 refine codeAny_whileLoop (WhI G B V I) (fun n s' z=>bl z fun Y2 Z2 V' S' k' hI=>aQ (hstep n Y2 Z2 hI V' s' S') (fun c s_1 z=>iI z fun c' Y3 Z3 V_1 S_1 k_1 e h=>?_) fun _ _ x=>x.elim) n (i0 Y Z V S (.refl _) h0);subst e;cases c' with|false=>exact i8 (hq .next .next _ _ _ _ S_1 (k'.trans k_1) rfl (hend _ _ (h.2 rfl)))|true=>
  refine aQ (h.1 rfl V_1 s_1 S_1) (fun f s_5 z3=>iI z3 fun fl Y4 Z4 V5 S_5 k_5 hf q=>?_) hx;have kk:=k'.trans (k_1.trans k_5);cases fl with
  |next=>obtain rfl:f=.next:=hf;exact ar q fun m hm hI=>⟨m,hm,Y4,Z4,V5,S_5,kk,hI⟩
  |cont=>obtain rfl:f=.cont:=hf;exact ar q fun m hm hI=>⟨m,hm,Y4,Z4,V5,S_5,kk,hI⟩
  |brk=>obtain rfl:f=.brk:=hf;exact hq .next .next _ _ _ _ S_5 kk rfl (hend _ _ q)
  |ret d=>refine ar hf fun v z4 hv=>?_;subst z4;exact hq (.ret v) (.ret d) _ _ _ _ S_5 kk (bq v rfl hv) q
theorem G8{Q:Fl->aP->Mu->Prop}(O:B.Ok G)(I J n)(h0:I n Y Z)(hstep:Zl G B (fun zz zz=>False) test body I J Q)(hend:∀Y2 Z2,J Y2 Z2->Q .next Y2 Z2):EX G B E (fb (.While test body [] pos) B.env) Y Z Q:=fun V s S=>wpAny_While (uA h0 S hstep hend (fun _ _ x=>x.elim) fun f fl Y4 Z4 V5 s_5 S_5 k hf hq=>⟨fl,Y4,Z4,V5,S_5,k,hf,hq⟩)
theorem DJ{ok:Prop}{Z0:Mu}{Q:Fl->aP->Mu->Prop}(O:B.Ok G)(W:qb B)(I J n)(h0:I n Y Z)(hstep:Zl G B (fun e s'=>¬ok/\XF G B.A B.V0 Z0 B.s0 B.L .none e s') test body I J Q)(hend:∀Y2 Z2,J Y2 Z2->Q .next Y2 Z2):EX G B (fun e s'=>¬ok/\EF G B Z0 e s') (fb (.While test body [] pos) B.env) Y Z Q:=fun V s S=>wpAny_While (uA h0 S hstep hend (fun e s_5 x=>aY W.fr fun l hl=>M6 hl W.frame O.nf x.2 fun s'' y=>⟨x.1,.held y⟩) fun f fl Y4 Z4 V5 s_5 S_5 k hf hq=>⟨fl,Y4,Z4,V5,S_5,k,hf,hq⟩)
theorem WP.freeze1{Q:β->aP->Mu->Prop}{x:aV}(R:N4 a mo Z Z')(e:Rt mo=ac d)(hx:CF Y x (.ptr a))(P:pF Y x d Y')(n)(hn:B.m0=(Z'.map (·.1)).drop n)(h:WP G B E rel t Y' Z' Q):WP G B E rel t Y Z Q:=by
 intro V s S;refine cX R.split fun m1 m2 z3 z4=>?_;subst z3;subst z4;have hm:=S.mu (a,mo) (aK _ (.head _));refine aY hm.at fun o ho=>?_;have nx:a∉B.m0:=fun q=>by
  rw[hn] at q;have q:=El q;have:=(av.mp S.dj).2;rw[aA,au,bC,av] at this;rw[aA] at q;rcases aJ.mp q with q|q;.exact this.2.2 _ q _ (.head _) rfl
  .exact this.2.1.1 q
 have S1:=S.freeze (S.big nx) ho;have kf:Kp V (fR V a o):=c9 (S.vm (a,mo) (aK _ (.head _)));have S2:b9 (cx G B) (fR V a o) Y' (m1++m2) s:=by
  refine ar S1.m ?_;(try clear m);intro m hns he;refine⟨(bq m hns (fun p hp=>?_)),P.keys▸S1.nd,S1.mu,S1.dj,S1.vh,S1.vL,S1.vm,S1.fr,S1.v0,S1.b0,S1.mf,S1.pr,S1.sz,S1.hk,S1.rest⟩;rcases P.mem S.nd p hp with rfl|⟨h,_⟩
  .have:=he _ hx.mem
   refine⟨this.1,fun zz=>?_⟩;refine ar (this.2 (by intro q;injection q)) fun v hv iv=>?_;refine aZ (aT.mp iv) fun z5 zz=>?_;subst z5;exact bq _ hv (sC e hm ho kf (bT _ _ _))
  .exact he p h
 exact aQ (h _ _ S2) (fun zz zz=>qK.up kf) fun zz zz x=>x
theorem Ng{a b c:DV}{Q:aP->Mu->Prop}(O:B.Ok G)(hn:B.hd=ak)(h1:pF Y x a Y1)(h2:pF Y1 y b Y2)(h3:pF Y2 z c Y3)(q:Q Y3 Z):AS G B E (.Tuple [.Name x px,.Name y py,.Name z pz] k pos) (.tup [a,b,c]) Y Z Q:=by
 intro V s v S hi;refine d1 hi ?_;clear hi;intro t o vs n z1 y26;refine oM y26 ?_;clear y26;intro ho hc zz hd u1 y27;refine mi y27 ?_;clear y27;intro zz hv iu1 u2 r y28;refine sN y28 ?_;clear y28;intro z2 iu2 u3 r3 z3 iu3 z4;subst z1;subst z2;subst z3;subst z4;have hT:s.heap.IsTuple t vs:=(dI o (S.vh _ _ ho) hc n hd)
 have hsz:vs.size=3:=by rw[<-aF,hv];rfl
 rw[yC];refine ah (cG ?_);show bd _ _ (unpack (.ref t) [(ak,assign (.Name x px) B.env),(ak,assign (.Name y py) B.env),(ak,assign (.Name z pz) B.env)]) _ _ _;unfold unpack;show bd _ _ (holding _ (rS (.ref t) 3 aq) >>= _) _ _ _;rw[<-hsz];refine ah (bG (b5 (fX (O.calm hn) hT fun h' hx hz=>?_)));rw[hv];have S1:b9 (cx G B) V Y Z {s with heap:=h'}:=(S.grow0 hx hz)
 refine ah (bG (ah (cG (c7 (gJ O S1 iu1 h1 fun s2 S2=>?_)))));refine ah (bG (ah (cG (c7 (gJ O S2 iu2 h2 fun s3 S3=>?_)))));refine ah (bG (ah (cG (c7 (gJ O S3 iu3 h3 fun s4 S4=>?_)))));exact aH ⟨(),Y3,Z,V,S4,.refl _,trivial,q⟩
theorem wb{Q:Fl->aP->Mu->Prop}(h:EV G B E (a9 e B.env) Y Z fun d Y' Z'=>AS G B E (.Tuple [.Name x px,.Name y py,.Name z pz] k tp) d Y' Z' (Q .next))(h1:nO [.Tuple [.Name x px,.Name y py,.Name z pz] k tp] e pos.line B.env=pure ak)(h2:nP [.Tuple [.Name x px,.Name y py,.Name z pz] k tp] e B.env=pure aq):EX G B E (fb (.Assign [.Tuple [.Name x px,.Name y py,.Name z pz] k tp] e pos) B.env) Y Z Q:=by intro V s S;refine Assign_Tuple (WP.use h S (fun v s_1 d Y1 Z1 V_1 S_1 k_1 i_1 hA=>?_)) h1 h2;exact aQ (hA V_1 s_1 v S_1 i_1) (fun zz s_2 z6=>iI z6 fun zz Y2 Z2 V_2 S_2 k_2 zz q=>⟨.next,Y2,Z2,V_2,S_2,k_1.trans k_2,rfl,q⟩) fun zz zz x=>x
def IK(G:G0)(ds:List DV)(V:Vw)(o:ux):Prop:=∃l,o.cls=.type "list_reverseiterator"/\o.data=.fields #[.ref l,e9 ((ds.length:Int)-1)]/\Is G.prog G.w V (.lst ds) (.ref l)
theorem sj(ds):∀V V' o,Kp V V'->IK G ds V o->IK G ds V' o:=fun V V' o k z7=>bp z7 fun l a b c=>(cB l a b (c.mono k))
theorem xt(O:B.Ok G)(q:∀a,Q (.ptr a) Y ((a,.prV (IK G ds) (sj ds))::Z)):cI G B E (.type "reversed") [.lst ds] Y Z Q:=by
 intro V s vs S hi;refine aM (aG.mp hi) ?_;clear hi;intro v1 r1 z8 i1 hi;subst z8;obtain rfl:=be.mp hi;have i1':=i1;refine bl (LS.openX (.inl rfl) S i1) fun a vs n z9 ho hL=>?_;subst z9;refine call_reversed_list (items:=vs) (dI _ ho rfl n rfl) ?_;have hsz:vs.size=ds.length:=by rw[<-aF,bb hL]
 have S1:=S.allocMu O.c (revObj a ((vs.size:Int)-1)) (.prV (IK G ds) (sj ds)) rfl ⟨_,aN _ rfl,a,rfl,by rw[hsz];rfl,i1'⟩;exact⟨_,Y,_,V,S1,.refl _,aT.mpr ⟨rfl,rfl⟩,q _⟩
theorem Je(O:B.Ok G)(hn:B.hd=ak):qF G B E (.ptr a) ds.reverse Y ((a,.prV (IK G ds) (sj ds))::Z) Z:=by
 intro V s v P S hi q;refine aZ (aT.mp hi) fun z10 zz=>?_;subst z10;refine wl (S.mu _ (.head _)) fun o ho l hc hd il=>?_;have il':=il;refine bE il' ?_;clear il';intro l' ol vs n e h1 h2 h3 h4 h5;(injection e with e;subst e);have hlen:vs.size=ds.length:=by rw[<-aF,bb h5]
 have L:∀{V':Vw}{s':ay},Kp V V'->Kp V' s'.heap.get?->s'.heap.IsList l vs:=fun k k'=>(dI ol (k' _ _ (k _ _ h1)) h2 n h4)
 refine KQ (cB o ho hc hd) ?_;let own:Nat->Mu:=fun i=>[(a,.pr fun o=>o.cls=.type "list_reverseiterator"/\o.data=.fields #[.ref l,e9 ((ds.length:Int)-1-(i:Nat))])]
 have S2:b9 (cx G B) V Y (own 0++Z) s:=S.turn (t:=s.toks) (Z1:=[]) (mo':=.pr fun o=>o.cls=.type "list_reverseiterator"/\o.data=.fields #[.ref l,e9 ((ds.length:Int)-1-((0:Nat):Int))]) (.refl _ _) (cB o ho hc (by rw[hd];simp));refine q _ own _ V S2 (.refl _) ⟨?_,?_,fun k S' q'=>by refine bp (S'.mu _ (.head _)) fun oi ho hc hdt=>?_;exact KQ (cB oi ho hc hdt) q'⟩
 .intro i d hd V' Y' Z' s' P E' k S' q'
  have hi:i<ds.length:=by have:=(cq.mp hd).1;rwa[eA] at this
  rw[List.getElem?_reverse hi] at hd;refine ar (lf h5 hd) fun u hu iu=>?_;refine bp (S'.mu _ (.head _)) fun oi ho hc hdt=>?_;have e:((ds.length:Int)-1-(i:Nat))=((ds.length-1-i:Nat):Int):=by exact YK hi
  have hdt':oi.data=.fields #[.ref l,e9 ((ds.length-1-i:Nat):Int)]:=by rw[<-e];exact hdt
  refine wpAny_pyNext_rev_item (cB oi ho hc hdt') (L k S'.vh) (by simpa using hu) fun h' hi' hs'=>q' u _ V' (S'.turn0 (mo':=.pr fun o=>o.cls=.type "list_reverseiterator"/\o.data=.fields #[.ref l,e9 ((ds.length:Int)-1-((i+1:Nat):Int))]) hs' ?_) (.refl _) (iu.mono k);refine bp hi' ?_;clear hi';intro o' a1 a2 a3;exact cB o' a1 a2 (by rw[a3,show((ds.length-1-i:Nat):Int)-1=(ds.length:Int)-1-((i+1:Nat):Int) from by exact YJ hi])
 .intro V' Y' Z' s' P E' k S' q'
  refine bp (S'.mu _ (.head _)) fun oi ho hc hdt=>?_;have hdt':oi.data=.fields #[.ref l,e9 (-1)]:=by rw[hdt,eA,show(ds.length:Int)-1-(ds.length:Nat)=-1 from by exact YI]
  exact b5 (wpAny_pyNext_rev_end (O.calm hn) (cB oi ho hc hdt') fun h' hx' hz=>q' _ V' (S'.gone hx' hz) (.refl _))
theorem Gu(O:B.Ok G)(L:LS Z d l)(q:Q (.bool l.isEmpty) Y Z):O2 G B E (Is G.prog G.w) (bi .Eq) d (.lst []) Y Z Q:=by
 intro V s a b S ia ib;refine bl (L.openX S ia) fun t vs n z14 ht hL=>?_;subst z14;refine bl (LS.openX (.inl rfl) S ib) fun u ws m z15 hu hM=>?_;subst z15;have e1:vs.size=l.length:=by rw[<-aF,bb hL]
 have e2:ws.size=0:=by rw[<-aF,bb hM];rfl
 cases l with|nil=>refine SeqAt.eq_listAt (items:=vs) (items2:=ws) (e:=fun zz=>ai) (dI _ ht rfl n rfl) (dI _ hu rfl m rfl) (e1.trans e2.symm) (by have:=O.line;exact Bu this) (fun j h1=>absurd h1 (by rw[e1];exact iJ _)) ?_;exact⟨.bool ai,Y,Z,V,S,.refl _,aT.mpr ⟨by rw[e1];rfl,rfl⟩,q⟩|cons x r=>refine SeqAt.eq_list_lengthsAt (items:=vs) (items2:=ws) (dI _ ht rfl n rfl) (dI _ hu rfl m rfl) (by rw[e1,e2];simp) (by have:=O.line;exact Bu this) ?_;exact⟨.bool ak,Y,Z,V,S,.refl _,aT.mpr ⟨rfl,rfl⟩,q⟩
theorem jr{K:Type}[DecidableEq K][DK K](O:B.Ok G)(q:Q (DK.dv ([]:List (K×DV))) Y Z):EV G B E (a9 (.Dict [] [] pos) B.env) Y Z Q:=by intro V s S;refine Ry ?_;have hD:(s.heap.push {cls:=.type "dict",data:=.dict #[]}).DictOf (DK.knd G.prog G.w (K:=K)) s.heap.objs.size []:=jj s.heap;refine ar (bc.mp hD) fun o' ho' hd'=>?_;have S1:=S.alloc O.c {cls:=.type "dict",data:=.dict #[]} rfl;have e:(s.heap.push {cls:=.type "dict",data:=.dict #[]}).get? s.heap.objs.size=ac {cls:=.type "dict",data:=.dict #[]}:=aN _ rfl;rw[e] at ho';(injection ho' with ho';subst ho');exact⟨_,Y,Z,_,S1,c9 S.fresh,DK.shut (bT _ _ _) (xV O S) hd' .nil,q⟩
theorem zp(O:B.Ok G)(q:Q (.bool l.isEmpty) Y Z):O2 G B E (Is G.prog G.w) (bi .Eq) (.tup l) (.tup []) Y Z Q:=by
 intro V s a b S ia ib;refine eB (km S ia) fun t vs n z1 zz ht hL=>?_;subst z1;refine eB (km S ib) fun u ws m z2 zz hu hM=>?_;subst z2;have e1:vs.size=l.length:=by rw[<-aF,bb hL]
 have e2:ws.size=0:=by rw[<-aF,bb hM];rfl
 refine SeqAt.eq_tupleAt (items:=vs) (items2:=ws) (e:=fun zz=>ai) (dI _ ht rfl n rfl) (dI _ hu rfl m rfl) (by have:=O.line;exact Bu this) (fun j h1 h2=>absurd h2 (by rw[e2];exact iJ _)) ?_;refine⟨.bool l.isEmpty,Y,Z,V,S,.refl _,aT.mpr ⟨?_,rfl⟩,q⟩;rw[e1,e2];cases l<;>simp
theorem kZ{K:Type}[DecidableEq K][DK K]{l:List (K×DV)}(O:B.Ok G)(D:DS Z d l)(S:b9 (cx G B) V Y Z s)(i:Is G.prog G.w V d v):∃a kvs,v=.ref a/\(a==fP)=ak/\s.heap.DictOf (DK.knd G.prog G.w (K:=K)) a kvs/\kvs.length=l.length:=by refine bU (D.open S i) fun a o kvs z3 ho lo hd hk=>?_;subst z3;exact du a kvs rfl lo (bc.mpr (bq o ho hd)) hk.length
theorem Br{K:Type}[DecidableEq K][DK K]{l:List (K×DV)}(O:B.Ok G)(D:DS Z d l)(q:Q (.bool (!l.isEmpty)) Y Z):O2 G B E (Is G.prog G.w) (bi .NotEq) d (DK.dv ([]:List (K×DV))) Y Z Q:=by
 intro V s a b S ia ib;refine bB (kZ O D S ia) fun a ka z4 la ha ea=>?_;subst z4;refine bB (kZ (l:=([]:List (K×DV))) O (.inl rfl) S ib) fun b kb z5 lb hb eb=>?_;subst z5;refine keq_ne (r:=ai) la lb ha hb (by have:=O.line;exact Bu this) (fun h=>?_) ⟨_,Y,Z,V,S,.refl _,aT.mpr ⟨rfl,rfl⟩,?_⟩
 .rw[eb] at h
  obtain rfl:=fN.mp h;exact .nil
 .have e:(!(ka.length==kb.length&&ai))=!l.isEmpty:=by rw[ea,eb];cases l<;>simp
  rw[e];exact q
theorem Bt{K:Type}[DecidableEq K][DK K]{l:List (K×DV)}(O:B.Ok G)(D:DS Z d l)(q:Q (.bool l.isEmpty) Y Z):O2 G B E (Is G.prog G.w) (bi .Eq) d (DK.dv ([]:List (K×DV))) Y Z Q:=by
 intro V s a b S ia ib;refine bB (kZ O D S ia) fun a ka z6 la ha ea=>?_;subst z6;refine bB (kZ (l:=([]:List (K×DV))) O (.inl rfl) S ib) fun b kb z7 lb hb eb=>?_;subst z7;refine keq_eq (r:=ai) la lb ha hb (by have:=O.line;exact Bu this) (fun h=>?_) ⟨_,Y,Z,V,S,.refl _,aT.mpr ⟨rfl,rfl⟩,?_⟩
 .rw[eb] at h
  obtain rfl:=fN.mp h;exact .nil
 .have e:(ka.length==kb.length&&ai)=l.isEmpty:=by rw[ea,eb];cases l<;>simp
  rw[e];exact q
theorem Ge{K:Type}[DecidableEq K]{l:List (K×DV)}{k:K}(h:kr l k=aq):xd l k=l:=by unfold kr at h;unfold xd;rw[AJ,kT] at h;rw[List.filter_eq_self];intro a ha;have:=h a ha;simpa using this
theorem fE.same(R:fE a mo mo Z Z'):Z'=Z:=by induction R with|head=>rfl|tail _ ih=>rw[ih]
theorem D3{K:Type}[DecidableEq K][DK K]{l:List (K×DV)}{k:K}{dflt:DV}(R:fE a (DK.mo l) (DK.mo (xd l k)) Z Z')(hl:l.length<=1000000)(q:Q ((kr l k).getD dflt) Y Z'):cI G B E (.builtin "dict.pop") ([.ptr a]++[DK.key k,dflt]) Y Z Q:=by
 intro V s vs S hi;refine aM (aG.mp hi) ?_;clear hi;intro v zz z8 iv hi;subst z8;refine aM (aG.mp hi) ?_;clear hi;intro kv zz z9 ik hi;subst z9;refine aM (aG.mp hi) ?_;clear hi;intro dv zz z10 idf hi;subst z10;obtain rfl:=be.mp hi;refine aZ (aT.mp iv) fun z11 zz=>?_;subst z11;refine bB (DK.moOpen (S.mu _ R.mem)) fun o kvs ho lo hd hk=>?_;have hD:s.heap.DictOf (DK.knd G.prog G.w (K:=K)) a kvs:=bc.mpr (bq o ho hd);cases h:kr l k with
 |some d=>refine ar (hk.some h) fun u hu iu=>?_;rw[h] at q;refine qe nG hD.typeIs mE (xz _ _ _) (KY _ a (DK.is ik) [dv] (.inr ⟨_,rfl⟩) (DK.part ik)) (du kvs u hD (by rw[hk.length];exact ae hl (by decide)) hu (fun h' hD' hs=>?_));refine ar (bc.mp hD') fun o' ho' hd'=>?_;exact⟨d,Y,Z',V,S.repl R hs (DK.moShut ho' lo hd' hk.rem),.refl _,iu,q⟩
 |none=>
  rw[h] at q;obtain rfl:Z'=Z:=by rw[Ge h] at R;exact R.same
  exact qe nG hD.typeIs mE (xz _ _ _) (meets_dict_pop_default _ a (DK.is ik) lo (DK.part ik) dv) (cB kvs hD (hk.none h) ⟨dflt,Y,_,V,S.sat_toks _,.refl _,idf,q⟩)
theorem GX{x:fy}(r:qH h v x as)(hx:a6 x=ai){A:fQ}(hu:A.units+100<K1)(hs:s.heap=h):∃e,∀{vs:List aE}{xs:List fy}{bs:List aW},CO h vs xs bs->(∀y∈xs,a6 y=ai)->(∀y∈vs,nF A.in1 s y v (e y))/\vs.map e=xs.map fun y=>a8 y x:=by
 classical
 refine⟨fun y=>decide (∃d as,qH h y d as/\d.canLay0=ai/\a8 d x=ai),fun {vs xs bs} ra hsx=>?_⟩;have key:∀y d as,qH h y d as->d.canLay0=ai->decide (∃d as,qH h y d as/\d.canLay0=ai/\a8 d x=ai)=a8 d x:=fun y d as rd hd=>by cases q:a8 d x with|true=>exact decide_eq_true (bO d as rd hd q)|false=>refine decide_eq_false ?_;rintro ⟨d',as',rd',hd',q'⟩;rw[yD d d' y as as' hd rd rd'] at q;rw[q] at q';injection q'
 constructor
 .intro y hy
  refine cX ((te ra).2 y hy) fun d as hd rd=>?_;show nF A.in1 s y v (decide (∃d as,qH h y d as/\d.canLay0=ai/\a8 d x=ai));rw[key y d as rd (nE (hsx d hd))];subst hs;exact keq_at rd r (hsx d hd) hx (by show A.units+1+64<K1;exact ZY hu)
 .exact yu key ra hsx
theorem D1{x:fy}{j:Nat}(O:B.Ok G)(L:LS Z d l)(P:pd d'=ac x)(hl:Bn l=ac xs)(hx:a6 x=ai)(hxs:∀y∈xs,a6 y=ai)(hj:j<1000000)(hit:(xs.map fun y=>a8 y x)[j]?=ac ai)(hno:∀m,m<j->(xs.map fun y=>a8 y x)[m]?=ac ak)(q:Q (.int j) Y Z):cI G B E (.builtin "list.index") ([d]++[d']) Y Z Q:=by
 intro V s vs S hi;refine aM (aG.mp hi) ?_;clear hi;intro v1 zz z12 i1 hi;subst z12;refine aM (aG.mp hi) ?_;clear hi;intro v2 zz z13 i2 hi;subst z13;obtain rfl:=be.mp hi;refine aY (lV S.vh d' x v2 P i2) fun as ra=>?_;refine bl (L.openX S i1) fun t vs n z14 ht hL=>?_;subst z14;refine aY (iC S.vh l xs _ hl hL) fun bs rb=>?_;refine aY (GX ra hx (A:=B.A) O.line rfl) fun e he=>?_;refine aZ (he rb hxs) fun h1 h2=>?_;rw[<-h2] at hit hno;have at_:∀{m:Nat}{b:Bool},(vs.toList.map e)[m]?=ac b->∃h,e vs[m]=b:=fun {m b} h=>by rw[bj] at h;refine ar (aD.mp h) fun y hy e'=>?_;rw[dg] at hy;obtain⟨hm,hy⟩:=kP.mp hy;exact⟨hm,by rw[hy];exact e'⟩
 obtain⟨hj',hit'⟩:=at_ hit;refine qf PySem.F.slot_list_index (bq _ ht rfl) PySem.F.entry_list_index (PySem.F.args_list_index_2 _ _) (SeqAt.list_indexAt t vs n aq #[] v2 e j hj' (YH hj) hit' (fun m hm hmj=>(at_ (hno m hmj)).2)) ⟨ht,fun y hy=>h1 y (by simpa using hy),_,Y,Z,V,S.sat_toks _,.refl _,bA.mpr ⟨_,rfl⟩,q⟩
theorem My{P:Prop}{sub:List aE}{newId:String}{Y':aP}{Z':Mu}{Q:Fl->aP->Mu->Prop}(O:B.Ok G)(W:qb B)(F:Ee G 59 nm q N bs bm sub k0 k1 k2 k3 k5 newId)(hg:bY G x (.ptr 59))(hx:B.env.kindOf x=ac .globalImplicit)(hdbg:(x==("__debug__" : aV))=ak)(h:∀B_1,B_1.Ok G->B_1.env=B.env->B_1.k=B.k->B_1.hd=B.hd->B_1.m0=Z.map (·.1)->EX G B_1 (fun e s'=>P/\CE G B_1 Y' Z' e s') (eD body B_1.env) Y Z Q)(hc:P->∀B',B'.Ok G->B'.env=B.env->B'.k=B.k->B'.hd=ai->B'.m0=Z'.map (·.1)->EX G B' (fun zz zz=>False) (eD (b_0::suite) B'.env) Y' Z' Q):EX G B E (fb (.Try body [.ExceptHandler (ac (.Name x xp)) aq (b_0::suite) hp] [] [] pos) B.env) Y Z Q:=by
 by_cases hP:P;.exact JA O W F hg hx hdbg (fun B_1 a b c d e=>(h B_1 a b c d e).exc fun zz zz x=>x.2) (hc hP)
 intro V s S;have O_1:(CC B V Z s).Ok G:=O.re S;refine Rx (aQ (h (CC B V Z s) O_1 rfl rfl rfl rfl V s S.rebase) (fun f s_1 z1=>iI z1 fun fl Y1 Z1 V_1 S_1 k_1 hf hq=>?_) fun e s_1 hce=>absurd hce.1 hP);have S_1:=S.unbase S_1;cases fl with
 |next=>obtain rfl:f=.next:=hf;exact i8 ⟨.next,Y1,Z1,V_1,S_1,k_1,rfl,hq⟩
 |cont=>obtain rfl:f=.cont:=hf;exact⟨.cont,Y1,Z1,V_1,S_1,k_1,rfl,hq⟩
 |brk=>obtain rfl:f=.brk:=hf;exact⟨.brk,Y1,Z1,V_1,S_1,k_1,rfl,hq⟩
 |ret d=>refine ar hf ?_;clear hf;intro v z2 hv;subst z2;exact⟨.ret d,Y1,Z1,V_1,S_1,k_1,(bq v rfl hv),hq⟩
theorem zB:Oa (.type "list") (aa "keys")=pure aq:=by rw[VS,KB];kernel_rfl
theorem vA{Q:Option aE->ay->Prop}(hx:s.heap.get? a=ac {cls:=.type "list",dict:=aq,data:=.seq xs k,slots:=#[]})(hA:A.handled=aq)(h:∀h' tk e,Heap.NewExcOf s.heap h' e "AttributeError"->Q aq {s with heap:=h',toks:=tk}):bd (bf prog w) A (wT (.ref a) (aa "keys")) Q E s:=by
 obtain⟨hp,g,d,tk,os⟩:=s;have hT:∀tk',(⟨hp,g,d,tk',os⟩:ay).TypeIs (.ref a) "list":=fun zz=>(bq _ hx rfl)
 have f1:=sub_AttributeError;have f3:=jh.lookup;have f4:=jh.bind (.ref a);have f5:=am_list_getattr_none;unfold wT getAttrBy? RE;repeat(any_goals (first|assumption|exact hT _|((with_reducible show bd _ _ (call (Value.builtin "list.__getattribute__") _ _) _ _ _);refine qf jh (hT _) am_entry_list_getattribute (PySem.F.args_list_getattribute_2 _ _) (meets_getattribute_miss_list a xs k #[] (aa "keys") _ zB (by decide +kernel)) (jR hx hA (fun h' tk' e hx'=>?_)))|wp_step))
 refine g5 hx'.there fun t' u' he=>?_;show bd _ _ (Oi _ _ _ _ _ _ _) _ _ _;unfold Oi;repeat(any_goals (first|assumption|wp_step))
 exact h _ _ _ hx'.of
theorem lq:WY table "dict.update.loop" = ac gS.«dict.update.loop»:=RG (by kernel_rfl)
theorem ge:plainId "dict.update.loop" = ai:=by decide +kernel
theorem ue{x:DV}(O:B.Ok G)(hn:B.hd=ak)(q:Q (.sdic [(k,x)]) Y Z):cI G B E (.type "dict") [.lst [.tup [.str k,x]]] Y Z Q:=by
 intro V s vs S hi;refine aM (aG.mp hi) ?_;clear hi;intro v1 r1 z1 i1 hi;subst z1;obtain rfl:=be.mp hi;refine bl (LS.openX (.inl rfl) S i1) fun l ls n z2 hl hL=>?_;subst z2;have hA:=O.calm hn;refine callType_codes (Q₁:=fun obj s_1=>obj=.ref s.heap.objs.size/\s_1={s with heap:=s.heap.push {cls:=.type "dict",data:=.dict #[]}}) PySem.F.kt_called_dict (PySem.F.kt_typeCall_dict_1 _) PySem.F.entry_dict_init (kt_code_dict_new _ ⟨rfl,rfl⟩) ?_;rintro obj s_1 ⟨rfl,rfl⟩;have hnew:(s.heap.push {cls:=.type "dict",data:=.dict #[]}).DictOf (DK.knd G.prog G.w (K:=aV)) s.heap.objs.size []:=jj s.heap;refine ar (bc.mp hnew) fun o0 ho0 hd0=>?_;have S1:b9 (cx G B) V Y ((s.heap.objs.size,.sdic [])::Z) {s with heap:=s.heap.push {cls:=.type "dict",data:=.dict #[]}}:=S.allocMu O.c _ _ rfl (DK.moShut (K:=aV) (l:=[]) ho0 (xV O S) hd0 .nil);refine jR hnew.typeIs (PySem.F.args_dict_init_2 _ _) ?_;unfold gS.«dict.__init__»;refine ah ?_;unfold Wm;refine ah (wpAny_notOrdered_dict hnew.typeIs ?_);show bd _ _ (pure (s.heap.objs.size,[cs l])) _ _ _;refine aH ?_;show bd _ _ (tN "dict.__init__" s.heap.objs.size (.ref l) [] .none) _ _ _;unfold tN;have hl1:(s.heap.push {cls:=.type "dict",data:=.dict #[]}).get? l=ac {cls:=.type "list",dict:=aq,data:=.seq ls n,slots:=#[]}:=aX _ hl;refine ah (wQ (T:="list") (bq _ hl1 rfl) ?_);rw[if_pos (by decide)];refine ah (b5 (vA hl1 hA fun h' tk e X hz=>?_));rw[if_pos (show(aq:Option aE).isNone=ai from rfl)];refine ah (qd ?_);have S2:=S1.grow0 (t:=tk) (fun b o zz e'=>X.keeps b o e') hz;have hl2:=X.keeps _ _ hl1;refine ah (wR (items:=ls) (dI _ hl2 rfl n rfl) ?_);have S3:=S2.allocMu O.c {cls:=.type "list_iterator",data:=.fields #[.ref l,.int 0 0]} (.pr fun o=>o.cls=.type "list_iterator"/\o.data=.fields #[.ref l,.int 0 0]) rfl (cB _ (aN _ rfl) rfl rfl);have hl3:(h'.push {cls:=.type "list_iterator",data:=.fields #[.ref l,.int 0 0]}).get? l=ac {cls:=.type "list",dict:=aq,data:=.seq ls n,slots:=#[]}:=aX _ hl2;refine aH ⟨nQ ge _,ja lq ?_⟩;rw[jQ ge _];refine aM (aG.mp hL) fun u rs e1 iu hr=>?_;obtain rfl:=be.mp hr;refine eB (km S3 iu) fun ta us m z3 zz hta hU=>?_;subst z3;refine aM (aG.mp hU) ?_;clear hU;intro kv r1 e2 ik hU;refine aM (aG.mp hU) ?_;clear hU;intro xv r2 z4 ix hU;subst z4;obtain rfl:=be.mp hU;unfold gS.«dict.update.loop»;refine ah (HP (i:=0) (l:=l) (items:=ls) (cB _ (aN _ rfl) rfl rfl) (dI _ hl3 rfl n rfl) (x:=.ref ta) (by rw[<-dg,e1];rfl) fun h4 hi4 hs4=>?_);have S4:=S3.turn0 (t:=tk) (mo':=.pr fun o=>o.cls=.type "list_iterator"/\o.data=.fields #[.ref l,.int (0+1:Nat) 0]) hs4 hi4;have nlI:l≠h'.objs.size:=bP (aR hl2);have ntI:ta≠h'.objs.size:=fun q=>by subst q;rw[aN _ rfl] at hta;exact absurd (congrArg (fun o:Option ux=>o.map (·.cls)) hta) (by simp)
 have hl4:=(hs4.2 l nlI).trans hl3;have hta4:=(hs4.2 ta ntI).trans hta;refine ah (bG (ah (wpAny_tryCatch ?_)));unfold Wn;refine ah (wQ (T:="tuple") (bq _ hta4 rfl) ?_);rw[if_pos (by decide)];refine ah (WL hta4 rfl ?_);refine aH ?_;rw[show((ac us).getD #[]).toList=[kv,xv] from e2];refine bB (DK.moOpen (K:=aV) (l:=[]) (S4.mu (s.heap.objs.size,.sdic []) (.tail _ (.head _)))) fun o4 kvs4 ho4 lo4 hd4 hk4=>?_;have hD4:h4.DictOf (DK.knd G.prog G.w (K:=aV)) s.heap.objs.size _:=bc.mpr (bq o4 ho4 hd4);have e0:=hk4.length;refine bG (wpAny_dictSet_pairs (DK.is (K:=aV) ik) hD4 (fun h5 hD5 hs5=>?_) (hsz:=by rw[e0];exact a7 _));refine ar (bc.mp hD5) fun o5 ho5 hd5=>?_;have S5:=b9.turn (t:=tk+1) (mo':=.sdic [(k,x)]) (Z1:=[_]) S4 hs5 (DK.moShut (K:=aV) (l:=[(k,x)]) ho5 lo4 hd5 (hk4.put ix));have nD:l≠s.heap.objs.size:=bP (aR hl);have hl5:=(hs5.2 l nD).trans hl4;refine bp (S5.mu _ (.head _)) fun oi hoi hci hdi=>?_;refine aH ⟨nQ ge _,ja lq ?_⟩;rw[jQ ge _];unfold gS.«dict.update.loop»;refine ah (b5 (wpAny_pyNext_list_end (A:=B.A.in1.in1) (i:=1) (l:=l) (items:=ls) hA (cB oi hoi hci hdi) (dI _ hl5 rfl n rfl) (by rw[<-dg,e1];rfl) fun h6 hx6 hz6=>?_));have S6:=S5.gone (t:=tk+1) hx6 hz6;refine aY ((S6.mu _ (.head _)).at) fun oD hoD=>?_;have S7:=S6.freeze (Z1:=[]) S.sz hoD;refine ah (aH (aH ⟨rfl,_,Y,Z,_,S7,c9 (S6.vm _ (.head _)),?_,q⟩));exact sC (mo:=.sdic [(k,x)]) rfl (S6.mu _ (.head _)) hoD (c9 (S6.vm _ (.head _))) (bT _ _ _)
theorem pn{i j:Int}(h0:j≠0)(hj:j.natAbs<1073741824)(q:Q (.int (i.fdiv j)) Y Z):O2 G B E (Is G.prog G.w) (fJ .FloorDiv) (.int i) (.int j) Y Z Q:=by intro V s a b S ia ib;refine aY (bA.mp ia) fun t z2=>?_;subst z2;refine aY (bA.mp ib) fun u z1=>?_;subst z1;exact floordiv_int h0 ⟨_,Y,Z,V,S.sat_toks _,.refl _,bA.mpr ⟨_,rfl⟩,q⟩ (.inl (PyProof.noPylong_small hj))
theorem kY{i j:Int}(h0:j≠0)(q:Q (.int (i.fmod j)) Y Z):O2 G B E (Is G.prog G.w) (fJ .Mod) (.int i) (.int j) Y Z Q:=by intro V s a b S ia ib;refine aY (bA.mp ia) fun t z4=>?_;subst z4;refine aY (bA.mp ib) fun u z3=>?_;subst z3;exact mod_int' h0 ⟨_,Y,Z,V,S.sat_toks _,.refl _,bA.mpr ⟨_,rfl⟩,q⟩
theorem jH{i j:Int}(h:i.natAbs<2 ^ 60):W7 i j:=by
 refine IntMulOk.of_left ?_;unfold Xa;split;.exact YG
 .rename_i h0
  have h1:i≠0:=by simpa using h0
  have:=(Nat.log2_lt (YF h1:i.natAbs≠0)).mpr h;exact IY this rfl
theorem so{i j:Int}(h:W7 i j)(q:Q (.int (i*j)) Y Z):O2 G B E (Is G.prog G.w) (fJ .Mult) (.int i) (.int j) Y Z Q:=by intro V s a b S ia ib;refine aY (bA.mp ia) fun t z6=>?_;subst z6;refine aY (bA.mp ib) fun u z5=>?_;subst z5;exact mul_int ⟨_,Y,Z,V,S.sat_toks _,.refl _,bA.mpr ⟨_,rfl⟩,q⟩ h
theorem Pc{i j:Int}(hn:0<=j)(hn2:j<=1000000)(ha:i.natAbs<2 ^ 64)(q:Q (.int (i ^ j.toNat)) Y Z):O2 G B E (Is G.prog G.w) (fJ .Pow) (.int i) (.int j) Y Z Q:=by intro V s a b S ia ib;refine aY (bA.mp ia) fun t z8=>?_;subst z8;refine aY (bA.mp ib) fun u z7=>?_;subst z7;exact pow_int_small hn hn2 ha ⟨_,Y,Z,V,S.sat_toks _,.refl _,bA.mpr ⟨_,rfl⟩,q⟩
theorem Kg{i:Int}(q:Q (.int (if i<0 then -i else i)) Y Z):cI G B E (.builtin "abs") [.int i] Y Z Q:=by intro V s vs S hi;refine aM (aG.mp hi) ?_;clear hi;intro v1 r1 z9 i1 hi;subst z9;obtain rfl:=be.mp hi;refine aY (bA.mp i1) fun t z10=>?_;subst z10;exact call_abs_int fun u tk=>⟨_,Y,Z,V,S.sat_toks _,.refl _,bA.mpr ⟨_,rfl⟩,q⟩
theorem Kf{i:Int}(q:Q (.int i) Y Z):cI G B E (.type "int") [.int i] Y Z Q:=by intro V s vs S hi;refine aM (aG.mp hi) ?_;clear hi;intro v1 r1 z11 i1 hi;subst z11;obtain rfl:=be.mp hi;refine aY (bA.mp i1) fun t z12=>?_;subst z12;exact call_int_int ⟨_,Y,Z,V,S,.refl _,bA.mpr ⟨_,rfl⟩,q⟩
theorem oR(L:LS Z d l)(hl:l.length<=1000000)(q:Q (.int l.length) Y Z):cI G B E (.builtin "len") [d] Y Z Q:=by
 intro V s vs S hi;refine aM (aG.mp hi) ?_;clear hi;intro v1 r1 z13 i1 hi;subst z13;obtain rfl:=be.mp hi;refine bl (L.openX S i1) fun t xs n z14 ht hL=>?_;subst z14;have e:xs.size=l.length:=by rw[<-aF,bb hL]
 refine call_len_list (items:=xs) (dI _ ht rfl n rfl) (by rw[e];exact TX hl) ?_;rw[e];exact⟨_,Y,Z,V,S.sat_toks _,.refl _,bA.mpr ⟨_,rfl⟩,q⟩
def se(lo hi:Option Int)(o:ux):Prop:=o.cls=.type "slice"/\∃vl vu,o.data=.fields #[vl,vu,.none]/\IsPart vl lo/\IsPart vu hi
theorem tB(O:B.Ok G)(h:EV G B E (a9 u B.env) Y Z fun d Y1 Z1=>∃i,d=.int i/\∀a,Q (.ptr a) Y1 ((a,.pr (se aq (ac i)))::Z1)):EV G B E (a9 (.Slice aq (ac u) aq pos) B.env) Y Z Q:=by intro V s S;refine wpAny_Slice (tI (tH (WP.use h S (fun v s_1 d Y1 Z1 V_1 S_1 k_1 i_1 z16=>ar z16 fun i e q=>?_))));subst e;refine aY (bA.mp i_1) fun t z17=>?_;subst z17;exact tI ⟨_,Y1,_,V_1,S_1.allocMu O.c _ (.pr (se aq (ac i))) rfl ⟨_,aN _ rfl,rfl,_,_,rfl,.none,.int i t⟩,k_1,aT.mpr ⟨rfl,rfl⟩,q _⟩
theorem BZ(O:B.Ok G)(h:EV G B E (a9 l B.env) Y Z fun d Y1 Z1=>∃i,d=.int i/\EV G B E (a9 u B.env) Y1 Z1 fun d Y2 Z2=>∃j,d=.int j/\∀a,Q (.ptr a) Y2 ((a,.pr (se (ac i) (ac j)))::Z2)):EV G B E (a9 (.Slice (ac l) (ac u) aq pos) B.env) Y Z Q:=by intro V s S;refine wpAny_Slice (tH (WP.use h S (fun v s_1 d Y1 Z1 V_1 S_1 k_1 i_1 z21=>ar z21 fun i e h₁=>tH (WP.use h₁ S_1 (fun v s_2 d Y2 Z2 V_2 S_2 k_2 i_2 z19=>ar z19 fun j e_2 q=>?_)))));subst e e_2;refine aY (bA.mp i_1) fun t z22=>?_;subst z22;refine aY (bA.mp i_2) fun t' z23=>?_;subst z23;exact tI ⟨_,Y2,_,V_2,S_2.allocMu O.c _ (.pr (se (ac i) (ac j))) rfl ⟨_,aN _ rfl,rfl,_,_,rfl,.int i t,.int j t'⟩,k_1.trans k_2,aT.mpr ⟨rfl,rfl⟩,q _⟩
noncomputable def Bl(l:List DV)(lo hi:Option Int):List DV:=(uw (fG lo hi aq l.length).1 (fG lo hi aq l.length).2.1 (fG lo hi aq l.length).2.2).filterMap (l[·]?)
theorem Ji(h:Mine.gO G.prog G.w V l vs):∀js:List Nat,Mine.gO G.prog G.w V (js.filterMap (l[·]?)) (js.filterMap (vs[·]?)):=by
 intro p0_;induction p0_ with|nil=>exact be.mpr rfl|cons j js ih=>
  have ih:=ih;cases hn:l[j]? with
  |some n=>refine ar (lf h hn) fun v hv iv=>?_;simp only[fK,hn,hv];exact aG.mpr (bO _ _ rfl iv ih)
  |none=>
   have hv:vs[j]?=aq:=by rw[gW] at hn ⊢;rw[bb h];exact hn
   simp only[fK,hn,hv];exact ih
theorem qi{lo hi:Option Int}(O:B.Ok G)(D:LS Z d l)(hl:l.length<=1000000)(q:Q (.lst (Bl l lo hi)) Y Z)(hs:∀o i,∃ops,rT slice ak o i=HS ops (HW o i)):O2 G B E (Is G.prog G.w) (i5 value slice) d (.ptr a) Y ((a,.pr (se lo hi))::Z) Q:=by
 intro V s va vb S ia ib;refine aZ (aT.mp ib) fun z24 zz=>?_;subst z24;refine bl (D.openX S.drop ia) fun t xs n z25 ht hL=>?_;subst z25;refine DN (S.mu (a,.pr (se lo hi)) (.head _)) fun o ho hc vl vu hd pl pu=>?_;have hLi:s.heap.IsList t xs:=(dI _ ht rfl n rfl)
 have e:xs.size=l.length:=by rw[<-aF,bb hL]
 refine WM hLi.typeIs Re.lookup (wpAny_getItem_list_slice hLi (cB o ho hc hd) pl pu .none (by simp) ?_ (by rw[e];exact ae hl (by decide))) (hs _ _).choose_spec;have S1:=S.drop.alloc O.c {cls:=.type "list",data:=.seq (HD xs lo hi aq)} rfl;refine⟨_,Y,Z,_,S1,c9 S.drop.fresh,?_,q⟩;show Exists _;refine cJ _ _ (HD xs lo hi aq) 0 rfl (bT _ _ _) rfl ⟨rfl,rfl⟩ rfl ?_;have e2:(HD xs lo hi aq).toList=(uw (fG lo hi aq l.length).1 (fG lo hi aq l.length).2.1 (fG lo hi aq l.length).2.2).filterMap (xs.toList[·]?):=by unfold HD;rw[e];simp
 rw[e2];exact Ji (hL.mono (c9 S.drop.fresh)) _
theorem Gk(O:B.Ok G)(L:LS Z d l)(q:Q (.bool (!l.isEmpty)) Y Z):O2 G B E (Is G.prog G.w) (bi .NotEq) d (.lst []) Y Z Q:=by
 intro V s a b S ia ib;refine bl (L.openX S ia) fun t vs n z1 ht hL=>?_;subst z1;refine bl (LS.openX (.inl rfl) S ib) fun u ws m z2 hu hM=>?_;subst z2;have e1:vs.size=l.length:=by rw[<-aF,bb hL]
 have e2:ws.size=0:=by rw[<-aF,bb hM];rfl
 cases l with|nil=>refine VX (items:=vs) (items2:=ws) (e:=fun zz=>ai) (dI _ ht rfl n rfl) (dI _ hu rfl m rfl) (e1.trans e2.symm) (by have:=O.line;exact Bu this) (fun j h1=>absurd h1 (by rw[e1];exact iJ _)) _ _ _ _ ?_;exact⟨.bool ak,Y,Z,V,S,.refl _,aT.mpr ⟨by rw[e1];rfl,rfl⟩,q⟩|cons x r=>refine VW (items:=vs) (items2:=ws) (dI _ ht rfl n rfl) (dI _ hu rfl m rfl) (by rw[e1,e2];simp) (by have:=O.line;exact Bu this) _ _ _ _ ?_;exact⟨.bool ai,Y,Z,V,S,.refl _,aT.mpr ⟨rfl,rfl⟩,q⟩
def N3(x y:aV)(Q:Fl->aP->Mu->Prop):DV->aP->Mu->Prop:=fun d Y' Z'=>∃a b Y1 Y2,d=.tup [a,b]/\pF Y' y b Y1/\pF Y1 x a Y2/\Q .next Y2 Z'
theorem Ev{Q:Fl->aP->Mu->Prop}{a b:DV}(h1:pF Y y b Y1)(h2:pF Y1 x a Y2)(q:Q .next Y2 Z):N3 x y Q (.tup [a,b]) Y Z:=(fF a b Y1 Y2 rfl h1 h2 q)
theorem g8{Q:Fl->aP->Mu->Prop}(O:B.Ok G)(hn:B.hd=ak)(h:EV G B E (a9 e B.env) Y Z (N3 x y Q))(h1:nO [.Tuple [.Name x px,.Name y py] k tp] e pos.line B.env=pure ak)(h2:nP [.Tuple [.Name x px,.Name y py] k tp] e B.env=pure (ac [x,y])):EX G B E (fb (.Assign [.Tuple [.Name x px,.Name y py] k tp] e pos) B.env) Y Z Q:=by
 intro V s S;refine Le (WP.use h S (fun v s_1 d Y1 Z1 V_1 S_1 k_1 i_1 z4=>d9 z4 fun a b Y2 Y3 ed p1 p2 q=>?_)) h1 h2;subst ed;refine d1 i_1 ?_;clear i_1;intro t o vs n z5 y1;refine oM y1 ?_;clear y1;intro ho hc zz hd u1 y2;refine mi y2 ?_;clear y2;intro zz hv iu1 u2 r y3;refine jK y3 ?_;clear y3;intro z6 iu2 z7;subst z5;subst z6;subst z7;have hT:s_1.heap.IsTuple t vs:=(dI o (S_1.vh _ _ ho) hc n hd)
 have hsz:vs.size=2:=by rw[<-aF,hv];rfl
 show bd _ _ (rS (.ref t) 2 aq) _ _ _;rw[<-hsz];refine b5 (fX (O.calm hn) hT fun h' hx hz=>?_);rw[hv];have S2:b9 (cx G B) V_1 Y1 Z1 {s_1 with heap:=h'}:=S_1.grow0 hx hz;refine ah (bG (c7 (gJ O S2 iu2 p1 fun s3 S3=>?_)));refine ah (bG (c7 (gJ O S3 iu1 p2 fun s4 S4=>?_)));exact aH ⟨.next,Y3,Z1,V_1,S4,k_1,rfl,q⟩
def N2(x y z:aV)(Q:Fl->aP->Mu->Prop):DV->aP->Mu->Prop:=fun d Y' Z'=>∃a b c Y1 Y2 Y3,d=.tup [a,b,c]/\pF Y' z c Y1/\pF Y1 y b Y2/\pF Y2 x a Y3/\Q .next Y3 Z'
theorem SY{Q:Fl->aP->Mu->Prop}{a b c:DV}(h1:pF Y z c Y1)(h2:pF Y1 y b Y2)(h3:pF Y2 x a Y3)(q:Q .next Y3 Z):N2 x y z Q (.tup [a,b,c]) Y Z:=⟨a,b,c,Y1,Y2,Y3,rfl,h1,h2,h3,q⟩
theorem t9{Q:Fl->aP->Mu->Prop}(O:B.Ok G)(hn:B.hd=ak)(h:EV G B E (a9 e B.env) Y Z (N2 x y z Q))(h1:nO [.Tuple [.Name x px,.Name y py,.Name z pz] k tp] e pos.line B.env=pure ak)(h2:nP [.Tuple [.Name x px,.Name y py,.Name z pz] k tp] e B.env=pure (ac [x,y,z])):EX G B E (fb (.Assign [.Tuple [.Name x px,.Name y py,.Name z pz] k tp] e pos) B.env) Y Z Q:=by
 intro V s S;refine Le (WP.use h S (fun v s_1 d Y1 Z1 V_1 S_1 k_1 i_1 z9=>ei z9 fun a b c Y2 Y3 y4=>JX y4 fun Y4 ed p1 p2 p3 q=>?_)) h1 h2;subst ed;refine d1 i_1 ?_;clear i_1;intro t o vs n z10 y5;refine oM y5 ?_;clear y5;intro ho hc zz hd u1 y6;refine mi y6 ?_;clear y6;intro zz hv iu1 u2 r y7;refine sN y7 ?_;clear y7;intro z11 iu2 u3 r3 z12 iu3 z13;subst z10;subst z11;subst z12;subst z13;have hT:s_1.heap.IsTuple t vs:=(dI o (S_1.vh _ _ ho) hc n hd)
 have hsz:vs.size=3:=by rw[<-aF,hv];rfl
 show bd _ _ (rS (.ref t) 3 aq) _ _ _;rw[<-hsz];refine b5 (fX (O.calm hn) hT fun h' hx hz=>?_);rw[hv];have S2:b9 (cx G B) V_1 Y1 Z1 {s_1 with heap:=h'}:=S_1.grow0 hx hz;refine ah (bG (c7 (gJ O S2 iu3 p1 fun s3 S3=>?_)));refine ah (bG (c7 (gJ O S3 iu2 p2 fun s4 S4=>?_)));refine ah (bG (c7 (gJ O S4 iu1 p3 fun s5 S5=>?_)));exact aH ⟨.next,Y4,Z1,V_1,S5,k_1,rfl,q⟩
theorem Ck(R:fE a (.lst l) (.lst (l++l')) Z Z')(D:LS Z d l')(hl:l.length+l'.length<=1000000)(q:Q .none Y Z'):cI G B E (.builtin "list.extend") ([.ptr a]++[d]) Y Z Q:=by
 intro V s vs S hi;refine aM (aG.mp hi) ?_;clear hi;intro v1 r1 z14 i1 hi;subst z14;refine aM (aG.mp hi) ?_;clear hi;intro v2 r2 z15 i2 hi;subst z15;obtain rfl:=be.mp hi;refine bl (LS.openX (.inr (bq _ rfl R.mem)) S i1) fun a vs n z16 ho hL=>?_;subst z16;refine aZ (aT.mp i1) fun e zz=>?_;(injection e with e;subst e);refine bl (D.openX S i2) fun b ws m z17 hb hM=>?_;subst z17;have e1:vs.size=l.length:=by rw[<-aF,bb hL]
 have e2:ws.size=l'.length:=by rw[<-aF,bb hM]
 have hsz:vs.size+ws.size<=fY:=by rw[e1,e2];exact ae hl (by decide)
 refine aY (wX (o:={cls:=.type "list",dict:=aq,data:=.seq vs n,slots:=#[]}) rfl (fun xs=>xs++ws)) fun n' hd'=>?_;refine qf PySem.F.slot_list_extend (bq _ ho rfl) PySem.F.entry_list_extend (PySem.F.args_list_extend_2 _ _) (AutoSeq1.list_extend_list_list_0 a vs n b ws m (extend_door hsz) (ae (cg _ _) hsz) (mw hsz)) ⟨ho,hb,.none,Y,Z',V,S.repl (t:=s.toks) R (cV ..) ?_,.refl _,aT.mpr ⟨rfl,rfl⟩,q⟩;refine cZ _ (vs++ws) n' (cp _ ho (rZ hd')) (yI ..) ⟨rfl,rfl⟩ hd' ?_;rw[qh];exact kJ hL hM
structure N6 (G:G0) (V':Vw) (s s':ay) (new:Mu):Prop where
 mu:∀p∈new,ju G.prog G.w V' s'.heap.get? p.1 p.2
 vm:∀p∈new,V' p.1=aq
 big:∀p∈new,s.heap.objs.size<=p.1
 nd:(new.map (·.1)).Nodup
def qa(G:G0)(hd:Bool)(k:Nat)(f:aE)(ds:List DV)(Z:Mu)(R:DV->Mu->Mu->Prop):Prop:=∀A V s vs,qE A k->(hd=ak->A.handled=aq)->CG A V->m3 A (Z.map (·.1)) V s->Eb G V Z s->gO G.prog G.w V ds vs->fH (bf G.prog G.w) A (.call f ⟨vs,[]⟩) (oY (fun r s'=>∃d new Z' V',Az G A V Z s V' Z' s'/\N6 G V' s s' new/\Is G.prog G.w V' d r/\R d new Z') (fun zz zz=>False)) s
theorem b9.addMu{new:Mu}{s_0:ay}(S:b9 (cx G B) V Y Z s)(hm:∀p∈new,ju G.prog G.w V s.heap.get? p.1 p.2)(hv:∀p∈new,V p.1=aq)(hb:∀p∈new,s_0.heap.objs.size<=p.1)(nd:(new.map (·.1)).Nodup)(h0:B.s0.heap.objs.size<=s_0.heap.objs.size)(hL:B.L<s_0.heap.objs.size)(hZ:∀p∈Z,p.1<s_0.heap.objs.size):b9 (cx G B) V Y (new++Z) s:=by
 refine⟨S.m,S.nd,fun p hp=>?_,?_,S.vh,S.vL,fun p hp=>?_,S.fr,S.v0,S.b0,fun p hp=>?_,S.pr,S.sz,S.hk,S.rest⟩
 .rcases aJ.mp hp with h|h
  .exact hm p h
  .exact S.mu p h
 .have d:=av.mp S.dj
  rw[aA];refine av.mpr ⟨fun q=>?_,bC.mpr (jR nd d.2 (fun a ha b hb' e=>?_))⟩
  .rcases aJ.mp q with q|q
   .refine ar (az.mp q) fun p hp e=>?_
    have:=hb p hp;rw[e] at this;exact absurd hL (bu.mpr this)
   .exact d.1 q
  .refine ar (az.mp ha) fun p hp z1=>?_
   subst z1;refine ar (az.mp hb') fun p' hp' z2=>?_;subst z2;exact mF _ (dt (hZ p' hp') (e▸hb p hp))
 .rcases aJ.mp hp with h|h
  .exact hv p h
  .exact S.vm p h
 .rcases aJ.mp hp with h|h
  .exact .inr (ae h0 (hb p h))
  .exact S.mf p h
theorem DY{R:DV->Mu->Mu->Prop}(O:B.Ok G)(H:qa G hd k f ds Zc R)(hh:hd=ai\/B.hd=ak)(P:iZ Z Zc re)(hk:k<=B.k)(q:∀d new Zc',R d new Zc'->Q d Y (new++re Zc')):cI G B E f ds Y Z Q:=by intro V s vs S hi;refine ky (dP (H B.A V s vs (O.room.le hk) (fun e=>hh.elim (fun z=>by rw[z] at e;injection e) O.calm) S.hk ((S.stk O).less fun a z=>P.sublist.subset z) (S.pre P) hi) (oY.mono (fun r s' z3=>d9 z3 fun d new Z' V' T N i h=>?_) fun zz zz x=>x.elim));have S1:=S.post O P T;refine⟨d,Y,new++re Z',V',S1.addMu N.mu N.vm N.big N.nd S.sz S.frLt (fun p hp=>?_),T.v0,i,q d new Z' h⟩;have:p.1∈Z.map (·.1):=P.keys T.as▸ax hp;refine ar (az.mp this) fun q' hq e=>?_;exact e▸S.muLt hq
def Q7(Z0:Mu)(R:DV->Mu->Mu->Prop):Fl->aP->Mu->Prop:=fun fl Y' Z'=>∃new loc Zr d,Z'.Perm (new++(loc++Zr))/\Zr.map (·.1)=Z0.map (·.1)/\R d new Zr/\(fl=.ret d\/(fl=.next/\d=.none))
theorem JV{Y0:aP}{R:DV->Mu->Mu->Prop}(g:G.Ok)(ho:G.K.lookup f=ac o)(hdata:o.data=.func fd)(hb:fd.body=.stmts body)(hco:fd.scope.isCoroutine=ak)(hgen:fd.scope.isGenerator=ak)(hk:fd.scope.kind=.function)(hcell:∀x∈fd.scope.names,x.2≠.cell)(hgl:fd.globals=ce)(hbu:fd.builtins=d7)(hcd:nR G.K fd.code fd.qualname=ai)(bind:∀V s vs,Kp G.hb.get? V->Kp V s.heap.get?->gO G.prog G.w V ds vs->∃binds,w4 s fd ⟨vs,[]⟩ binds/\(∀x∈binds,fd.scope.names.lookup x.1=ac .local)/\∀p∈Y0,fd.scope.names.lookup p.1=ac .local/\(p.2≠.any->∃v,binds.reverse.lookup p.1=ac v/\Is G.prog G.w V p.2 v)){ns:List aV}(hns:Y0.map (·.1)=ns)(nd:ns.Nodup)(H:∀B,B.Ok G->B.k=k->B.hd=hd->B.env=nI fd B.L f->B.m0=Z0.map (·.1)->EX G B (fun zz zz=>False) (eD body B.env) Y0 Z0 (Q7 Z0 R)):qa G hd (k+1) (.ref f) ds Z0 R:=by
 intro A V s vs rm hcalm hh hstk P hi;have kb:∀b o,G.hb.get? b=ac o->s.heap.get? b=ac o:=fun b o e=>P.vh _ _ (P.b0 _ _ e);refine bp (bind V s vs P.b0 P.vh hi) fun binds hbind hloc hY=>?_;refine RH (binds:=binds) rm.depth ((g.kin.keeps kb) _ _ ho) hdata (g.lim.keeps kb) (CL (g.kin.keeps kb) hcd) hb hbind hcell hloc (fun h₁ hns' hk_1=>?_) hco hgen hk;have OB:(su A (nI fd s.heap.objs.size f) V Z0 s k hd).Ok G:=qY g ⟨hk,rfl,hgl,hbu⟩ rfl rm hcalm hstk;refine aQ (H _ OB rfl rfl rfl rfl V _ (sf P hh (bq _ hns' (fun p hp=>hY p hp)) (hns▸nd) hk_1)) (fun fl s' z4=>iI z4 fun a Y' Z' V' S' k' i' z5=>d9 z5 fun new loc Zr d e has hR hfl=>?_) fun e s'' x=>x.elim;have S':=S'.perm e;have T:Az G A V Z0 s V' Zr s':=pi (loc:=new++loc) hstk rfl (gq ..▸S') has;have N:N6 G V' s s' new:=by have dj:=(av.mp S'.dj).2;rw[aA,bC] at dj;refine⟨fun p hp=>S'.mu p (bF _ hp),fun p hp=>S'.vm p (bF _ hp),fun p hp=>(S'.mf p (bF _ hp)).resolve_left fun z=>?_,dj.1⟩;have z:p.1∈Zr.map (·.1):=has▸z;exact dj.2.2 _ (ax hp) _ (by rw[aA];exact aK _ z) rfl
 rcases hfl with rfl|⟨rfl,rfl⟩
 .refine ar i' fun v z6 hv=>?_
  subst z6;exact fF d new Zr V' T N hv hR
 .obtain rfl:fl=.next:=i'
  exact fF .none new Zr V' T N (aT.mpr ⟨rfl,rfl⟩) hR
theorem C3{R:DV->Mu->Mu->Prop}(g:G.Ok)(F:oV G C fI)(H:∀x dx,qa G hd k (.ref fI) (.ptr x::ds) ((x,.obj (cn C dx))::(dx,.flds [])::Zc) (fun d new Z'=>∃l Zr,d=.none/\Z'=(x,.obj (cn C dx))::(dx,.flds l)::Zr/\R (.inst C l) new Zr)):qa G hd (k+1) (.ref C) ds Zc R:=by
 intro A V s vs rm hcalm hh hstk P hi;have kb:∀b o,G.hb.get? b=ac o->s.heap.get? b=ac o:=fun b o e=>P.vh _ _ (P.b0 _ _ e);have X:G.K.In s.heap:=g.kin.keeps kb;have P':=Bk (C:=C) P;have hst':=AZ (C:=C) (A':=A.under (.builtin "type.__call__" ⟨.ref C::vs,[]⟩)) rfl hstk;have fin:=fun l Zr V' s'=>xM (A:=A) (A':=A.under (.builtin "type.__call__" ⟨.ref C::vs,[]⟩)) (C:=C) (l:=l) (Zr:=Zr) (V':=V') (s':=s') rfl P;have hsz:=sv s C;rcases s with⟨h,gs,dr,tk,os⟩
 refine make_core (makes_of X F.makes) (jS X F.init) (fun self=>bind_fn X self F.fn) (.inl rfl) ?_;refine dP (H (h.objs.size+1) h.objs.size (A.under (.builtin "type.__call__" ⟨.ref C::vs,[]⟩)) V _ (.ref (h.objs.size+1)::vs) rm.made hcalm hh hst' P' (aG.mpr (bO _ _ rfl (aT.mpr ⟨rfl,rfl⟩) hi))) fun r s' hr=>?_;rcases r with e|(v|_|_|_)<;>first|exact hr.elim|skip
 refine d1 hr fun d new Z' V' T y17=>sN y17 fun N i l Zr z7 z8 hR=>?_;subst z7;subst z8;refine aZ (aT.mp i) fun z9 zz=>?_;subst z9;have N0:∀p∈new,h.objs.size+2<=p.1:=fun p hp=>by have:=N.big p hp;rw[hsz] at this;exact this
 exact⟨rfl,jD (fin l Zr V' s' T) fun V'' T2 i2 k h2=>(fF (.inst C l) new Zr V'' T2 ⟨fun p hp=>(N.mu p hp).mono k rfl,fun p hp=>(h2 _ (N0 p hp)).trans (N.vm p hp),fun p hp=>mx (mx (N0 p hp)),N.nd⟩ i2 hR)⟩
section
variable {K : Type} [DecidableEq K] {knd : KeyKind prog w K}
theorem DP{Q:Option aE->ay->Prop}(hH:CG A V)(kV:Kp V s.heap.get?)(hV:V it=aq)(hit:s.heap.IsKeyIter it d i kvs.length ep)(hm:s.heap.DictAt knd d kvs ep)(hx:kvs[i]?=aq)(hQ:∀h',lN it s.heap h'->Q aq {s with heap:=h'}):bd (bf prog w) A (CK (.ref it)) Q E s:=by
 refine bp (id hit) fun o ho hc hd=>?_;refine wi (id hm) fun od es hod hcd hdd hk hp hn=>?_;unfold CK;refine ah (FA (HC (name:=aa "__next__") hit.typeIs qg (kx qg hit.typeIs PySem.F.entry_dict_keyiterator_next ?_ (PySem.F.args_dict_keyiterator_next_1 _))));refine ah (aH ?_);refine ah ?_;refine ah ?_;first|refine ah (AD hit.typeIs (aH ?_))|refine ah (Fx hit.typeIs (aH ?_))
 refine ah (wpAny_fieldsOf ho hd ?_);rw[if_neg (show ¬KL "dict_keyiterator" = ai by decide)];show bd _ _ (if(cs d==dm)=ai then _ else _) _ _ s;rw[if_neg (show ¬((cs d==dm)=ai) from HL)];refine ah (aH ?_);refine ah (wpAny_dictEntries hod hdd ?_);have hsz:es.size=kvs.length:=by rw[<-hp.length];simp
 rw[if_neg (by rw[hsz];simp)];refine ah (aH ?_);refine ah (wpAny_dictEpoch hod hdd ?_);rw[if_neg (by simp)];refine aH ?_;have hge:es.size<=i:=by rw[hsz];simpa using hx
 dsimp only;rw[if_neg (show ¬((i:Int)<0) from by exact YB),my,i7 hge];refine ah ?_;first|refine ah (AD hit.typeIs (aH ?_))|refine ah (Fx hit.typeIs (aH ?_))
 show bd _ _ (KU (.ref it) 0 .none >>= _) _ _ s;refine ah (CH ho hd (by simp) ?_);show bd _ _ (WT (.type "StopIteration") [] >>= _) _ _ _;refine ah ?_;simp only[WT,WS];refine ah (dk ?_ (by size_fits));refine ah (m:=rX _ _) (g9 (a:=dm) (by first|rfl|(simp only[rX];rfl)) ?_);refine dk ?_ (by size_fits);have kk:∀f o1 o2,lN it s.heap (((s.heap.update it f).push o1).push o2):=fun f o1 o2=>(((cV ..).extBut.push _).push _)
 have sz:∀f o1,((s.heap.update it f).push o1).objs.size=s.heap.objs.size+1:=fun f o1=>by simp[bV,uy]
 refine u9 (V:=V) hH (fun b x e=>kk _ _ _ b x (fun q=>by subst q;rw[hV] at e;injection e) (kV _ _ e)) (aN _ rfl) rfl (by rw[HM];show 2<6+_;exact Tr) ?_ fun h' o' ho' hc' hs=>?_
 .rw[sz]
  cases q:V (s.heap.objs.size+1) with|none=>rfl|some x=>exact absurd (aR (kV _ _ q)) (bu.mpr (cD _))
 .refine ah (Rv (T:="StopIteration") (b:=ai) (bq _ ho' (by rw[hc'])) WW ?_)
  refine aH (hQ _ fun b x n e=>(hs.2 b (fun q=>?_)).trans (kk _ _ _ b x n e));rw[sz] at q;exact absurd (q▸aR e) (bu.mpr (cD _))
def KO(A:fQ)(e:aW)(h:jk):Prop:=A.handled=aq\/(A.handled=ac (.ref e)/\∃o vs,h.get? e=ac o/\o.data=.fields vs/\vs[2]?=ac .none)
theorem KO.keep(x:KO A e h)(k:∀o,h.get? e=ac o->h'.get? e=ac o):KO A e h':=x.imp id fun z1=>J0 z1 fun a o vs b c d=>⟨a,o,vs,k _ b,c,d⟩
theorem KO.hok(x:KO A e h):∃V,CG A V/\Kp V h.get?/\∀b,b≠e->V b=aq:=by
 rcases x with x|⟨a,o,vs,b,c,d⟩;.exact cB (fun zz=>aq) (.inl x) (fun zz zz h=>nomatch h) (fun zz zz=>rfl)
 .refine cB (fun b=>if b=e then ac o else aq) (.inr (ez e o vs a (if_pos rfl) c d)) (fun y z h=>?_) (fun b hb=>if_neg hb)
  by_cases q:y=e;.subst q;dsimp only at h;rw[if_pos rfl] at h;(injection h with h;subst h);exact b
  .dsimp only at h;rw[if_neg q] at h;injection h
theorem Qs(x:CG A V)(k:Kp V h.get?)(hd:d<h.objs.size):∃e,e<h.objs.size/\KO A e h:=by
 rcases x with x|⟨e,o,vs,a,b,c,d⟩;.exact bq d hd (.inl x)
 .exact bq e (aR (k _ _ b)) (.inr ⟨a,o,vs,k _ _ b,c,d⟩)
theorem Ou(I d e)(hne:d≠I)(hIe:I≠e)(kvs ep):Walks prog w A I [I,d,e] [I] kvs.length (fun i v=>∃k x,kvs[i]?=ac (k,x)/\knd.is k v=ai) (fun i h=>(h.IsKeyIter I d i kvs.length ep/\h.DictAt knd d kvs ep)/\KO A e h) where
 sub:=fun b hb=>by simp at hb;simp[hb]
 frame:=fun zz zz zz st hk=>⟨⟨st.1.1.at fun o e'=>hk I (by simp) o e',st.1.2.at' fun o e'=>hk d (by simp) o e'⟩,st.2.keep fun o e'=>hk e (by simp) o e'⟩
 item:=fun i s Q E hi st hQ=>by
  obtain⟨⟨k,x⟩,hx⟩:∃p,kvs[i]?=ac p:=⟨kvs[i],by simp[hi]⟩
  refine HQ st.1.1 st.1.2 hx fun key h' hkey hit' hs'=>?_;exact hQ key h' s.toks (jN k x hx hkey) ⟨⟨hit',st.1.2.extBut hs'.extBut hne⟩,st.2.keep fun o e'=>(hs'.2 e (oZ hIe)).trans e'⟩ fun b o hb e=>hs'.extBut b o (fun h=>hb (by simp[h])) e
 done:=fun s Q E st hQ=>by refine bp st.2.hok fun V hH kV hV=>?_;exact DP hH kV (hV _ hIe) st.1.1 st.1.2 (by simp) fun h' he'=>hQ h' s.toks fun b o hb e=>he' b o (fun h=>hb (by simp[h])) e
 self:=fun zz zz zz zz st hQ=>KR st.1.1 hQ
theorem oQ{V:Vw}{R:List aE->ay->Prop}(lo:(d==fP)=ak)(hm:s.heap.DictAt knd d kvs ep)(hH:CG A V)(kV:Kp V s.heap.get?)(hn:kvs.length<=fY)(h:∀h'(tk:Nat)acc,(∀b o,s.heap.get? b=ac o->h'.get? b=ac o)->Rn (fun i v=>∃k x,kvs[i]?=ac (k,x)/\knd.is k v=ai) acc kvs.length->R acc.toList {s with heap:=h',toks:=tk}):bd (bf prog w) A (collect (.ref d)) R E s:=by
 have hlt:d<s.heap.objs.size:=hm.lt_size;refine ar (Qs hH kV hlt) fun e he1 hHA=>?_;unfold collect;refine ah (CI (ja entry_proto_collect' ?_));rw[jQ PySem.F.plain_proto_collect _];show bd _ A.in1 (HT [] >>= fun l=>again (.builtin "list.__iadd__" ⟨[l,.ref d],[]⟩)) _ _ s;refine ah (dk ?_);refine aH ⟨nQ xy _,ja entry_list_iadd' ?_⟩;rw[jQ xy _];have hS1:(s.heap.push {cls:=.type "list",data:=.seq ([]:List aE).toArray}).get? s.heap.objs.size=ac {cls:=.type "list",data:=.seq #[]}:=aN _ rfl;show bd _ A.in1 (jy (.ref s.heap.objs.size) (.ref d) (.ref s.heap.objs.size)) _ _ _;generalize hs1:s.heap.push {cls:=.type "list",data:=.seq ([]:List aE).toArray}=h1 at hS1 ⊢;have k1:∀b o,s.heap.get? b=ac o->h1.get? b=ac o:=fun b o e=>hs1▸aX _ e;have sz1:h1.objs.size=s.heap.objs.size+1:=by rw[<-hs1,bV]
 have hm1:h1.DictAt knd d kvs ep:=hm.at' fun o e=>k1 _ _ e;have nSd:s.heap.objs.size≠d:=gT hlt;have nSe:s.heap.objs.size≠e:=gT he1;have nSI:s.heap.objs.size≠h1.objs.size:=by rw[sz1];exact bP (c8 _)
 have hSf:s.heap.objs.size∉[h1.objs.size,d,e]:=by simp only[ao,cf,or_false,not_or];exact jR nSI nSd nSe
 have W:=Ou (prog:=prog) (w:=w) (A:=A.in1) (knd:=knd) h1.objs.size d e (by rw[sz1];exact bP (gE hlt)) (by rw[sz1];exact gT (gE he1)) kvs ep;have main:bd (bf prog w) A.in1 (jy (.ref s.heap.objs.size) (.ref d) (.ref s.heap.objs.size)) (fun fin s'=>match fin with|.done f=>(fun(q:yE) s'=>∃(h':jk) (tk:Nat) (acc':Array aE) (c':Nat),q=.ok (.ret (.ref s.heap.objs.size))/\s'={s with heap:=h',toks:=tk}/\(∀b o,s.heap.get? b=ac o->h'.get? b=ac o)/\h'.get? s.heap.objs.size=ac {cls:=.type "list",dict:=aq,data:=.seq acc' c',slots:=#[]}/\Rn (fun i v=>∃k x,kvs[i]?=ac (k,x)/\knd.is k v=ai) acc' kvs.length) (.ok f) s'|.again c'=>c'.quiet=ai/\fH (bf prog w) A c' (fun q s'=>∃(h':jk) (tk:Nat) (acc':Array aE) (c':Nat),q=.ok (.ret (.ref s.heap.objs.size))/\s'={s with heap:=h',toks:=tk}/\(∀b o,s.heap.get? b=ac o->h'.get? b=ac o)/\h'.get? s.heap.objs.size=ac {cls:=.type "list",dict:=aq,data:=.seq acc' c',slots:=#[]}/\Rn (fun i v=>∃k x,kvs[i]?=ac (k,x)/\knd.is k v=ai) acc' kvs.length) s') (fun e' s'=>False) {s with heap:=h1}:=by
  unfold jy;refine ah (wQ (T:="dict") hm1.dictOf.typeIs ?_);have e1:tc (.ref s.heap.objs.size) (.ref d)=ak:=by simp[tc,nSd]
  simp only[e1,show(cU "dict" == cU "list")=ak from by decide,show(cU "dict" == cU "tuple")=ak from by decide,qM,rQ,if_false];refine ah (Rb lo hm1 ?_);have st0:((h1.push {cls:=.type "dict_keyiterator",data:=.fields #[.ref d,.int 0 0,.int kvs.length 0,.int ep 0]}).IsKeyIter h1.objs.size d 0 kvs.length ep/\(h1.push {cls:=.type "dict_keyiterator",data:=.fields #[.ref d,.int 0 0,.int kvs.length 0,.int ep 0]}).DictAt knd d kvs ep)/\KO A.in1 e (h1.push {cls:=.type "dict_keyiterator",data:=.fields #[.ref d,.int 0 0,.int kvs.length 0,.int ep 0]}):=⟨⟨(cB _ (aN _ rfl) rfl rfl),hm1.push _⟩,KO.keep (A:=A.in1) hHA fun o x=>aX _ (k1 _ _ x)⟩
  generalize hI:({cls:=.type "dict_keyiterator",data:=.fields #[.ref d,.int 0 0,.int kvs.length 0,.int ep 0]}:ux)=oI at st0 ⊢;have key:∀h(c₁ tk:Nat),((h.IsKeyIter h1.objs.size d 0 kvs.length ep/\h.DictAt knd d kvs ep)/\KO A.in1 e h)->(∀b o,s.heap.get? b=ac o->h.get? b=ac o)->h.get? s.heap.objs.size=ac {cls:=.type "list",data:=.seq #[] c₁}->fH (bf prog w) A (.builtin "list.extend.loop" ⟨[.ref s.heap.objs.size,.ref h1.objs.size,.ref s.heap.objs.size],[]⟩) (fun q s'=>∃(h':jk) (tk:Nat) (acc':Array aE) (c':Nat),q=.ok (.ret (.ref s.heap.objs.size))/\s'={s with heap:=h',toks:=tk}/\(∀b o,s.heap.get? b=ac o->h'.get? b=ac o)/\h'.get? s.heap.objs.size=ac {cls:=.type "list",dict:=aq,data:=.seq acc' c',slots:=#[]}/\Rn (fun i v=>∃k x,kvs[i]?=ac (k,x)/\knd.is k v=ai) acc' kvs.length) {s with heap:=h,toks:=tk}:=by
   intro h c₁ tk hst hk hS1;refine codeAny_extend_loopS W.toS hn s.heap.objs.size hSf (.ref s.heap.objs.size) kvs.length 0 _ #[] c₁ rfl (a7 _) hst hS1 (ItemsOf.nil _) fun s' acc' c' hm' hS' hacc=>?_;rw[Nx hm'];refine jv s'.heap s'.toks acc' c' rfl rfl (fun b o e'=>hm'.heap b o (fun hmem=>?_) (hk b o e')) hS' hacc;have lt:=aR e';rcases ao.mp hmem with q|hmem;.exact absurd lt (by rw[q];exact mF _)
   .rw[ap.mp hmem,sz1] at lt
    exact absurd lt (bu.mpr (cD _))
  have hS_2:=aX oI hS1;have k2:∀b o,s.heap.get? b=ac o->(h1.push oI).get? b=ac o:=fun b o e'=>aX _ (k1 _ _ e');refine ah (bG (kdl_hint_dict st0.1.2.dictOf.typeIs ?_));refine wpAny_ite_split (fun zz=>?_) (fun zz=>aH ⟨nQ wG _,key _ _ _ st0 k2 hS_2⟩);refine ah (qd ?_);refine ah ?_;show bd _ _ (Rz s.heap.objs.size (·.push .none) >>= fun zz=>Rz s.heap.objs.size (·.pop)) _ _ _;refine ah (AO hS_2 rfl ?_);have hS3:=cp (yH (·.push dm)) hS_2 rfl;refine AO (hz:=by seq_fits) hS3 rfl ?_;have hS4:=cp (yH (·.pop)) hS3 rfl;have oth:∀b o,b≠s.heap.objs.size->(h1.push oI).get? b=ac o->(((h1.push oI).update s.heap.objs.size (yH (·.push dm))).update s.heap.objs.size (yH (·.pop))).get? b=ac o:=fun b o nb e'=>(jc _ _ (oZ nb)).trans ((jc _ _ (oZ nb)).trans e');refine aH ⟨nQ wG _,key _ _ _ ?_ (fun b o e'=>oth b o (bP (aR e')) (k2 b o e')) hS4⟩;exact W.frame 0 _ _ st0 fun b hb o e'=>oth b o (fun q=>hSf (q▸hb)) e'
 refine aQ main (fun fin s' x=>?_) fun e s' x=>x.elim;cases fin with
 |done f=>refine iE x ?_;clear x;intro h' tk acc' c' e' z2 hk hS' hacc;subst z2;(injection e' with e';subst e');show bd _ A (load s.heap.objs.size >>= _) _ _ _;refine ah (N8 hS' ?_);exact aH (h h' tk acc' hk hacc)
 |again c₁=>refine⟨x.1,dP x.2 fun q s_2 y=>?_⟩;refine iE y ?_;clear y;intro h' tk acc' c' z3 z4 hk hS' hacc;subst z3;subst z4;show bd _ A (load s.heap.objs.size >>= _) _ _ _;refine ah (N8 hS' ?_);exact aH (h h' tk acc' hk hacc)
end
noncomputable def kW(l:List Int):List Int:=l.mergeSort fun a b=>decide (a<=b)
theorem ii(l):(kW l).Perm l:=FJ _ _
theorem C6(l):(kW l).Pairwise (·<=·):=by have:=AR (le:=fun a b:Int=>decide (a<=b)) (fun a b c h1 h2=>by simp at *;exact ba h1 h2) (fun a b=>by simp;exact Tq) l;exact this.imp fun h=>by simpa using h
theorem uV(h:l'.Perm l)(p:l'.Pairwise (·<=·)):l'=kW l:=(h.trans (ii l).symm).eq_of_pairwise (fun a b zz zz h1 h2=>Int.le_antisymm h1 h2) p (C6 l)
noncomputable def xj(a b:aV):Bool:=!ZW b.cps.toList a.cps.toList
theorem mP(a b):xj a b=ai↔a.cps.toList<=b.cps.toList:=by unfold xj;rw[ltCps_eq];simp
theorem BE{a b:aV}(h1:xj a b=ai)(h2:xj b a=ai):a=b:=by have:=List.le_antisymm ((mP a b).mp h1) ((mP b a).mp h2);cases a;cases b;simpa using this
theorem sA{a b c:aV}(h1:xj a b=ai)(h2:xj b c=ai):xj a c=ai:=(mP a c).mpr (List.le_trans ((mP a b).mp h1) ((mP b c).mp h2))
theorem x9(a b):(xj a b||xj b a)=ai:=by rw[iH,mP,mP];exact List.le_total _ _
noncomputable def nn(l:List aV):List aV:=l.mergeSort xj
theorem qm(l):(nn l).Perm l:=FJ _ _
theorem uU(l):(nn l).Pairwise (fun a b=>xj a b=ai):=AR (le:=xj) (fun a b c h1 h2=>sA h1 h2) x9 l
theorem Bg:∀l(p:aV),risingS p l=ai->(p::l).Pairwise (fun a b=>xj a b=ai):=by
 intro p0_;induction p0_ with
 |nil=>intro p zz;simp
 |cons x r ih=>
  intro p h;unfold risingS at h;rw[aO] at h;have ih:=ih x h.2;refine iK.mpr ⟨fun y hy=>?_,ih⟩;rcases ao.mp hy with rfl|hy;.exact h.1
  .exact sA h.1 ((iK.mp ih).1 y hy)
theorem C5(h:l'.Perm l)(p:sortedS l'=ai):l'=nn l:=by
 have p':l'.Pairwise (fun a b=>xj a b=ai):=by cases l' with|nil=>exact .nil|cons x r=>exact Bg r x p
 exact(h.trans (qm l).symm).eq_of_pairwise (fun a b zz zz h1 h2=>BE h1 h2) p' (uU l)
theorem vK{prog:gQ}{w:gG}:∀{kvs:List (Int×aE)}{vs:List aE},vs.length=kvs.length->(∀(j:Nat)v,vs[j]?=ac v->∃k x,kvs[j]?=ac (k,x)/\(HU prog w).is k v=ai)->IntsAre vs (kvs.map (·.1))
 |[],[],_,_=>.nil|[],_::_,h,_=>by simp at h
 |_::_,[],h,_=>by simp at h
 |(k,x)::r,v::vs,h,hv=>by refine cX (hv 0 v rfl) fun k' x' e hk=>?_;(injection e with e;injection e with q3 q4;subst q3;subst q4);refine aY (HF hk) fun t z1=>?_;subst z1;exact .cons k t (vK (by simpa using h) fun j u hu=>hv (j+1) u hu)
theorem uK{prog:gQ}{w:gG}:∀{kvs:List (aV×aE)}{vs:List aE},vs.length=kvs.length->(∀(j:Nat)v,vs[j]?=ac v->∃k x,kvs[j]?=ac (k,x)/\(strKind prog w).is k v=ai)->StrsAre vs (kvs.map (·.1))
 |[],[],_,_=>.nil|[],_::_,h,_=>by simp at h
 |_::_,[],h,_=>by simp at h
 |(k,x)::r,v::vs,h,hv=>by refine cX (hv 0 v rfl) fun k' x' e hk=>?_;(injection e with e;injection e with q1 q2;subst q1;subst q2);refine aY (kj hk) fun t z2=>?_;subst z2;exact .cons k t (uK (by simpa using h) fun j u hu=>hv (j+1) u hu)
theorem Jj(h:IntsAre vs ns):Mine.gO G.prog G.w V (ns.map DV.int) vs:=by induction h with|nil=>exact be.mpr rfl|cons n t _ ih=>exact aG.mpr (bO _ _ rfl (bA.mpr ⟨t,rfl⟩) ih)
theorem Jh(h:StrsAre vs ns):Mine.gO G.prog G.w V (ns.map DV.str) vs:=by induction h with|nil=>exact be.mpr rfl|cons n t _ ih=>exact aG.mpr (bO _ _ rfl (io.mpr ⟨t,rfl⟩) ih)
theorem uT{h':jk}{tk:Nat}{vs:List aE}(O:B.Ok G)(S:b9 (cx G B) V Y Z s)(hk:∀b o,s.heap.get? b=ac o->h'.get? b=ac o)(hsz:s.heap.objs.size<=h'.objs.size)(hz:s.heap.objs.size<=(uv (h'.push (yy "list" vs.toArray 0)) h'.objs.size vs out).objs.size)(hL:∀V,Mine.gO G.prog G.w V l out.toList)(q:Q (.lst l) Y Z):qK G B (Is G.prog G.w) V Q (.ref h'.objs.size) {s with heap:=uv (h'.push (yy "list" vs.toArray 0)) h'.objs.size vs out,toks:=tk}:=by
 refine aY (sortedHeap_at (h:=h'.push (yy "list" vs.toArray 0)) (a:=h'.objs.size) (vs:=vs) (n:=0) (out:=out) (aN _ rfl)) fun e he=>?_;have kk:∀b o,s.heap.get? b=ac o->(uv (h'.push (yy "list" vs.toArray 0)) h'.objs.size vs out).get? b=ac o:=fun b o x=>by have lt:=aR (hk b o x);rw[sortedHeap_old (bP lt) (by rw[bV];exact gE lt)];exact aX _ (hk b o x)
 have S1:=S.grow0 (t:=tk) (fun b o zz x=>kk b o x) hz;have vn:V h'.objs.size=aq:=by cases c:V h'.objs.size with|none=>rfl|some o=>exact absurd (aR (S.vh _ _ c)) (bu.mpr hsz)
 have S2:=S1.addMu (new:=[(h'.objs.size,.lst l)]) (s_0:=s) (fun p hp=>by cases ap.mp hp;exact(cZ _ out e he rfl ⟨rfl,rfl⟩ rfl (hL V))) (fun p hp=>by cases ap.mp hp;exact vn) (fun p hp=>by cases ap.mp hp;exact hsz) (by simp) S.sz S.frLt (fun p hp=>S.muLt hp);refine bp (qz (ae S.sz hsz) S2) fun V' S3 k3 i3=>?_;exact⟨_,Y,Z,V',S3,k3,i3,q⟩
theorem ud(O:B.Ok G)(D:DS Z d l)(hl:l.length<64)(q:Q (.lst ((kW (l.map (·.1))).map DV.int)) Y Z):cI G B E (.builtin "sorted") [d] Y Z Q:=by
 intro V s vs S hi;refine aM (aG.mp hi) ?_;clear hi;intro v1 r1 z3 i1 hi;subst z3;obtain rfl:=be.mp hi;refine bU (D.open S i1) fun a o kvs z4 ho lo hd hk=>?_;subst z4;have hD:s.heap.DictOf (DK.knd G.prog G.w (K:=Int)) a kvs:=bc.mpr (bq o ho hd);refine aY hD.dictAt fun ep hat=>?_;have hkl:=hk.length;have hke:=hk.keys;refine xE kind_sorted plain_sorted entry_sorted (args_sorted1 _) ?_;unfold gS.«sorted»;refine ah (m:=checkCount "sorted" 1 1 _) (aH ?_);refine ah (b5 (oQ (V:=V) lo hat S.hk S.vh (by rw[hkl];exact ae (b8 (gU hl (by decide:64<1000000))) (by decide)) fun h' tk acc kp hacc hz=>?_));have hal:acc.toList.length=kvs.length:=by rw[aF];exact hacc.1
 have hI:IntsAre acc.toList (kvs.map (·.1)):=vK (prog:=G.prog) (w:=G.w) hal fun j v e=>hacc.2 j v (by rw[<-dg];exact e);have h64:acc.toList.length<64:=by rw[hal,hkl];exact hl
 generalize acc.toList=xs at hI h64 hal ⊢;refine ah (ZP ?_ (by rw[hal,hkl];exact ae (b8 (gU hl (by decide:64<1000000))) (by decide)));have hoL:(h'.push (yy "list" xs.toArray 0)).get? h'.objs.size=ac (yy "list" xs.toArray 0):=aN _ rfl;refine ah (bG (kx WN (bq _ hoL rfl) VU (list_sort_tree hoL hI h64 fun out ns' a1 a2 a3=>(bq _ rfl ?_)) (W0 _)));refine aH (bq _ rfl ?_);have e:ns'=kW (l.map (·.1)):=by rw[<-hke];exact uV a2 a3
 refine uT (s:=s) (h':=h') (tk:=tk) (vs:=xs) O S kp hz ?_ (fun V=>e▸Jj a1) q;unfold uv;rw[m6,bV,bV,m6,bV];exact ae hz (by show h'.objs.size<=_;exact Tp)
theorem uc(O:B.Ok G)(D:DS Z d l)(hl:l.length<64)(q:Q (.lst ((nn (l.map (·.1))).map DV.str)) Y Z):cI G B E (.builtin "sorted") [d] Y Z Q:=by
 intro V s vs S hi;refine aM (aG.mp hi) ?_;clear hi;intro v1 r1 z5 i1 hi;subst z5;obtain rfl:=be.mp hi;refine bU (D.open S i1) fun a o kvs z6 ho lo hd hk=>?_;subst z6;have hD:s.heap.DictOf (DK.knd G.prog G.w (K:=aV)) a kvs:=bc.mpr (bq o ho hd);refine aY hD.dictAt fun ep hat=>?_;have hkl:=hk.length;have hke:=hk.keys;refine xE kind_sorted plain_sorted entry_sorted (args_sorted1 _) ?_;unfold gS.«sorted»;refine ah (m:=checkCount "sorted" 1 1 _) (aH ?_);refine ah (b5 (oQ (V:=V) lo hat S.hk S.vh (by rw[hkl];exact ae (b8 (gU hl (by decide:64<1000000))) (by decide)) fun h' tk acc kp hacc hz=>?_));have hal:acc.toList.length=kvs.length:=by rw[aF];exact hacc.1
 have hI:StrsAre acc.toList (kvs.map (·.1)):=uK (prog:=G.prog) (w:=G.w) hal fun j v e=>hacc.2 j v (by rw[<-dg];exact e);have h64:acc.toList.length<64:=by rw[hal,hkl];exact hl
 generalize acc.toList=xs at hI h64 hal ⊢;refine ah (ZP ?_ (by rw[hal,hkl];exact ae (b8 (gU hl (by decide:64<1000000))) (by decide)));have hoL:(h'.push (yy "list" xs.toArray 0)).get? h'.objs.size=ac (yy "list" xs.toArray 0):=aN _ rfl;refine ah (bG (kx WN (bq _ hoL rfl) VU (list_sort_treeK strKind_oneLt hoL hI.keysOf (fun v_1 v_2 rest e=>keyKind_strs (by rw[<-e];exact hI)) h64 fun st' a1 a2=>(bq _ rfl ?_)) (W0 _)));refine aH (bq _ rfl ?_);refine bp (sorted_out_str hI a1 a2) fun ss' b1 b2 b3=>?_;have e:ss'=nn (l.map (·.1)):=by rw[<-hke];exact C5 b2 b3
 refine uT (s:=s) (h':=h') (tk:=tk) (vs:=xs) O S kp hz ?_ (fun V=>e▸Jh b1) q;unfold uv;rw[m6,bV,bV,m6,bV];exact ae hz (by show h'.objs.size<=_;exact Tp)
theorem eZ{r:Bool}(O:B.Ok G)(hm:(a,MO.sdic l)∈Z)(hs:Rd G.K (.type "dict") c=ac r)(he:(cU "dict" == c)=ai->r=ai)(hc:pQ G c)(q:Q (.bool r) Y Z):cI G B E (.builtin "isinstance") [.ptr a,.raw c] Y Z Q:=by
 intro V s vs S hi;refine aM (aG.mp hi) ?_;clear hi;intro v r1 z1 iv hi;subst z1;refine aM (aG.mp hi) ?_;clear hi;intro c' r2 z2 ic hi;subst z2;obtain rfl:=be.mp hi;refine aZ (aT.mp ic) fun z3 zz=>?_;subst z3;refine aZ (aT.mp iv) fun z4 zz=>?_;subst z4;have X:=S.kin O;refine aY ((S.mu _ hm).at) fun o ho=>?_;have kf:Kp V (fR V a o):=c9 (S.vm _ hm);have kv:Kp (fR V a o) s.heap.get?:=fun b x e=>by
  by_cases z:b=a;.subst z;rw[bT] at e;(injection e with e;subst e);exact ho
  .rw[dB V o z] at e;exact S.vh _ _ e
 have iv':Is G.prog G.w (fR V a o) (.sdic l) (.ref a):=sC rfl (S.mu _ hm) ho kf (bT _ _ _);have Lt:=ND iv' kv (tv:=.type "dict") rfl;have Lv:lI (bf G.prog G.w) s.heap (Og (.type "dict")) ai:=.now;refine Fn PySem.F.kind_isinstance PySem.F.plain_isinstance PySem.F.entry_isinstance (PySem.F.args_isinstance_2 _ _) (RD ?_ (by intro e;injection e));refine oB X Lt (hc.ty _ _ X) (hc.is _ _ X) (looks_subIn X hs) Lv he (fun zz P hP=>Cj X iv' kv rfl (fun C e=>by injection e) hP) fun t=>?_;exact⟨_,Y,Z,V,S.sat_toks t,.refl _,aT.mpr ⟨rfl,rfl⟩,q⟩
noncomputable def AY(l:List Int):Int:=l.foldl (· + ·) 0
theorem C9(l:List Int):∀n,n<=l.length->WO (fun i=>l.getD i 0) n=AY (l.take n):=by
 intro p0_;induction p0_ with
 |zero=>intro zz;simp[WO,AY]
 |succ n ih=>
  intro h;have ih:=ih (YA h);show WO _ n+l.getD n 0=_;rw[ih,ci];unfold AY;rw[lM];have:l[n]?=ac (l.getD n 0):=by rw[kS,cM (Yz h)];rfl
  rw[this];rfl
theorem Kc(O:B.Ok G)(hn:B.hd=ak)(L:LS Z d (l.map DV.int))(q:Q (.int (AY l)) Y Z):cI G B E (.builtin "sum") [d] Y Z Q:=by
 intro V s vs S hi;refine aM (aG.mp hi) ?_;clear hi;intro v1 r1 z5 i1 hi;subst z5;obtain rfl:=be.mp hi;refine bl (L.openX S i1) fun t xs n z6 ht hL=>?_;subst z6;have hlt:=aR ht;have e1:xs.size=l.length:=by rw[<-aF,bb hL,af]
 refine b5 (call_sum_walkAnyS (wR (items:=xs) (dI _ ht rfl n rfl) ?_));have W:=Walks.list (prog:=G.prog) (w:=G.w) (A:=B.A.in1) (O.calm hn) s.heap.objs.size t (bP hlt) xs;refine⟨s.heap.objs.size,_,_,_,xs.size,_,_,fun i=>l.getD i 0,rfl,W.toS,⟨(cB _ (aN _ rfl) rfl rfl),(dI _ (aX _ ht) rfl n rfl)⟩,fun b hb=>?_,fun i v hv=>?_,fun s' t' hm=>?_⟩
 .show b<(s.heap.push _).objs.size
  rw[bV];rcases ao.mp hb with e|hb;.rw[e];exact c8 _
  .rw[ap.mp hb];exact gE hlt
 .have hi':i<l.length:=by rw[<-e1];exact(kP.mp hv).1
  have hd:(l.map DV.int)[i]?=ac (.int (l.getD i 0)):=by rw[bj,kS,cM hi'];rfl
  refine ar (lf hL hd) fun u hu iu=>?_;rw[dg,hv] at hu;(injection hu with hu;subst hu);exact bA.mp iu
 .intro hz
  rw[Nx hm] at hz ⊢;have e:WO (fun i=>l.getD i 0) xs.size=AY l:=by rw[e1,C9 l l.length (aI _),bt (aI _)]
  rw[e];exact⟨_,Y,Z,V,S.grow0 (t:=s'.toks) (fun b o nb x=>hm.heap b o (by simpa using nb) (aX _ x)) hz,.refl _,bA.mpr ⟨_,rfl⟩,q⟩
theorem D4{K:Type}[DecidableEq K][DK K]{l:List (K×DV)}{k:K}(R:fE a (DK.mo l) (DK.mo (xd l k)) Z Z')(hl:l.length<=1000000)(h:kr l k=ac d)(q:Q d Y Z'):cI G B E (.builtin "dict.pop") ([.ptr a]++[DK.key k]) Y Z Q:=by intro V s vs S hi;refine aM (aG.mp hi) ?_;clear hi;intro v zz z1 iv hi;subst z1;refine aM (aG.mp hi) ?_;clear hi;intro kv zz z2 ik hi;subst z2;obtain rfl:=be.mp hi;refine aZ (aT.mp iv) fun z3 zz=>?_;subst z3;refine bB (DK.moOpen (S.mu _ R.mem)) fun o kvs ho lo hd hk=>?_;have hD:s.heap.DictOf (DK.knd G.prog G.w (K:=K)) a kvs:=bc.mpr (bq o ho hd);refine ar (hk.some h) fun u hu iu=>?_;refine qe nG hD.typeIs mE (PySem.F.args_dict_pop_2 _ _) (KY _ a (DK.is ik) [] (.inl rfl) (DK.part ik)) (du kvs u hD (by rw[hk.length];exact ae hl (by decide)) hu (fun h' hD' hs=>?_));refine ar (bc.mp hD') fun o' ho' hd'=>?_;exact⟨d,Y,Z',V,S.repl R hs (DK.moShut ho' lo hd' hk.rem),.refl _,iu,q⟩
theorem sP{R:yE->ay->Prop}{target it body orelse env}(I:Nat->ay->Prop)(turn:∀n s,I n s->bd (bf prog w) A (CK it) (fun r s_1=>match r with|none=>bd (bf prog w) A (eD orelse env) (fun f s_3=>R (.ok f) s_3) (wS (bf prog w) A env fun e s'=>R (.error e) s') s_1|some v=>bd (bf prog w) A (VT target it v) (fun zz s1'=>bd (bf prog w) A (assign target env v) (fun zz s_2=>bd (bf prog w) A (eD body env) (fun f s_3=>match f with|.next|.cont=>∃m,m<n/\I m s_3|.brk=>R (.ok .next) s_3|.ret v=>R (.ok (.ret v)) s_3) (wS (bf prog w) A env fun e s'=>R (.error e) s') s_2) (wS (bf prog w) A env fun e s'=>R (.error e) s') s1') (wS (bf prog w) A env fun e s'=>R (.error e) s') s_1) (wS (bf prog w) A env fun e s'=>R (.error e) s') s)(n)(h:I n s):fH (bf prog w) A (.forLoop target it body orelse env) R s:=by refine codeAny_loop' rfl I (fun n s hI=>?_) n h;show bd _ _ ((forTurn target it body orelse env).onRaise (fun x=>do RC x env;theTreesLotGoes x)) _ _ s;refine wpAny_noted ?_;simp only[forTurn];refine ah (cG (ah (Fy (aQ (turn n s hI) (fun r s_1 h₁=>?_) fun zz zz h'=>cG h'))));cases r with|none=>exact aH (.inr ⟨rfl,codeAny_block h₁⟩)|some v=>refine ah (aQ h₁ (fun zz s1' h_1'=>?_) fun zz zz h'=>h');refine ah (aQ h_1' (fun zz s_2 h_2=>ah (aQ h_2 (fun f s_3 h_3=>?_) fun zz zz h'=>h')) fun zz zz h'=>h');cases f with|next=>exact aH (.inl ⟨rfl,h_3⟩)|cont=>exact aH (.inl ⟨rfl,h_3⟩)|brk=>exact aH h_3|ret v=>exact aH h_3
theorem b9.turn2(S:b9 (cx G B) V Y ((a,m1)::(b,m2)::Z) s)(hk:∀x o,x≠a->x≠b->s.heap.get? x=ac o->h'.get? x=ac o)(hsz:s.heap.objs.size<=h'.objs.size)(h1:ju G.prog G.w V h'.get? a m1')(h2:ju G.prog G.w V h'.get? b m2'):b9 (cx G B) V Y ((a,m1')::(b,m2')::Z) {s with heap:=h',toks:=t}:=by
 have dj:=av.mp S.dj;have d2:=av.mp dj.2;have d3:=av.mp d2.2;have nLa:B.L≠a:=fun e=>dj.1 (e▸.head _);have nLb:B.L≠b:=fun e=>dj.1 (e▸.tail _ (.head _));have na:∀p∈Z,p.1≠a:=fun p hp e=>d2.1 (.tail _ (az.mpr (bq p hp e)));have nb:∀p∈Z,p.1≠b:=fun p hp e=>d3.1 (az.mpr (bq p hp e));have va:V a=aq:=S.vm (a,m1) (.head _);have vb:V b=aq:=S.vm (b,m2) (.tail _ (.head _));have ma:=S.mf (a,m1) (.head _);have mb:=S.mf (b,m2) (.tail _ (.head _));refine ar S.m ?_;(try clear m);intro m z1 he;refine fw z1 ?_;clear z1;intro oL es ep hL r;refine⟨(bq m (oW oL es ep (hk _ _ nLa nLb hL) r) he),S.nd,fun p hp=>?_,S.dj,fun x o e=>hk x o (fun q=>by subst q;rw[va] at e;injection e) (fun q=>by subst q;rw[vb] at e;injection e) (S.vh _ _ e),S.vL,fun p hp=>?_,S.fr,S.v0,S.b0,fun p hp=>?_,fun x o n l e=>?_,ae S.sz hsz,S.hk,S.rest⟩
 .rcases ao.mp hp with rfl|hp
  .exact h1
  .rcases ao.mp hp with rfl|hp
   .exact h2
   .refine aY ((S.mu p (.tail _ (.tail _ hp))).at) fun o ho=>?_
    exact(S.mu p (.tail _ (.tail _ hp))).mono (.refl _) ((hk _ _ (na p hp) (nb p hp) ho).trans ho.symm)
 .rcases ao.mp hp with rfl|hp
  .exact va
  .rcases ao.mp hp with rfl|hp
   .exact vb
   .exact S.vm p (.tail _ (.tail _ hp))
 .rcases ao.mp hp with rfl|hp
  .exact ma
  .rcases ao.mp hp with rfl|hp
   .exact mb
   .exact S.mf p (.tail _ (.tail _ hp))
 .refine ar (S.pr x o n l e) fun o' e' r=>?_
  have lt:=aR e;refine bq o' (hk x o' (fun q=>?_) (fun q=>?_) e') r
  .subst q
   rcases ma with z|z;.exact n z
   .exact absurd lt (bu.mpr z)
  .subst q
   rcases mb with z|z;.exact n z
   .exact absurd lt (bu.mpr z)
theorem b9.adopt{s_0:ay}{a:aW}(S:b9 (cx G B) V Y Z s)(ha:s_0.heap.objs.size<=a)(ho:s.heap.get? a=ac o)(hv:V a=aq)(h0:B.s0.heap.objs.size<=s_0.heap.objs.size)(hL:B.L<s_0.heap.objs.size)(hZ:∀p∈Z,p.1<s_0.heap.objs.size):b9 (cx G B) (fR V a o) Y Z s:=by have S2:=S.addMu (new:=[(a,.obj o)]) (s_0:=s_0) (fun p hp=>by cases ap.mp hp;exact ho) (fun p hp=>by cases ap.mp hp;exact hv) (fun p hp=>by cases ap.mp hp;exact ha) (by simp) h0 hL hZ;exact S2.freeze (Z1:=[]) (ae h0 ha) ho
def yq(it:aW)(i:Nat)(o:ux):Prop:=∃old,o={cls:=.type "enumerate",dict:=aq,data:=.fields #[.none,.bool ak,.ref it,e9 (i:Int),.none,old],slots:=#[]}
def Dn(G:G0)(ds:List DV)(i:Nat)(V:Vw)(o:ux):Prop:=∃l,o.cls=.type "list_iterator"/\o.data=.fields #[.ref l,.int (i:Int) 0]/\Is G.prog G.w V (.lst ds) (.ref l)
theorem l7{G:G0}(ds i):∀V V' o,Kp V V'->Dn G ds i V o->Dn G ds i V' o:=fun V V' o k z2=>bp z2 fun l a b c=>(cB l a b (c.mono k))
@[reducible] noncomputable def zn(G:G0)(ds:List DV)(e it:aW)(i:Nat):Mu:=[(e,.pr (yq it i)),(it,.prV (Dn G ds i) (l7 ds i))]
theorem Hw(O:B.Ok G)(q:∀e it,Q (.ptr e) Y (zn G ds e it 0++Z)):cI G B E (.type "enumerate") [.lst ds] Y Z Q:=by
 intro V s vs S hi;refine aM (aG.mp hi) ?_;clear hi;intro v1 r1 z3 i1 hi;subst z3;obtain rfl:=be.mp hi;refine bl (LS.openX (.inl rfl) S i1) fun l xs n z4 hl hL=>?_;subst z4;refine call_enumerate_1 hl fun h' he hit hsz hk=>?_;have S1:=S.grow0 (h':=h') (t:=s.toks) (fun b o zz x=>hk b o x) (by rw[hsz];exact cg _ 2);have vn:∀a,s.heap.objs.size<=a->V a=aq:=fun a ha=>by cases c:V a with|none=>rfl|some o=>exact absurd (aR (S.vh _ _ c)) (bu.mpr ha)
 refine bp hit ?_;clear hit;intro oi hoi hci hdi;refine⟨_,Y,_,V,S1.addMu (new:=zn G ds (s.heap.objs.size+1) s.heap.objs.size 0) (s_0:=s) (fun p hp=>?_) (fun p hp=>?_) (fun p hp=>?_) ?_ S.sz S.frLt (fun p hp=>S.muLt hp),.refl _,aT.mpr ⟨rfl,rfl⟩,q _ _⟩
 .rcases ao.mp hp with rfl|hp
  .exact⟨_,he,_,rfl⟩
  .cases ap.mp hp
   exact⟨oi,hoi,l,hci,hdi,i1⟩
 .rcases ao.mp hp with rfl|hp
  .exact vn _ (cD _)
  .cases ap.mp hp
   exact vn _ (aI _)
 .rcases ao.mp hp with rfl|hp
  .exact cD _
  .cases ap.mp hp
   exact aI _
 .simp
theorem G5{I:Nat->aP->Mu->Prop}{Q:Fl->aP->Mu->Prop}(O:B.Ok G)(hn:B.hd=ak)(S:b9 (cx G B) V Y (zn G ds e it 0++Z) s)(h0:I 0 Y Z)(hH:∀V_3 Z2 s_3,H (CC B V_3 Z2 s_3))(st:∀i d,ds[i]?=ac d->∀Y2 Z2,I i Y2 Z2->wD G B H (.Tuple [.Name x px,.Name y py] kk tp) body (.tup [.int (i:Int),d]) (I (i+1)) Q Y2 Z2)(hend:∀Y2 Z2,I ds.length Y2 Z2->Q .next Y2 Z2)(hq:∀f fl Y4 Z4 V5 s_5,b9 (cx G B) V5 Y4 Z4 s_5->Kp V V5->wE G.prog G.w V5 fl f->Q fl Y4 Z4->T (.ok f) s_5):fH (bf G.prog G.w) B.A (.forLoop (.Tuple [.Name x px,.Name y py] kk tp) (.ref e) body [] B.env) T s:=by
 refine sP (VF G B V (zn G ds e it) ds.length I) (fun n s' z=>iE z fun i Y2 Z2 V' hi hnn S' k' hI=>?_) ds.length (jv 0 Y Z V (a7 _) rfl S (.refl _) h0);refine wm (S'.mu (e,.pr (yq it i)) (.head _)) fun oe' hoe' old' z8=>?_;subst z8;refine wl (S'.mu (it,.prV (Dn G ds i) (l7 ds i)) (.tail _ (.head _))) fun oi hoi l hci hdi hil=>?_;refine bl (LS.openX (Z:=zn G ds e it i++Z2) (.inl rfl) S' hil) fun l xs nl el hl hL=>?_;(injection el with el;subst el);have dj:=av.mp S'.dj;have nei:e≠it:=fun q=>(av.mp dj.2).1 (q▸.head _);have xsz:xs.size=ds.length:=by rw[<-aF,bb hL]
 have vd:∀{b:aW},(b=e\/b=it)->V' b=aq:=fun h=>by
  rcases h with rfl|rfl;.exact S'.vm (_,.pr (yq it i)) (.head _)
  .exact S'.vm (_,.prV (Dn G ds i) (l7 ds i)) (.tail _ (.head _))
 cases hd:ds[i]? with|none=>have e':i=ds.length:=wY hi (gW.mp hd);subst e';exact b5 (wpAny_pyNext_enum_end (O.calm hn) hoe' (cB oi hoi hci hdi) (dI _ hl rfl nl rfl) (by rw[i7];rw[xsz];exact aI _) fun h' hx hz=>i8 (hq .next .next _ _ _ _ (b9.gone (b9.drop S') (t:=s'.toks) hx hz) k' rfl (hend _ _ hI)))|some d'=>
  have hlt:i<ds.length:=(cq.mp hd).1;refine ar (lf hL hd) fun u hu iu=>?_;refine wpAny_pyNext_enum_item hoe' (cB oi hoi hci hdi) (dI _ hl rfl nl rfl) (x:=u) (by rw[<-dg];exact hu) nei fun h' ho hit' hT hsz hk=>?_;have szn:V' s'.heap.objs.size=aq:=S'.fresh;have hlt':∀p∈zn G ds e it i++Z2,p.1<s'.heap.objs.size:=fun p hp=>S'.muLt hp;have hfr:=S'.frLt;have hsz0:=S'.sz;refine bp hit' ?_;clear hit';intro oi' hoi' hci' hdi';have S2:b9 (cx G B) V' Y2 ((e,.obj {cls:=.type "enumerate",dict:=aq,data:=.fields #[e9 s'.heap.objs.size,.bool ak,.ref it,e9 ((i:Int)+1),.none,u],slots:=#[]})::(it,.prV (Dn G ds (i+1)) (l7 ds (i+1)))::Z2) {s' with heap:=h',toks:=s'.toks+1}:=b9.turn2 S' (fun x o a b c=>hk x o a b c) (by rw[hsz];exact cD _) ho ⟨oi',hoi',l,hci',hdi',hil⟩;have S3:=S2.adopt (s_0:=s') (a:=s'.heap.objs.size) (aI _) hT szn hsz0 hfr (fun p hp=>by
   rcases ao.mp hp with rfl|hp;.exact hlt' (e,.pr (yq it i)) (.head _)
   .rcases ao.mp hp with rfl|hp
    .exact hlt' (it,.prV (Dn G ds i) (l7 ds i)) (.tail _ (.head _))
    .exact hlt' p (.tail _ (.tail _ hp)))
  have k3:Kp V' (fR V' s'.heap.objs.size {cls:=.type "tuple",data:=.seq #[.int i s'.toks,u]}):=c9 szn;have iT:Is G.prog G.w (fR V' s'.heap.objs.size {cls:=.type "tuple",data:=.seq #[.int i s'.toks,u]}) (.tup [.int (i:Int),d']) (.ref s'.heap.objs.size):=by show Exists _;exact cJ _ _ _ _ rfl (bT _ _ _) rfl ⟨rfl,rfl⟩ rfl (aG.mpr (bO _ _ rfl (bA.mpr ⟨_,rfl⟩) (aG.mpr (bO _ _ rfl (iu.mono k3) (be.mpr rfl)))))
  generalize fR V' s'.heap.objs.size {cls:=.type "tuple",data:=.seq #[.int i s'.toks,u]}=V3 at S3 k3 iT;refine wpAny_letOwnedTupleGo_enum ho fun h2 he2 hs2=>?_;have S4:b9 (cx G B) V3 Y2 (zn G ds e it (i+1)++Z2) {s' with heap:=h2,toks:=s'.toks+1}:=S3.turn0 (t:=s'.toks+1) (mo':=.pr (yq it (i+1))) hs2 ⟨_,he2,_,rfl⟩;exact BV O S4 iT (hH _ _ _) (st i d' hd Y2 Z2 hI) (fun Y4 Z4 V5 s_5 RA k h=>⟨ds.length-(i+1),hnn▸XT hlt,i+1,Y4,Z4,V5,hlt,rfl,RA,k'.trans (k3.trans k),h⟩) fun f fl Y4 Z4 V5 s_5 UB k hf h=>hq f fl _ _ _ _ UB (k'.trans (k3.trans k)) hf h
theorem MB{Q:Fl->aP->Mu->Prop}(O:B.Ok G)(hn:B.hd=ak)(hH:∀V_3 Z2 s_3,H (CC B V_3 Z2 s_3))
  (h:EV G B E (a9 iter B.env) Y Z fun d Y1 Z1=>∃ds e it Z',d=.ptr e/\Z1=zn G ds e it 0++Z'/\∃I:Nat->aP->Mu->Prop,I 0 Y1 Z'/\
   (∀i d,ds[i]?=ac d->∀Y2 Z2,I i Y2 Z2->wD G B H (.Tuple [.Name x px,.Name y py] kk tp) body (.tup [.int (i:Int),d]) (I (i+1)) Q Y2 Z2)/\
   (∀Y2 Z2,I ds.length Y2 Z2->Q .next Y2 Z2))
  (hset:∀x,jT iter B.env x=pure x):EX G B E (fb (.For (.Tuple [.Name x px,.Name y py] kk tp) iter body [] pos) B.env) Y Z Q:=by
 intro V s S;refine wpAny_For (WP.use h S (fun xv s_1 d Y1 Z1 V_1 S_1 k_1 i_1 z6=>d1 z6 fun ds e it Z' ed y31=>Fb y31 fun em I hI0 hstep hend=>?_)) hset;subst ed em;refine aZ (aT.mp i_1) fun z7 zz=>?_;subst z7;refine wm (S_1.mu (e,.pr (yq it 0)) (.head _)) fun oe hoe old eoe=>?_;subst eoe;exact wpAny_pyIter_enum hoe (G5 O hn S_1 hI0 hH hstep hend fun f fl Y4 Z4 V5 s_5 S_5 k hf hq=>⟨fl,Y4,Z4,V5,S_5,k_1.trans k,hf,hq⟩)
theorem IL(v):∀(n:Nat)acc,(Wg (fun x1 x2:Array aE=>x1++x2) acc (d6 n #[v])).toList=acc.toList++d6 n v:=by
 intro p0_;induction p0_ with
 |zero=>intro acc;simp
 |succ n ih=>intro acc;rw[FI,K7,ih];simp[FI]
theorem Me(h:Is G.prog G.w V d v):∀n,Mine.gO G.prog G.w V (d6 n d) (d6 n v):=by intro p0_;induction p0_ with|zero=>exact be.mpr rfl|succ n ih=>exact aG.mpr (bO _ _ rfl h ih)
theorem LL{x:DV}(O:B.Ok G)(hn:n<=1000000)(q:Q (.lst (d6 n x)) Y Z):O2 G B E (Is G.prog G.w) (fJ .Mult) (.lst [x]) (.int (n:Int)) Y Z Q:=by
 intro V s a b S ia ib;refine bl (LS.openX (.inl rfl) S ia) fun l vs k z1 hl hL=>?_;subst z1;refine aY (bA.mp ib) fun u z2=>?_;subst z2;refine aM (aG.mp hL) fun v r e iv hr=>?_;obtain rfl:=be.mp hr;have ev:vs=#[v]:=by rw[<-Array.toArray_toList (xs:=vs),e]
 subst ev;have hx0:(0:Int)<=(n:Int):=by exact cb _
 have hx1:(n:Int)<=1000000:=by exact GZ hn rfl
 have hxn:(n:Int).toNat=n:=my n;generalize(n:Int)=x' at hx0 hx1 hxn ⊢;have c0:¬(!rP x')=ai:=by simp[rP];exact Yx hx0 hx1
 have c1:¬(#[v]:Array aE).size*x'.toNat>(2 ^ 63-1) / 8:=by simp;exact EY hx1 rfl
 have c2:¬tb ((#[v]:Array aE).size*x'.toNat)=ai:=by simp[tb,fY];exact EY hx1 rfl
 refine wpAny_binaryOp_repeat_ref (T:="list") (U:="int") (by decide) (bq _ hl rfl) (fun s'=>typeIs_int s' x' u) noFill_list_mul PySem.F.fills_int_mul AG repeat_list PySem.F.slot_int_index.lookup
  (qf AG (typeIs_int s x' u) PySem.F.entry_int_rmul (PySem.F.args_int_rmul_2 _ _) (int___rmul___int_list x' u l #[v] k)
   (oX hl rfl (bq _ hl rfl) (qf PySem.F.slot_list_mul (bq _ hl rfl) PySem.F.entry_list_mul (PySem.F.args_list_mul_2 _ _)
    (aF' l #[v] k x' u c0 c1 c2)
    ⟨hl,?_⟩)))
 have S1:=S.alloc O.c {cls:=.type "list",data:=.seq (Wg (fun x1 x2:Array aE=>x1++x2) #[] (d6 (if(#[v]:Array aE).isEmpty=ai then 0 else x'.toNat) #[v]))} rfl;refine⟨.lst (d6 n x),Y,Z,_,S1,c9 S.fresh,?_,q⟩;show Exists _;refine cJ _ _ _ 0 rfl (bT _ _ _) rfl ⟨rfl,rfl⟩ rfl ?_;rw[IL,show(if(#[v]:Array aE).isEmpty=ai then 0 else x'.toNat)=n from by simp[hxn]];exact Me (iv.mono (c9 S.fresh)) n
theorem ES:∀l:List Int,Bn (l.map DV.int)=ac (l.map iw):=by intro p0_;induction p0_ with|nil=>exact rfl|cons i r ih=>rw[au,Bn,ih];rfl
theorem BM:∀l:List Int,i4 (l.map iw)=ai/\jY (l.map iw)=0:=by
 intro p0_;induction p0_ with|nil=>exact⟨rfl,rfl⟩|cons i r ih=>
  refine aZ (ih) fun a b=>?_;refine⟨?_,?_⟩;.rw[au,i4,a];rfl
  .rw[au,jY,b];rfl
theorem tq(l:List Int):a6 (.list (l.map iw))=ai:=by unfold a6;rw[wK,(BM l).1,AI,(BM l).2];rfl
theorem B4:∀a b:List Int,fZ (a.map iw) (b.map iw)=decide (a=b)|[],[]=>rfl|[],_::_=>rfl|_::_,[]=>rfl|x::a,y::b=>by rw[au,au,fZ,B4 a b];by_cases h1:x=y<;>by_cases h2:a=b<;>simp[a8,h1,h2]
theorem vk{a b:List Int}(O:B.Ok G)(D:LS Z d (a.map DV.int))(D':LS Z d' (b.map DV.int))(q:Q (.bool (!decide (a=b))) Y Z):O2 G B E (Is G.prog G.w) (bi .NotEq) d d' Y Z Q:=by refine Bq O (x:=.list (a.map iw)) (y:=.list (b.map iw)) (.inr (bO _ _ D (ES a) rfl)) (.inr (bO _ _ D' (ES b) rfl)) (tq a) (tq b) ?_;rw[a8,B4];exact q
theorem DT{Q:List aE->ay->Prop}(it){T:String}(hT:T = "list"\/T = "tuple")(hsz:items.size<=fY)(ho:s.heap.get? it=ac o)(hc:o.cls=.type T)(hd:o.data=.seq items n)(hQ:∀h',(∀b o',s.heap.get? b=ac o'->h'.get? b=ac o')->s.heap.objs.size<=h'.objs.size->Q items.toList {s with heap:=h'}):bd (bf prog w) A (collect (.ref it)) Q E s:=b5 (wpAny_collect_seq (hsz:=hsz) it hT ho hc hd fun h' hk hz=>hQ h' hk hz)
theorem yO(l o items n)(hc:o.cls=.type "list")(hd:o.data=.seq items n)(hsz:items.size<=fY):Meets (gS.«tuple.__new__» ⟨[.type "tuple",.ref l],[]⟩) (fun zz R s=>s.heap.get? l=ac o/\∀h':jk,(∀b o',s.heap.get? b=ac o'->h'.get? b=ac o')->s.heap.objs.size<=h'.objs.size->R (.ok (.ret (.ref h'.objs.size))) {s with heap:=h'.push {cls:=.type "tuple",data:=.seq items}}):=
 .of_wp fun prog w A R s h=>by
  obtain⟨hp,g,d,tk,os⟩:=s;refine aZ h ?_;clear h;intro ht h;have hsub:=sub_tuple_self;have hinit:=init_tuple_lookup;have hmh:=madeHere_tuple;have hT:Shared.TypeIs ⟨hp,g,d,tk,os⟩ (.ref l) "list":=(bq o ht hc)
  wp_walk using AutoSeq1.wpAny_loadPart' ht,wQ hT,DT l (.inl rfl) hsz ht hc hd;intro h' hk hz;show bd _ _ (r4 items.toList.toArray >>= fun v=>ret v) _ _ _;unfold r4;refine ah (dk ?_ (by show items.toList.toArray.size<=fY;simpa using hsz));refine aH (bq _ rfl ?_);have e:items.toList.toArray=items:=by simp
  rw[e];exact h h' hk hz
theorem kN{ds:List DV}(O:B.Ok G)(hl:ds.length<=1000000)(q:Q (.tup ds) Y Z):cI G B E (.type "tuple") [.lst ds] Y Z Q:=by
 intro V s vs S hi;refine aM (aG.mp hi) ?_;clear hi;intro v1 r1 z1 i1 hi;subst z1;obtain rfl:=be.mp hi;refine bl (LS.openX (.inl rfl) S i1) fun l xs n z2 hlo hL=>?_;subst z2;have hsz:xs.size<=fY:=by rw[<-aF,bb hL];exact ae hl (by decide)
 refine callType_new F.called_tuple (by decide) (F.typeCall_tuple_1 _) (F.newCall_tuple_1 _) (fun obj=>Ia obj _) F.entry_tuple_new (yO l _ xs n rfl rfl hsz) ⟨hlo,fun h' hk hz=>⟨(bq _ (aN _ rfl) rfl),?_⟩⟩;have S1:=S.grow0 (h':=h') (t:=s.toks) (fun b o zz x=>hk b o x) hz;have S2:=S1.alloc O.c {cls:=.type "tuple",data:=.seq xs} rfl;refine⟨.tup ds,Y,Z,_,S2,c9 S1.fresh,?_,q⟩;show Exists _;exact cJ _ _ _ 0 rfl (bT _ _ _) rfl ⟨rfl,rfl⟩ rfl (hL.mono (c9 S1.fresh))
theorem M8:Oa (.type "bytes") "__bytes__" = pure (ac (.builtin "bytes.__bytes__")):=by rw[VS,KB];kernel_rfl
theorem Cm:Meets (gS.«bytes.__new__» ⟨[.type "bytes",.bytes b t],[]⟩) (fun zz R s=>R (.ok (.ret (.bytes b t))) s):=by refine .of_wp fun prog w A R s h=>?_;unfold gS.«bytes.__new__»;refine ah (g9 (a:=ai) rfl ?_);refine K2 rfl ?_;refine ah (g9 F.bm_sub ?_);refine K2 rfl ?_;refine ah (g9 (F.bm_bind _) ?_);refine ah (g9 (a:=()) rfl ?_);refine ah (g9 (a:=()) rfl ?_);refine K2 rfl ?_;refine ah (g9 (KBy.special_eq M8) ?_);refine ah (qd ?_);refine ah (g9 (a:=cU "bytes") rfl ?_);refine bm_if_true (by decide) ?_;exact aH (bq _ rfl h)
theorem Ar(q:Q (.byt b) Y Z):cI G B E (.type "bytes") [.byt b] Y Z Q:=by intro V s vs S hi;refine aM (aG.mp hi) ?_;clear hi;intro v1 r1 z3 i1 hi;subst z3;obtain rfl:=be.mp hi;have hv:=i1;refine aY i1 ?_;clear i1;intro t z4;subst z4;exact callType_new F.bm_called (by decide) (F.bm_typeCall _) (F.bm_newCall _) (fun obj=>Ia obj _) F.bm_entry Cm ⟨PySem.W.typeIs_bytes _ _ _,_,Y,Z,V,S,.refl _,hv,q⟩
mutual
noncomputable def ow:DV->Bool|.raw .none=>ai|.raw (.bool _)=>ai|.int _=>ai|.str _=>ai|.byt _=>ai|.tup l=>kG l|_=>ak
noncomputable def kG:List DV->Bool|[]=>ai|d::r=>ow d&&kG r
end
mutual
noncomputable def Hl:DV->Nat|.tup l=>wn l+1|_=>0
noncomputable def wn:List DV->Nat|[]=>0|d::r=>max (Hl d) (wn r)
end
mutual
theorem MP {s:ay} (k:Kp V s.heap.get?):∀d A a b,ow d=ai->A.units+Hl d<K1->Is prog w V d a->Is prog w V d b->nF A s a b ai
 |.raw u,A,a,b,h,hu,i,j=>by refine aZ (aT.mp i) fun z5 zz=>?_;subst z5;refine aZ (aT.mp j) fun z6 zz=>?_;subst z6;exact CM _
 |.int x,A,a,b,h,hu,i,j=>by refine aY (bA.mp i) fun t z7=>?_;subst z7;refine aY (bA.mp j) fun u z8=>?_;subst z8;have:=ZV (A:=A) (s:=s) x t x u;rwa[beq_self_eq_true] at this
 |.str x,A,a,b,h,hu,i,j=>by refine aY (io.mp i) fun t z9=>?_;subst z9;refine aY (io.mp j) fun u z10=>?_;subst z10;have:=ZT (A:=A) (s:=s) x t x u;rwa[beq_self_eq_true] at this
 |.byt x,A,a,b,h,hu,i,j=>by refine aY i ?_;clear i;intro t z11;subst z11;refine aY j ?_;clear j;intro u z12;subst z12;intro prog w E Q hQ;exact eqBool_bytes (by simpa using hQ)
 |.tup l,A,a,b,h,hu,i,j=>by
  refine bE i ?_;clear i;intro a o vs n z13 h1 h2 h3 h4 h5;subst z13;refine bE j ?_;clear j;intro b o' vs' n' z14 k1 k2 k3 k4 k5;subst z14;by_cases hab:a=b;.subst hab;exact CM _
  .have n1:vs.size=l.length:=by rw[<-aF,bb h5]
   have n2:vs'.size=l.length:=by rw[<-aF,bb k5]
   refine ZU hab ?_;have:=ZS (A:=A) (s:=s) (l:=a) (b:=b) (items:=vs) (items2:=vs') (e:=fun zz=>ai) (dI _ (k _ _ h1) h2 n h4) (dI _ (k _ _ k1) k2 n' k4) (Yw hu) (fun q q1 q2=>by have:=wh k l A.in1 vs.toList vs'.toList h (by show A.units+1+_<_;exact Yv hu) h5 k5 q (by simpa using q1) (by simpa using q2);simpa using this);have e:((dF (min vs.size vs'.size)).all (fun zz=>ai)&&vs.size==vs'.size)=ai:=by rw[n1,n2];simp
   rw[e] at this;exact this
 |.lst _,_,_,_,h,_,_,_=>jP h|.sdic _,_,_,_,h,_,_,_=>jP h|.idic _,_,_,_,h,_,_,_=>jP h|.inst _ _,_,_,_,h,_,_,_=>jP h|.any,_,_,_,h,_,_,_=>jP h
theorem wh {s:ay} (k:Kp V s.heap.get?):∀l A vs ws,kG l=ai->A.units+wn l<K1->Mine.gO prog w V l vs->Mine.gO prog w V l ws->∀j h1(h2:j<ws.length),nF A s vs[j] ws[j] ai
 |[],A,vs,ws,_,_,i,_,j,h1,_=>by obtain rfl:=be.mp i;exact absurd h1 (iJ _)
 |d::r,A,vs,ws,h,hu,i,i',j,h1,h2=>by refine aM (aG.mp i) fun v vs z15 a1 a2=>?_;subst z15;refine aM (aG.mp i') fun u ws z16 b1 b2=>?_;subst z16;replace h:=cW.mp h;cases j with|zero=>exact MP k d A v u h.1 (Yu hu) a1 b1|succ j=>exact wh k r A vs ws h.2 (Yt hu) a2 b2 j (f6 h1) (f6 h2)
end
theorem Dc(O:B.Ok G)(hp:kG l=ai)(hd:wn l<=60)(q:Q (.bool ak) Y Z):O2 G B E (Is G.prog G.w) (bi .NotEq) (.tup l) (.tup l) Y Z Q:=by
 intro V s a b S i j;refine bE i ?_;clear i;intro a o vs n z17 h1 h2 h3 h4 h5;subst z17;refine bE j ?_;clear j;intro b o' vs' n' z18 k1 k2 k3 k4 k5;subst z18;have n1:vs.size=l.length:=by rw[<-aF,bb h5]
 have n2:vs'.size=l.length:=by rw[<-aF,bb k5]
 have hu:=O.line;have:=VV (A:=B.A) (s:=s) (l:=a) (b:=b) (items:=vs) (items2:=vs') (e:=fun zz=>ai) (dI _ (S.vh _ _ h1) h2 n h4) (dI _ (S.vh _ _ k1) k2 n' k4) (Bu hu) (fun q q1 q2=>by have:=wh S.vh l B.A.in1 vs.toList vs'.toList hp (by show B.A.units+1+_<_;exact Ys hd hu) h5 k5 q (by simpa using q1) (by simpa using q2);simpa using this);rw[n1,n2] at this;have e:(!((dF (min l.length l.length)).all (fun zz=>ai)&&l.length==l.length))=ak:=by simp
 rw[e] at this;exact this _ _ _ _ ⟨_,Y,Z,V,S,.refl _,aT.mpr ⟨rfl,rfl⟩,q⟩
def jl(ls:List xA)(o:ux):Prop:=∃l,o=tabObj (triples l).toArray/\l.map (·.1)=ls
def Pw(qual:aV)(params:RS)(body:bZ)(scope:Rk)(clos:List (aV×aW))(V:Vw)(o:ux):Prop:=∃c' ctv pm oc vs t,o=kla_obj "<lambda>" qual params body scope clos pm c' ctv/\V c'=ac oc/\oc.data=.fields vs/\vs[1]?=ac (.str qual t)
theorem GO(qual params body scope clos):∀V V' o,Kp V V'->Pw qual params body scope clos V o->Pw qual params body scope clos V' o:=fun V V' o k z1=>ei z1 fun c' ctv pm oc vs y49=>bp y49 fun t e h r=>⟨c',ctv,pm,oc,vs,t,e,k _ _ h,r⟩
@[reducible] noncomputable def Dp(qual:aV)(params:RS)(body:bZ)(scope:Rk)(clos:List (aV×aW)):MO:=.prV (Pw qual params body scope clos) (GO qual params body scope clos)
theorem FU:∀l,TriplesOk (triples l):=by
 intro p0_;induction p0_ with|nil=>exact trivial|cons p_ r ih=>
  rcases p_ with⟨p,c⟩
  exact ih
structure Nm (G:G0):Prop where
 name:G.mg "__builtins__" = ac (.ref 4)
 at4:∃ob,G.hb.get? 4=ac ob/\ob.cls=.type "module"/\ob.dict=ac d7/\ob.data=.plain
theorem b9.turnX{m1 m1':MO}(S:b9 (cx G B) V Y ((a,m1)::Z) s){h':jk}{t:Nat}(hk:∀x o,x≠a->s.heap.get? x=ac o->h'.get? x=ac o)(hsz:s.heap.objs.size<=h'.objs.size)(h1:ju G.prog G.w V h'.get? a m1'):b9 (cx G B) V Y ((a,m1')::Z) {s with heap:=h',toks:=t}:=by
 have dj:=av.mp S.dj;have d2:=av.mp dj.2;have nLa:B.L≠a:=fun e=>dj.1 (e▸.head _);have na:∀p∈Z,p.1≠a:=fun p hp e=>d2.1 (az.mpr (bq p hp e));have va:V a=aq:=S.vm (a,m1) (.head _);have ma:=S.mf (a,m1) (.head _);refine ar S.m ?_;(try clear m);intro m z2 he;refine fw z2 ?_;clear z2;intro oL es ep hL r;refine⟨(bq m (oW oL es ep (hk _ _ nLa hL) r) he),S.nd,fun p hp=>?_,S.dj,fun x o e=>hk x o (fun q=>by subst q;rw[va] at e;injection e) (S.vh _ _ e),S.vL,fun p hp=>?_,S.fr,S.v0,S.b0,fun p hp=>?_,fun x o n l e=>?_,ae S.sz hsz,S.hk,S.rest⟩
 .rcases ao.mp hp with rfl|hp
  .exact h1
  .refine aY ((S.mu p (.tail _ hp)).at) fun o ho=>?_
   exact(S.mu p (.tail _ hp)).mono (.refl _) ((hk _ _ (na p hp) ho).trans ho.symm)
 .rcases ao.mp hp with rfl|hp
  .exact va
  .exact S.vm p (.tail _ hp)
 .rcases ao.mp hp with rfl|hp
  .exact ma
  .exact S.mf p (.tail _ hp)
 .refine ar (S.pr x o n l e) fun o' e' r=>?_
  have lt:=aR e;refine bq o' (hk x o' (fun q=>?_) e') r;subst q;rcases ma with z|z;.exact n z
  .exact absurd lt (bu.mpr z)
theorem kt{body:bZ}{ls:List xA}(O:B.Ok G)(Bm:Nm G)(hdef:defaultsOf params B.env=([],[]))(hcl:Ol scope B.env=pure clos)(hcode:B.env.code=.ref c)(C:∀h,G.K.In h->W9 h c P)(hn:ls.all (fun q=>!(q.line==pos.line&&q.col==pos.col))=ai)(R:fE P (.pr (jl ls)) (.pr (jl (ls++[pos]))) Z Z')(hP:P≠4/\P≠ce)(q:∀f,Q (.ptr f) Y ((f,Dp (B.env.qual ++ "<lambda>") params body scope clos)::Z')):EV G B E (a9 (.Lambda params body scope pos) B.env) Y Z Q:=by
 intro V s S;refine cX R.split fun Z1 Z2 z3 z4=>?_;subst z3;subst z4;have S:=S.perm gR;refine Aj (S.mu (P,_) (.head _)) fun oP hoP l z5 hls=>?_;subst z5;have hns:s.heap.Ns ce G.mg:=O.g.g.keeps S.base;have hnf:codeAmong pos (triples l).toArray.toList=aq:=by rw[kA];refine codeAmong_triples pos l fun q hq z6=>aZ z6 fun e1 e2=>?_;have:=aU.mp hn q.1 (hls▸ax hq);rw[e1,e2] at this;simp at this
 refine jD Bm.at4 fun ob b1 b2 b3 b4=>?_;refine kla_eval hdef (kla_makeFunction (mg:=G.mg) (clos:=clos) (c:=c) (P:=P) (ps:=(triples l).toArray) hcl O.c.glo hns hcode (C _ (S.kin O)) hoP (by rw[kA];exact FU l) hnf (fun e=>hP.2 e.symm) ⟨4,ob,Bm.name,by decide,by decide,fun e=>hP.1 e.symm,S.base _ _ b1,b2,b3,b4⟩ fun c' ctv h' tk hx hge hlt hrec htb=>?_);refine d9 hrec ?_;clear hrec;intro c_2 oc vs t e2 hoc hd hv;(injection e2 with e2;subst e2);have hsz:s.heap.objs.size<=h'.objs.size:=b8 (bJ hge hlt);have S1:=S.turnX (h':=h') (t:=tk) (m1':=.pr (jl (ls++[pos]))) (fun x o n e=>hx x o n e) hsz ⟨_,htb,l++[(pos,c')],by rw[triples_append];simp,by rw[aA,hls];rfl⟩;have vn:∀a,s.heap.objs.size<=a->V a=aq:=fun a ha=>by cases z:V a with|none=>rfl|some o=>exact absurd (aR (S.vh _ _ z)) (bu.mpr ha)
 have S2:=S1.adopt (s_0:=s) hge hoc (vn _ hge) S.sz S.frLt (fun p hp=>by
  rcases ao.mp hp with rfl|hp;.exact S.muLt (p:=(P,MO.pr (jl ls))) (.head _)
  .exact S.muLt (.tail _ hp))
 have kf:Kp V (fR V c' oc):=c9 (vn _ hge);have S3:=S2.allocMu O.c (kla_obj "<lambda>" (B.env.qual ++ "<lambda>") params body scope clos ((G.mg "__name__").getD .none) c' ctv) (Dp (B.env.qual ++ "<lambda>") params body scope clos) rfl ⟨_,aN _ rfl,c',ctv,_,oc,vs,t,rfl,bT _ _ _,hd,hv⟩;refine⟨.ptr h'.objs.size,Y,_,_,S3.perm ?_,kf,aT.mpr ⟨rfl,rfl⟩,q h'.objs.size⟩;exact ay' _ gR.symm
theorem QI{ok:Prop}{body:bZ}{clos:List (aV×aW)}(g:G.Ok)(hmem:(f,Dp qual params body scope clos)∈Z0)(hbind:∀pm cv ctv,i6 (kla_fn "<lambda>" qual params body scope clos pm cv ctv) ⟨[],[]⟩=pure [])(hco:scope.isCoroutine=ak)(hgen:scope.isGenerator=ak)(hk:scope.kind=.function)(hcell:∀x∈scope.names,x.2≠.cell)(H:∀B c',B.Ok G->qb B->B.k=k->B.hd=ak->B.env=envX qual scope B.L f (.ref c') clos->B.m0=Z0.map (·.1)->EV G B (fun e s'=>¬ok/\EF G B Z0 e s') (a9 body B.env) [] Z0 (fun d zz Z'=>ok/\Z'.map (·.1)=Z0.map (·.1)/\R d Z')):jf G (k+1) (.ref f) [] Z0 R ok:=by
 intro A V s vs rm hcalm hh hstk P hi;have kb:∀b o,G.hb.get? b=ac o->s.heap.get? b=ac o:=fun b o e=>P.vh _ _ (P.b0 _ _ e);obtain rfl:=be.mp hi;refine wj (P.mu _ hmem) fun fo hfo c' ctv pm y50=>eB y50 fun oc ws t z7 hVc hd hw=>?_;subst z7;have hcd:s.heap.CodeRec (.ref c') qual:=(fF c' oc ws t rfl (P.vh _ _ hVc) hd hw)
 refine kla_callFunE rm.depth hfo rfl hco hgen rfl hcd ?_;rw[hbind];refine aH (KS hcell (fun x hx=>nomatch hx) (fun h₁ hns hsb=>⟨(g.lim.keeps kb).fresh _ hsb,?_⟩) hk);show fH _ _ (.expr body (envX qual scope s.heap.objs.size f (.ref c') clos)) _ _;have hk_1:∀b o,s.heap.get? b=ac o->h₁.get? b=ac o:=fun b o e=>hsb.extBut b o (bP (aR e)) (aX _ e);have OB:(su A (envX qual scope s.heap.objs.size f (.ref c') clos) V Z0 s k ak).Ok G:=qY g ⟨hk,rfl,rfl,rfl⟩ rfl rm hcalm hstk;refine kla_codeExpr (aQ (H _ c' OB ⟨rfl,ar hstk fun l hl _=>⟨l,e8 hl⟩⟩ rfl rfl rfl rfl V _ (sf (t:=s.toks+0) P hh (bq _ hns (fun p hp=>nomatch hp)) xB hk_1)) (fun v s' z8=>iI z8 fun d Y' Z' V' S' k' i' z9=>jK z9 fun hok hks hR=>?_) fun e s'' x=>?_);.exact ez d _ V' (pi (loc:=[]) hstk rfl S' hks) i' hok hR
 .exact aQ (vz (E':=fun zz zz=>False) rfl rfl OB hstk x.2) (fun zz zz y=>⟨x.1,y⟩) fun zz zz y=>y.elim
theorem JM(O:B.Ok G)(h:EV G B E (a9 func B.env) Y Z fun fd Y1 Z1=>∃f q ps b sc cl,fd=.ptr f/\(f,Dp q ps b sc cl)∈Z1/\cI G B E (.ref f) [] Y1 Z1 Q)(he:a9 (.Call func [] [] pos) B.env=(do rY pos (<-a9 func B.env) [] (cy pos (br [] B.env)) (pG pos (jw [] B.env)))):EV G B E (a9 (.Call func [] [] pos) B.env) Y Z Q:=by intro V s S;rw[he];refine ah (WP.use h S (fun v s_1 fd Y1 Z1 V_1 S_1 k_1 i_1 z2=>ei z2 fun f q ps b sc y9=>bp y9 fun cl e hm h₁=>?_));subst e;refine aZ (aT.mp i_1) fun z3 zz=>?_;subst z3;refine wj (S_1.mu _ hm) fun fo hfo c' ctv pm y10=>fw y10 fun oc ws t z4 zz=>?_;subst z4;refine callWith_of (P:=fun h=>h.get? f=ac (kla_obj "<lambda>" q ps b sc cl pm c' ctv)) rfl (fun h X=>(bq .frame (.inl rfl) ((CP (part:=aq) X).andThen .now))) (rA (aH ⟨hfo,?_⟩) rfl);exact aQ (h₁ V_1 s_1 [] S_1 (be.mpr rfl)) (fun zz zz=>qK.up k_1) fun zz zz x=>x
noncomputable def BN(le:α->α->Bool)(x:α):List α->List α|[]=>[x]|y::r=>if le x y then x::y::r else y::BN le x r
theorem EU(le)(x:α){y r}:BN le x (y::r)=(if le x y then x::y::r else y::BN le x r):=rfl
noncomputable def oj(le:α->α->Bool):List α->List α|[]=>[]|x::r=>BN le x (oj le r)
theorem ye(le x):∀l:List α,(BN le x l).Perm (x::l):=by
 intro p0_;induction p0_ with|nil=>exact .refl _|cons y r ih=>
  (first|rw[insG_e0]|rw[EU]|unfold BN);split;.exact .refl _
  .exact((ih).cons y).trans (.swap _ _ _)
theorem uW(le):∀l:List α,(oj le l).Perm l:=by intro p0_;induction p0_ with|nil=>exact .refl _|cons x r ih=>exact(ye le x _).trans ((ih).cons x)
theorem GW(ht:∀a b c,le a b=ai->le b c=ai->le a c=ai)(hn:∀a b,le a b=ai\/le b a=ai)(x):∀l:List α,l.Pairwise (fun a b=>le a b=ai)->(BN le x l).Pairwise (fun a b=>le a b=ai):=by
 intro p0_;induction p0_ with
 |nil=>intro zz;exact List.pairwise_singleton _ _
 |cons y r ih=>
  intro h;have h':=iK.mp h;(first|rw[insG_e0]|rw[EU]|unfold BN);split
  .rename_i e
   refine iK.mpr ⟨fun z hz=>?_,h⟩;rcases ao.mp hz with rfl|hz;.exact e
   .exact ht _ _ _ e (h'.1 z hz)
  .rename_i e
   refine iK.mpr ⟨fun z hz=>?_,ih h'.2⟩;rcases ao.mp ((ye le x r).mem_iff.mp hz) with rfl|hz;.exact(hn z y).resolve_left e
   .exact h'.1 z hz
theorem uX{le:α->α->Bool}(ht:∀a b c,le a b=ai->le b c=ai->le a c=ai)(hn:∀a b,le a b=ai\/le b a=ai):∀l,(oj le l).Pairwise (fun a b=>le a b=ai):=by intro p0_;induction p0_ with|nil=>exact .nil|cons x r ih=>exact GW ht hn x _ (ih)
theorem Ey(l):kW l=oj (fun a b=>decide (a<=b)) l:=by
 refine(uV (uW _ l) ((uX (le:=fun a b:Int=>decide (a<=b)) ?_ ?_ l).imp fun h=>by simpa using h)).symm;.intro a b c h1 h2;simp at *;exact ba h1 h2
 .intro a b;simp;exact Tq
theorem yZ(l):nn l=oj xj l:=((uW xj l).trans (qm l).symm).eq_of_pairwise (fun a b zz zz h1 h2=>BE h1 h2) (uX (le:=xj) (fun zz zz zz=>sA) (fun a b=>by have:=x9 a b;rwa[iH] at this) l) (uU l) |>.symm
def Kz(G:G0)(B:Bx)(E:aE->ay->Prop)(t:HG Flow)(Y:aP)(Z:Mu)(Q:Fl->aP->Mu->Prop):Prop:=∀V s,b9 (cx G B) V Y Z s->bd (bf G.prog G.w) B.A t (fun v s'=>∃d Y' Z' V',b9 (cx G B) V' Y' Z' s'/\wE G.prog G.w V' d v/\Q d Y' Z') E s
theorem Kz.of{Q:Fl->aP->Mu->Prop}(h:EX G B E t Y Z Q):Kz G B E t Y Z Q:=fun V s S=>WP.use h S (fun v s' d Y' Z' V' S' k' i' q=>(kh d Y' Z' V' S' i' q))
noncomputable def g0(o:ux):Bool:=match o.data with
 |.dict es _=>match es.toList with|e::_=>e.key.isStrOf (aa "Type")|[]=>ak
 |_=>ak
noncomputable def nH(V:Vw):Vw:=fun a=>match V a with
 |some o=>if g0 o then aq else ac o
 |none=>aq
set_option tactic.hygienic true in
theorem L5(V):Kp (nH V) V:=fun a o e=>by
 unfold nH at e;split at e
 .rename_i o' h
  split at e;.injection e
  ·(injection e with e;subst e);exact h
 .injection e
theorem k9(h:V a=ac o)(n:g0 o=ak):nH V a=ac o:=by unfold nH;rw[h];dsimp only;rw[n];rfl
noncomputable def Rs:List (aV×DV)->Bool|[]=>ai|(x,_)::_=>!decide (x=aa "Type")
mutual
/-- no dict in it has Type for its first key -/
noncomputable def nh:DV->Bool|.tup l=>Pk l|.lst l=>Pk l|.sdic l=>Rs l&&HO l|.idic l=>WI l|.inst _ l=>Rs l&&HO l|_=>ai
noncomputable def Pk:List DV->Bool|[]=>ai|d::r=>nh d&&Pk r
noncomputable def HO:List (aV×DV)->Bool|[]=>ai|(_,d)::r=>nh d&&HO r
noncomputable def WI:List (Int×DV)->Bool|[]=>ai|(_,d)::r=>nh d&&WI r
end
theorem yh(h:o.IsDictOf (strKind prog w) kvs)(i:Cs prog w V l kvs):g0 o=!Rs l:=by
 refine pD h ?_;clear h;intro es ep zz hd zz hp zz;unfold g0;rw[hd];dsimp only;generalize es.toList=L at hp ⊢;cases l with
 |nil=>subst i;cases hp with|nil=>rfl
 |cons p r=>obtain⟨x,d⟩:=p;refine aM i ?_;clear i;intro v rs z2 zz zz;subst z2;cases hp with|@cons e kv es' kvs' h1 h2 h3=>dsimp only;refine aY (kj h1) fun t ht=>?_;rw[ht];unfold Rs Nu;rw[nM,wN];simp
theorem G2(h:o.IsDictOf (HU prog w) kvs):g0 o=ak:=by refine pD h ?_;clear h;intro es ep zz hd zz hp zz;unfold g0;rw[hd];dsimp only;generalize es.toList=L at hp ⊢;cases hp with|nil=>rfl|cons h1 h2 h3=>dsimp only;refine aY (HF h1) fun t ht=>?_;rw[ht];rfl
mutual
theorem mS:∀d v,Is prog w V d v->nh d=ai->Is prog w (nH V) d v
 |.raw _,v,h,_=>by exact h
 |.int _,v,h,_=>by exact h
 |.str _,v,h,_=>by exact h
 |.byt _,v,h,_=>by exact h
 |.any,v,h,_=>by exact h
 |.tup l,v,h,n=>by show Exists _;refine bE h ?_;clear h;intro a o vs k e h1 h2 h3 h4 h5;exact cJ a o vs k e (k9 h1 (by unfold g0;rw[h4])) h2 h3 h4 (rf l _ h5 n)
 |.lst l,v,h,n=>by show Exists _;refine bE h ?_;clear h;intro a o vs k e h1 h2 h3 h4 h5;exact cJ a o vs k e (k9 h1 (by unfold g0;rw[h4])) h2 h3 h4 (rf l _ h5 n)
 |.sdic l,v,h,n=>by show Exists _;replace n:=cW.mp n;refine bU h ?_;clear h;intro a o kvs e h1 h2 h3 h4;exact cZ a o kvs e (k9 h1 (by rw[yh h3 h4,n.1];rfl)) h2 h3 (q9 l _ h4 n.2)
 |.idic l,v,h,n=>by show Exists _;refine bU h ?_;clear h;intro a o kvs e h1 h2 h3 h4;exact cZ a o kvs e (k9 h1 (G2 h3)) h2 h3 (vG l _ h4 n)
 |.inst C l,v,h,n=>by show Exists _;replace n:=cW.mp n;refine d9 h ?_;clear h;intro a dx es k e h1 h2 h3;refine fF a dx es k e (k9 h1 rfl) (k9 h2 ?_) (vI l _ h3 n.2);cases l with|nil=>subst h3;rfl|cons p r=>obtain⟨x,d⟩:=p;refine bB h3 ?_;clear h3;intro e' rs z3 z4 zz zz;subst z3;refine aY z4 ?_;clear z4;intro t ht;have n1:=n.1;unfold Rs at n1;unfold g0;simp only[ht,Nu];simpa using n1
theorem rf:∀l vs,Mine.gO prog w V l vs->Pk l=ai->Mine.gO prog w (nH V) l vs|[],vs,h,_=>be.mpr (be.mp h)|d::r,vs,h,n=>by refine aM (aG.mp h) fun v rs z5 a b=>?_;subst z5;replace n:=cW.mp n;exact aG.mpr (bO v rs rfl (mS d v a n.1) (rf r rs b n.2))
theorem q9:∀l vs,Cs prog w V l vs->HO l=ai->Cs prog w (nH V) l vs
 |[],vs,h,_=>by exact h
 |(x,d)::r,vs,h,n=>by show Exists _;refine aM h ?_;clear h;intro v rs e a b;replace n:=cW.mp n;exact bO v rs e (mS d v a n.1) (q9 r rs b n.2)
theorem vG:∀l vs,CD prog w V l vs->WI l=ai->CD prog w (nH V) l vs
 |[],vs,h,_=>by exact h
 |(x,d)::r,vs,h,n=>by show Exists _;refine aM h ?_;clear h;intro v rs e a b;replace n:=cW.mp n;exact bO v rs e (mS d v a n.1) (vG r rs b n.2)
theorem vI:∀l vs,yx prog w V l vs->HO l=ai->yx prog w (nH V) l vs
 |[],vs,h,_=>by exact h
 |(x,d)::r,vs,h,n=>by show Exists _;refine bB h ?_;clear h;intro e' rs e k a b;replace n:=cW.mp n;exact du e' rs e k (mS d _ a n.1) (vI r rs b n.2)
end
structure Kx (G:G0) (A:fQ) (Z:Mu) (s:ay) (V':Vw) (Z':Mu) (s':ay):Prop where
 vh:Kp V' s'.heap.get?
 mu:∀p∈Z',ju G.prog G.w V' s'.heap.get? p.1 p.2
 as:Z'.map (·.1)=Z.map (·.1)
 pr:∀a o,a∉Z.map (·.1)->s.heap.get? a=ac o->∃o',s'.heap.get? a=ac o'/\rK (mV A) a o o'
 rest:uf s s'
abbrev Zq(G:G0)(B:Bx)(E:aE->ay->Prop)(rest:List jU)(Q:Fl->aP->Mu->Prop):Fl->aP->Mu->Prop:=fun f Y' Z'=>match f with|.next=>Kz G B E (eD rest B.env) Y' Z' Q|f=>Q f Y' Z'
theorem mh{st:jU}{Q:Fl->aP->Mu->Prop}(h:EX G B E (fb st B.env) Y Z (Zq G B E rest Q)):Kz G B E (eD (st::rest) B.env) Y Z Q:=by
 intro V s S;refine Rw (WP.use h S (fun f s_1 a Y1 Z1 V_1 S_1 k_1 i_1 q=>?_));cases a with
 |next=>obtain rfl:f=.next:=i_1;exact q V_1 s_1 S_1
 |brk=>obtain rfl:f=.brk:=i_1;exact kh .brk Y1 Z1 V_1 S_1 rfl q
 |cont=>obtain rfl:f=.cont:=i_1;exact kh .cont Y1 Z1 V_1 S_1 rfl q
 |ret d=>refine ar i_1 ?_;clear i_1;intro v z2 hv;subst z2;exact kh (.ret d) Y1 Z1 V_1 S_1 (bq v rfl hv) q
theorem MU{Y0:aP}{Yc:List DV}{R:DV->Mu->Prop}(g:G.Ok)(ho:G.K.lookup f=ac o)(hdata:o.data=.func fd)(hb:fd.body=.stmts body)(hco:fd.scope.isCoroutine=ak)(hgen:fd.scope.isGenerator=ak)(hk:fd.scope.kind=.function)(hclo:fd.closure=[])(hgl:fd.globals=ce)(hbu:fd.builtins=d7)(hcd:nR G.K fd.code fd.qualname=ai){ps:List aV}(hlen:ds.length=ps.length)(hbi:∀vs,vs.length=ps.length->i6 fd ⟨vs,[]⟩=pure (ps.zip vs))(ndp:ps.Nodup)(hkind:∀n,∀x∈ps,fd.scope.names.lookup x=ac .local\/(fd.scope.names.lookup x=ac .cell/\((cP n fd.scope.names []).lookup x).isSome=ai))(hY:∀p∈Y0,fd.scope.names.lookup p.1=ac .local/\(p.2≠.any->p∈ps.zip ds))(hc:∀n,∀p∈pR (cP n fd.scope.names []) Yc,fd.scope.names.lookup p.1.1=ac .cell/\(cP n fd.scope.names []).lookup p.1.1=ac p.1.2/\(p.2≠.any->(p.1.1,p.2)∈ps.zip ds))(nd:(Y0.map (·.1)).Nodup)(hend:∀d Z' x mo,R d Z'->(x,mo)∈(Z':Mu)\/True->Rt mo=ac d->False)(H:∀B,B.Ok G->B.k=k->B.hd=ak->B.env=fc fd B.L f->B.m0=Z0.map (·.1)->B.V0=V0->Kz G B (fun zz zz=>False) (eD body B.env) Y0 (jt fd.scope.names B.L Yc++Z0) (ki Z0 R)):∀A s vs,qE A (k+1)->A.handled=aq->m3 A (Z0.map (·.1)) V0 s->Eb G V0 Z0 s->gO G.prog G.w V0 ds vs->fH (bf G.prog G.w) A (.call (.ref f) ⟨vs,[]⟩) (oY (fun r s'=>∃d Z' V',Kx G A Z0 s V' Z' s'/\Is G.prog G.w V' d r/\R d Z') fun zz zz=>False) s:=by
 intro A s vs rm hcalm hstk P hi;have hh:CG A V0:=.inl hcalm;have kb:∀b o,G.hb.get? b=ac o->s.heap.get? b=ac o:=fun b o e=>P.vh _ _ (P.b0 _ _ e);have hvl:vs.length=ps.length:=(bb hi).trans hlen;have nz:((ps.zip vs).map (·.1)).Nodup:=by rw[show(ps.zip vs).map (·.1)=ps from jO (bv hvl.symm)];exact ndp
 have inz:∀p∈ps.zip ds,∃v,(p.1,v)∈ps.zip vs/\Is G.prog G.w V0 p.2 v:=rc hi;refine Oj rm.depth ((g.kin.keeps kb) _ _ ho) hdata (g.lim.keeps kb) (CL (g.kin.keeps kb) hcd) hb (hbi vs hvl) hclo (fun x hx=>hkind _ _ (gb hx).1) (fun s_1 x=>?_) hco hgen hk;refine g5 x.toInCall.same fun h₁ tk z1=>?_;subst z1;have OB:(su A (fc fd s.heap.objs.size f) V0 Z0 s k ak).Ok G:=qY g ⟨hk,rfl,hgl,hbu⟩ rfl rm (fun _=>hcalm) hstk;refine aQ (H _ OB rfl rfl rfl rfl rfl V0 _ (xK hY hc nd nz inz P hh x)) (fun fl s' z6=>d1 z6 fun a Y' Z' V' S' y29=>JZ y29 fun i' loc Zr d e y30=>jK y30 fun has hR hfl=>?_) fun e s'' x=>x.elim;have T:Kx G A Z0 s V' Zr s':=(fun p=>⟨p.vh,p.mu,p.as,p.pr,p.rest⟩) (pi hstk rfl (S'.perm e) has)
 rcases hfl with rfl|⟨rfl,rfl⟩|⟨x,mo,rfl,hx,hmo⟩
 .refine ar i' ?_
  clear i';intro v z7 hv;subst z7;exact i0 d Zr V' T hv hR
 .obtain rfl:fl=.next:=i'
  exact i0 .none Zr V' T (aT.mpr ⟨rfl,rfl⟩) hR
 .exact(hend d Zr x mo hR (.inr trivial) hmo).elim
set_option backward.match.sparseCases false
structure dK (G:G0):Prop where
 ok:G.Ok
@[reducible] noncomputable def ij(n g:Int):DV:=.inst 254 [(aa "number",.int n),(aa "generation",.int g)]
@[reducible] noncomputable def xT(x:aV):DV:=.inst 183 [(aa "text",.str x)]
@[reducible] noncomputable def pc(h o:DV):DV:=.inst 226 [(aa "head",h),(aa "octets",o)]
@[reducible] noncomputable def O0(t r:DV):DV:=.inst 368 [(aa "table",t),(aa "trailer",r)]
@[reducible] noncomputable def IT(r f:DV):DV:=.inst 388 [(aa "reference",r),(aa "fields",f)]
@[reducible] noncomputable def IC(r h a i p:DV):DV:=.inst 409 [(aa "reference",r),(aa "head",h),(aa "above",a),(aa "inherited",i),(aa "is_page",p)]
theorem bx(g:dK G)(h:nsIn (hdP.heap_1 G.w.params) ce x=ac (ac v)):Ec G x v:=.inl (mg_of g.ok.kin g.ok.g h)
theorem dR(g:dK G)(h:nsIn (hdP.heap_1 G.w.params) ce x=ac aq)(hn:x≠"__name__")(hb:HZ x=ac v):Ec G x v:=.inr (jR (mg_none_of g.ok.kin g.ok.g h) hn hb)
theorem bL(h:Ec G x v)(hh:rW v=ai):bY G x (.raw v):=(bq v h (aT.mpr ⟨rfl,hh⟩))
theorem Mp{i:Int}(h:Ec G x (.int i t)):bY G x (.int i):=(bq _ h (bA.mpr ⟨_,rfl⟩))
section
variable (g : dK G)
include g
theorem dW:bY G (aa "TreeFault") (.raw (.ref 59)):=bL (bx g (by kernel_rfl)) rfl
theorem vV:bY G (aa "Decimal") (.raw (.ref 155)):=bL (bx g (by kernel_rfl)) rfl
theorem mU:bY G (aa "Name") (.raw (.ref 183)):=bL (bx g (by kernel_rfl)) rfl
theorem yi:bY G (aa "String") (.raw (.ref 205)):=bL (bx g (by kernel_rfl)) rfl
theorem sH:bY G (aa "Stream") (.raw (.ref 226)):=bL (bx g (by kernel_rfl)) rfl
theorem dX:bY G (aa "Reference") (.raw (.ref 254)):=bL (bx g (by kernel_rfl)) rfl
theorem kL:bY G (aa "kind_of") (.raw (.ref 265)):=bL (bx g (by kernel_rfl)) rfl
theorem p5:bY G (aa "told_plain") (.raw (.ref 272)):=bL (bx g (by kernel_rfl)) rfl
theorem eR:bY G (aa "told_objects") (.raw (.ref 277)):=bL (bx g (by kernel_rfl)) rfl
theorem sG:bY G (aa "copied") (.raw (.ref 282)):=bL (bx g (by kernel_rfl)) rfl
theorem BU:bY G (aa "Shelf") (.raw (.ref 368)):=bL (bx g (by kernel_rfl)) rfl
theorem Mr:bY G (aa "Page") (.raw (.ref 388)):=bL (bx g (by kernel_rfl)) rfl
theorem Mq:bY G (aa "Spot") (.raw (.ref 409)):=bL (bx g (by kernel_rfl)) rfl
theorem sD:bY G (aa "turned") (.raw (.ref 420)):=bL (bx g (by kernel_rfl)) rfl
theorem vS:bY G (aa "home_of") (.raw (.ref 427)):=bL (bx g (by kernel_rfl)) rfl
theorem DF:bY G (aa "is_node") (.raw (.ref 434)):=bL (bx g (by kernel_rfl)) rfl
theorem DE:bY G (aa "kids_of") (.raw (.ref 441)):=bL (bx g (by kernel_rfl)) rfl
theorem DC:bY G (aa "met") (.raw (.ref 448)):=bL (bx g (by kernel_rfl)) rfl
theorem vQ:bY G (aa "spots") (.raw (.ref 455)):=bL (bx g (by kernel_rfl)) rfl
theorem zU:bY G (aa "fields_of") (.raw (.ref 462)):=bL (bx g (by kernel_rfl)) rfl
theorem p6:bY G (aa "page_spots") (.raw (.ref 467)):=bL (bx g (by kernel_rfl)) rfl
theorem BR:bY G (aa "pages") (.raw (.ref 472)):=bL (bx g (by kernel_rfl)) rfl
theorem lD:bY G (aa "page_count") (.raw (.ref 479)):=bL (bx g (by kernel_rfl)) rfl
theorem tw:bY G (aa "is_count") (.raw (.ref 486)):=bL (bx g (by kernel_rfl)) rfl
theorem DB:bY G (aa "page_at") (.raw (.ref 493)):=bL (bx g (by kernel_rfl)) rfl
theorem me:bY G (aa "index_of_page") (.raw (.ref 505)):=bL (bx g (by kernel_rfl)) rfl
theorem rp:bY G (aa "counts_of") (.raw (.ref 512)):=bL (bx g (by kernel_rfl)) rfl
theorem ro:bY G (aa "is_parent") (.raw (.ref 519)):=bL (bx g (by kernel_rfl)) rfl
theorem lp:bY G (aa "is_right_count") (.raw (.ref 526)):=bL (bx g (by kernel_rfl)) rfl
theorem oG:bY G (aa "page_faults") (.raw (.ref 533)):=bL (bx g (by kernel_rfl)) rfl
theorem sF:bY G (aa "settle") (.raw (.ref 540)):=bL (bx g (by kernel_rfl)) rfl
theorem Qu:bY G (aa "lay") (.raw (.ref 547)):=bL (bx g (by kernel_rfl)) rfl
theorem DG:bY G (aa "grouped") (.raw (.ref 552)):=bL (bx g (by kernel_rfl)) rfl
theorem vU:bY G (aa "build_pages") (.raw (.ref 557)):=bL (bx g (by kernel_rfl)) rfl
theorem DD:bY G (aa "_law_keg") (.raw (.ref 562)):=bL (bx g (by kernel_rfl)) rfl
theorem lj:bY G (aa "_law_pour") (.raw (.ref 569)):=bL (bx g (by kernel_rfl)) rfl
theorem rk:bY G (aa "_law_nodes") (.raw (.ref 574)):=bL (bx g (by kernel_rfl)) rfl
theorem rn:bY G (aa "_law_below") (.raw (.ref 579)):=bL (bx g (by kernel_rfl)) rfl
theorem ln:bY G (aa "_law_is_refused") (.raw (.ref 586)):=bL (bx g (by kernel_rfl)) rfl
theorem BS:bY G (aa "_law_bent") (.raw (.ref 593)):=bL (bx g (by kernel_rfl)) rfl
theorem tu:bY G (aa "_law_walk") (.raw (.ref 600)):=bL (bx g (by kernel_rfl)) rfl
theorem oH:bY G (aa "_law_indexes_right") (.raw (.ref 605)):=bL (bx g (by kernel_rfl)) rfl
theorem rj:bY G (aa "_law_none_right") (.raw (.ref 612)):=bL (bx g (by kernel_rfl)) rfl
theorem UE:bH G (.ref 46):=cj (by kernel_rfl)
theorem NT:bH G (.ref 59):=cj (by kernel_rfl)
theorem Qj:bH G (.ref 155):=cj (by kernel_rfl)
theorem Qi:bH G (.ref 183):=cj (by kernel_rfl)
theorem Qh:bH G (.ref 205):=cj (by kernel_rfl)
theorem Qg:bH G (.ref 226):=cj (by kernel_rfl)
theorem Qf:bH G (.ref 254):=cj (by kernel_rfl)
theorem Qe:bH G (.ref 265):=cj (by kernel_rfl)
theorem Qd:bH G (.ref 272):=cj (by kernel_rfl)
theorem Qc:bH G (.ref 277):=cj (by kernel_rfl)
theorem Qb:bH G (.ref 282):=cj (by kernel_rfl)
theorem Qa:bH G (.ref 314):=cj (by kernel_rfl)
theorem P9:bH G (.ref 368):=cj (by kernel_rfl)
theorem P0:bH G (.ref 388):=cj (by kernel_rfl)
theorem PZ:bH G (.ref 409):=cj (by kernel_rfl)
theorem PY:bH G (.ref 420):=cj (by kernel_rfl)
theorem PX:bH G (.ref 427):=cj (by kernel_rfl)
theorem PW:bH G (.ref 434):=cj (by kernel_rfl)
theorem PU:bH G (.ref 441):=cj (by kernel_rfl)
theorem PT:bH G (.ref 448):=cj (by kernel_rfl)
theorem PS:bH G (.ref 455):=cj (by kernel_rfl)
theorem PR:bH G (.ref 462):=cj (by kernel_rfl)
theorem PQ:bH G (.ref 467):=cj (by kernel_rfl)
theorem I9:bH G (.ref 472):=cj (by kernel_rfl)
theorem Dq:bH G (.ref 479):=cj (by kernel_rfl)
theorem PP:bH G (.ref 486):=cj (by kernel_rfl)
theorem I8:bH G (.ref 493):=cj (by kernel_rfl)
theorem PO:bH G (.ref 500):=cj (by kernel_rfl)
theorem PN:bH G (.ref 505):=cj (by kernel_rfl)
theorem PM:bH G (.ref 512):=cj (by kernel_rfl)
theorem PL:bH G (.ref 519):=cj (by kernel_rfl)
theorem PK:bH G (.ref 526):=cj (by kernel_rfl)
theorem I7:bH G (.ref 533):=cj (by kernel_rfl)
theorem I6:bH G (.ref 540):=cj (by kernel_rfl)
theorem PJ:bH G (.ref 547):=cj (by kernel_rfl)
theorem PI:bH G (.ref 552):=cj (by kernel_rfl)
theorem PH:bH G (.ref 557):=cj (by kernel_rfl)
theorem PG:bH G (.ref 562):=cj (by kernel_rfl)
theorem PF:bH G (.ref 569):=cj (by kernel_rfl)
theorem PE:bH G (.ref 574):=cj (by kernel_rfl)
theorem PC:bH G (.ref 579):=cj (by kernel_rfl)
theorem PB:bH G (.ref 586):=cj (by kernel_rfl)
theorem PA:bH G (.ref 593):=cj (by kernel_rfl)
theorem Pz:bH G (.ref 600):=cj (by kernel_rfl)
theorem Py:bH G (.ref 605):=cj (by kernel_rfl)
theorem Px:bH G (.ref 612):=cj (by kernel_rfl)
theorem ri:bY G (aa "range") (.raw (.type "range")):=bL (dR g (by kernel_rfl) (by decide +kernel) (by boot_by_name)) rfl
theorem BQ:bY G (aa "reversed") (.raw (.type "reversed")):=bL (dR g (by kernel_rfl) (by decide +kernel) (by boot_by_name)) rfl
theorem zV:bY G (aa "enumerate") (.raw (.type "enumerate")):=bL (dR g (by kernel_rfl) (by decide +kernel) (by boot_by_name)) rfl
theorem vP:bY G (aa "tuple") (.raw (.type "tuple")):=bL (dR g (by kernel_rfl) (by decide +kernel) (by boot_by_name)) rfl
theorem jC:bY G (aa "dict") (.raw (.type "dict")):=bL (dR g (by kernel_rfl) (by decide +kernel) (by boot_by_name)) rfl
theorem vR:bY G (aa "int") (.raw (.type "int")):=bL (dR g (by kernel_rfl) (by decide +kernel) (by boot_by_name)) rfl
theorem un:bY G (aa "bool") (.raw (.type "bool")):=bL (dR g (by kernel_rfl) (by decide +kernel) (by boot_by_name)) rfl
theorem zT:bY G (aa "list") (.raw (.type "list")):=bL (dR g (by kernel_rfl) (by decide +kernel) (by boot_by_name)) rfl
theorem vT:bY G (aa "bytes") (.raw (.type "bytes")):=bL (dR g (by kernel_rfl) (by decide +kernel) (by boot_by_name)) rfl
theorem cT:bY G (aa "isinstance") (.raw (.builtin "isinstance")):=bL (dR g (by kernel_rfl) (by decide +kernel) (by boot_by_name)) (by decide +kernel)
theorem qy:bY G (aa "len") (.raw (.builtin "len")):=bL (dR g (by kernel_rfl) (by decide +kernel) (by boot_by_name)) (by decide +kernel)
theorem sE:bY G (aa "sorted") (.raw (.builtin "sorted")):=bL (dR g (by kernel_rfl) (by decide +kernel) (by boot_by_name)) (by decide +kernel)
theorem Qv:bY G (aa "abs") (.raw (.builtin "abs")):=bL (dR g (by kernel_rfl) (by decide +kernel) (by boot_by_name)) (by decide +kernel)
theorem Qt:bY G (aa "sum") (.raw (.builtin "sum")):=bL (dR g (by kernel_rfl) (by decide +kernel) (by boot_by_name)) (by decide +kernel)
theorem zW:bY G (aa "MOST_HOPS") (.int 30):=by
 have h:nsIn (hdP.heap_1 G.w.params) ce (aa "MOST_HOPS")=ac (ac (.int 30 377)):=by kernel_rfl
 exact Mp (bx g h)
theorem rq:bY G (aa "INHERITED") (.tup [.str (aa "Resources"),.str (aa "MediaBox"),.str (aa "CropBox"),.str (aa "Rotate")]):=by
 have h:nsIn (hdP.heap_1 G.w.params) ce (aa "INHERITED")=ac (ac (.ref 371)):=by kernel_rfl
 refine bq _ (bx g h) ?_;obtain⟨o,vs,n,ho,hc,hdi,hd,hv⟩:∃(o:ux) (vs:Array aE) (n:Nat),(hdP.heap_1 G.w.params).lookup 371=ac o/\o.cls=.type "tuple"/\(o.dict=aq/\o.slots=#[])/\o.data=.seq vs n/\∃a b c d,vs.toList=[.str (aa "Resources") a,.str (aa "MediaBox") b,.str (aa "CropBox") c,.str (aa "Rotate") d]:=by refine⟨_,_,_,rfl,rfl,⟨rfl,rfl⟩,rfl,_,_,_,_,rfl⟩
 refine uq hv ?_;clear hv;intro a b c d hv;show Exists _;refine cJ 371 o vs n rfl (g.ok.kin _ _ (by exact ho)) hc hdi hd ?_;rw[hv];exact aG.mpr (bO _ _ rfl (io.mpr ⟨_,rfl⟩) (aG.mpr (bO _ _ rfl (io.mpr ⟨_,rfl⟩) (aG.mpr (bO _ _ rfl (io.mpr ⟨_,rfl⟩) (aG.mpr (bO _ _ rfl (io.mpr ⟨_,rfl⟩) (be.mpr rfl))))))))
theorem uu:ms G 254:=⟨by kernel_rfl,by kernel_rfl⟩
omit g in theorem nd_254:([aa "number",aa "generation"]:List aV).Nodup:=by decide +kernel
theorem vX:fx G 254 [aa "number",aa "generation"] (aa "number"):=⟨uu g,by kernel_rfl,nd_254⟩
theorem qA:fx G 254 [aa "number",aa "generation"] (aa "generation"):=⟨uu g,by kernel_rfl,nd_254⟩
theorem Fj:ms G 183:=⟨by kernel_rfl,by kernel_rfl⟩
omit g in theorem nd_183:([aa "text"]:List aV).Nodup:=by decide +kernel
theorem Ac:fx G 183 [aa "text"] (aa "text"):=⟨Fj g,by kernel_rfl,nd_183⟩
theorem Ao:ms G 226:=⟨by kernel_rfl,by kernel_rfl⟩
omit g in theorem nd_226:([aa "head",aa "octets"]:List aV).Nodup:=by decide +kernel
theorem Ab:fx G 226 [aa "head",aa "octets"] (aa "head"):=⟨Ao g,by kernel_rfl,nd_226⟩
theorem vY:fx G 226 [aa "head",aa "octets"] (aa "octets"):=⟨Ao g,by kernel_rfl,nd_226⟩
theorem kg:ms G 368:=⟨by kernel_rfl,by kernel_rfl⟩
omit g in theorem nd_368:([aa "table",aa "trailer"]:List aV).Nodup:=by decide +kernel
theorem xo:fx G 368 [aa "table",aa "trailer"] (aa "table"):=⟨kg g,by kernel_rfl,nd_368⟩
theorem tZ:fx G 368 [aa "table",aa "trailer"] (aa "trailer"):=⟨kg g,by kernel_rfl,nd_368⟩
theorem Fi:ms G 388:=⟨by kernel_rfl,by kernel_rfl⟩
omit g in theorem nd_388:([aa "reference",aa "fields"]:List aV).Nodup:=by decide +kernel
theorem rx:fx G 388 [aa "reference",aa "fields"] (aa "reference"):=⟨Fi g,by kernel_rfl,nd_388⟩
theorem vW:fx G 388 [aa "reference",aa "fields"] (aa "fields"):=⟨Fi g,by kernel_rfl,nd_388⟩
theorem rE:ms G 409:=⟨by kernel_rfl,by kernel_rfl⟩
omit g in theorem nd_409:([aa "reference",aa "head",aa "above",aa "inherited",aa "is_page"]:List aV).Nodup:=by decide +kernel
theorem ru:fx G 409 [aa "reference",aa "head",aa "above",aa "inherited",aa "is_page"] (aa "reference"):=⟨rE g,by kernel_rfl,nd_409⟩
theorem Aa:fx G 409 [aa "reference",aa "head",aa "above",aa "inherited",aa "is_page"] (aa "head"):=⟨rE g,by kernel_rfl,nd_409⟩
theorem xn:fx G 409 [aa "reference",aa "head",aa "above",aa "inherited",aa "is_page"] (aa "above"):=⟨rE g,by kernel_rfl,nd_409⟩
theorem rv:fx G 409 [aa "reference",aa "head",aa "above",aa "inherited",aa "is_page"] (aa "inherited"):=⟨rE g,by kernel_rfl,nd_409⟩
theorem tY:fx G 409 [aa "reference",aa "head",aa "above",aa "inherited",aa "is_page"] (aa "is_page"):=⟨rE g,by kernel_rfl,nd_409⟩
theorem zv:lG G 254 [aa "number",aa "generation"] (aa "pair") 251:=⟨uu g,by kernel_rfl,by kernel_rfl,by decide +kernel,by kernel_rfl⟩
theorem xi:lG G 368 [aa "table",aa "trailer"] (aa "fetch") 304:=⟨kg g,by kernel_rfl,by kernel_rfl,by decide +kernel,by kernel_rfl⟩
theorem By:lG G 368 [aa "table",aa "trailer"] (aa "get") 311:=⟨kg g,by kernel_rfl,by kernel_rfl,by decide +kernel,by kernel_rfl⟩
theorem Bw:lG G 368 [aa "table",aa "trailer"] (aa "put") 332:=⟨kg g,by kernel_rfl,by kernel_rfl,by decide +kernel,by kernel_rfl⟩
theorem Bz:lG G 368 [aa "table",aa "trailer"] (aa "add") 339:=⟨kg g,by kernel_rfl,by kernel_rfl,by decide +kernel,by kernel_rfl⟩
theorem tW:lG G 368 [aa "table",aa "trailer"] (aa "numbers") 353:=⟨kg g,by kernel_rfl,by kernel_rfl,by decide +kernel,by kernel_rfl⟩
theorem zu:lG G 368 [aa "table",aa "trailer"] (aa "root") 360:=⟨kg g,by kernel_rfl,by kernel_rfl,by decide +kernel,by kernel_rfl⟩
theorem zt:lG G 368 [aa "table",aa "trailer"] (aa "told") 365:=⟨kg g,by kernel_rfl,by kernel_rfl,by decide +kernel,by kernel_rfl⟩
theorem J5(C)(h:HR (hdP.heap_1 G.w.params) (.ref C)=ac (.type "type"))(h2:(Ri (hdP.heap_1 G.w.params) C).isSome=ai):pQ G (.ref C):=J9 h h2
theorem Cf:pQ G (.ref 254):=J5 g 254 (by kernel_rfl) (by kernel_rfl)
theorem wu:pQ G (.ref 183):=J5 g 183 (by kernel_rfl) (by kernel_rfl)
theorem Cg:pQ G (.ref 226):=J5 g 226 (by kernel_rfl) (by kernel_rfl)
theorem Ci:pQ G (.ref 155):=J5 g 155 (by kernel_rfl) (by kernel_rfl)
theorem Ch:pQ G (.ref 205):=J5 g 205 (by kernel_rfl) (by kernel_rfl)
theorem J6:Cv G 254:=⟨uu g,by kernel_rfl,by kernel_rfl,by kernel_rfl,by kernel_rfl,Cf g⟩
theorem J8:Cv G 183:=⟨Fj g,by kernel_rfl,by kernel_rfl,by kernel_rfl,by kernel_rfl,wu g⟩
theorem J7:Cv G 226:=⟨Ao g,by kernel_rfl,by kernel_rfl,by kernel_rfl,by kernel_rfl,Cg g⟩
end
inductive Tg where
 |none|bool|int|str|tup|lst|dic|ref|name|stream
noncomputable def Tg.ty:Tg->aE|.none=>.type "NoneType"|.bool=>.type "bool"|.int=>.type "int"|.str=>.type "str"|.tup=>.type "tuple"|.lst=>.type "list"|.dic=>.type "dict"|.ref=>.ref 254|.name=>.ref 183|.stream=>.ref 226
noncomputable def Xh(C:aW):Option Tg:=if C=254 then ac .ref else if C=183 then ac .name else if C=226 then ac .stream else aq
noncomputable def yR:DV->Option Tg|.raw v=>(match v with|.none=>ac .none|.bool _=>ac .bool|_=>On)|.int _=>ac .int|.str _=>ac .str|.tup _=>ac .tup|.lst _=>ac .lst|.sdic _=>ac .dic|.idic _=>ac .dic|.inst C _=>Xh C|_=>On
theorem OF(h:Xh C=ac t):t.ty=.ref C:=by
 unfold Xh at h;by_cases h1:C=254;.rw[if_pos h1] at h;injection h with h;subst h;subst h1;rfl
 .rw[if_neg h1] at h
  by_cases h2:C=183;.rw[if_pos h2] at h;injection h with h;subst h;subst h2;rfl
  .rw[if_neg h2] at h
   by_cases h3:C=226;.rw[if_pos h3] at h;injection h with h;subst h;subst h3;rfl
   .rw[if_neg h3] at h;injection h
theorem RZ(h:yR d=ac t):RX d=ac t.ty:=by
 cases d with
 |raw v=>cases v<;>first|(injection h with h;subst h;rfl)|injection h
 |inst C l=>exact congrArg ac (OF h).symm|any=>injection h|byt=>injection h|_=>injection h with h;subst h;rfl
noncomputable def N1:List Tg:=[.none,.bool,.int,.str,.tup,.lst,.dic,.ref,.name,.stream]
theorem Tg.in_all(t):t∈N1:=cF (i:=t.ctorIdx) (by cases t<;>rfl)
section
variable (g : dK G)
include g
theorem OE(t:Tg)(C)(h:t.ty=.ref C):Cv G C:=by
 cases t with
 |ref=>injection h with h;subst h;exact J6 g
 |name=>injection h with h;subst h;exact J8 g
 |stream=>injection h with h;subst h;exact J7 g
 |_=>injection h
theorem zK{f:Tg->Bool}(hs:∀P,(N1.all fun t=>(match Rd (hdP.heap_1 P) t.ty c with|some b=>b==f t|none=>ak)&&(!(t.ty==c)||f t))=ai)(hc:pQ G c)(O:B.Ok G)(h:yR d=ac t)(hr:f t=r)(q:Q (.bool r) Y Z):cI G B E (.builtin "isinstance") [d,.raw c] Y Z Q:=by
 refine aZ ((aO _ _).mp (aU.mp (hs G.w.params) t t.in_all)) fun h1 h2=>?_;refine Ke O (RZ h) (r:=r) ?_ (fun e=>?_) hc (OE g t) q
 .rw[<-hr]
  show Rd (hdP.heap_1 G.w.params) t.ty c=_;cases e:Rd (hdP.heap_1 G.w.params) t.ty c with|none=>rw[e] at h1;injection h1|some b=>rw[e] at h1;exact congrArg ac (RF h1)
 .rw[e] at h2;exact hr.symm.trans h2
noncomputable def dn:Tg->Bool|.dic=>ai|_=>ak
omit g in theorem clsv_dict:pQ G (.type "dict"):=⟨fun zz zz zz=>hX (by first|exact type_dict|(unfold iL;kernel_rfl)|kernel_rfl),fun zz zz zz=>.now⟩
theorem sB(O:B.Ok G)(h:yR d=ac t)(hr:dn t=r)(q:Q (.bool r) Y Z):cI G B E (.builtin "isinstance") [d,.raw (.type "dict")] Y Z Q:=zK g (fun zz=>by kernel_rfl) (clsv_dict) O h hr q
noncomputable def fW:Tg->Bool|.lst=>ai|_=>ak
omit g in theorem clsv_list:pQ G (.type "list"):=⟨fun zz zz zz=>hX (by first|exact type_list|(unfold iL;kernel_rfl)|kernel_rfl),fun zz zz zz=>.now⟩
theorem yb(O:B.Ok G)(h:yR d=ac t)(hr:fW t=r)(q:Q (.bool r) Y Z):cI G B E (.builtin "isinstance") [d,.raw (.type "list")] Y Z Q:=zK g (fun zz=>by kernel_rfl) (clsv_list) O h hr q
noncomputable def gt:Tg->Bool|.int=>ai|.bool=>ai|_=>ak
omit g in theorem clsv_int:pQ G (.type "int"):=⟨fun zz zz zz=>hX (by first|exact type_int|(unfold iL;kernel_rfl)|kernel_rfl),fun zz zz zz=>.now⟩
theorem BI(O:B.Ok G)(h:yR d=ac t)(hr:gt t=r)(q:Q (.bool r) Y Z):cI G B E (.builtin "isinstance") [d,.raw (.type "int")] Y Z Q:=zK g (fun zz=>by kernel_rfl) (clsv_int) O h hr q
noncomputable def eQ:Tg->Bool|.bool=>ai|_=>ak
omit g in theorem clsv_bool:pQ G (.type "bool"):=⟨fun zz zz zz=>hX (by first|exact type_bool|(unfold iL;kernel_rfl)|kernel_rfl),fun zz zz zz=>.now⟩
theorem yc(O:B.Ok G)(h:yR d=ac t)(hr:eQ t=r)(q:Q (.bool r) Y Z):cI G B E (.builtin "isinstance") [d,.raw (.type "bool")] Y Z Q:=zK g (fun zz=>by kernel_rfl) (clsv_bool) O h hr q
noncomputable def bw:Tg->Bool|.ref=>ai|_=>ak
theorem oE(O:B.Ok G)(h:yR d=ac t)(hr:bw t=r)(q:Q (.bool r) Y Z):cI G B E (.builtin "isinstance") [d,.raw (.ref 254)] Y Z Q:=zK g (fun zz=>by kernel_rfl) (Cf g) O h hr q
noncomputable def gI:Tg->Bool|.name=>ai|_=>ak
theorem yd(O:B.Ok G)(h:yR d=ac t)(hr:gI t=r)(q:Q (.bool r) Y Z):cI G B E (.builtin "isinstance") [d,.raw (.ref 183)] Y Z Q:=zK g (fun zz=>by kernel_rfl) (wu g) O h hr q
noncomputable def iB:Tg->Bool|.stream=>ai|_=>ak
theorem BK(O:B.Ok G)(h:yR d=ac t)(hr:iB t=r)(q:Q (.bool r) Y Z):cI G B E (.builtin "isinstance") [d,.raw (.ref 226)] Y Z Q:=zK g (fun zz=>by kernel_rfl) (Cg g) O h hr q
noncomputable def mH:Tg->Bool|_=>ak
theorem zJ(O:B.Ok G)(h:yR d=ac t)(hr:mH t=r)(q:Q (.bool r) Y Z):cI G B E (.builtin "isinstance") [d,.raw (.ref 155)] Y Z Q:=zK g (fun zz=>by kernel_rfl) (Ci g) O h hr q
noncomputable def nY:Tg->Bool|_=>ak
theorem BJ(O:B.Ok G)(h:yR d=ac t)(hr:nY t=r)(q:Q (.bool r) Y Z):cI G B E (.builtin "isinstance") [d,.raw (.ref 205)] Y Z Q:=zK g (fun zz=>by kernel_rfl) (Ch g) O h hr q
end
set_option backward.match.sparseCases true
section
variable (g : dK G)
include g
theorem Pq:oV G 254 244:=⟨by kernel_rfl,by kernel_rfl,by kernel_rfl⟩
theorem u0:gi G 254 (aa "number"):=dc (by kernel_rfl) (by kernel_rfl) (by kernel_rfl) (by kernel_rfl)
theorem qo:gi G 254 (aa "generation"):=dc (by kernel_rfl) (by kernel_rfl) (by kernel_rfl) (by kernel_rfl)
theorem Ps:oV G 183 180:=⟨by kernel_rfl,by kernel_rfl,by kernel_rfl⟩
theorem zg:gi G 183 (aa "text"):=dc (by kernel_rfl) (by kernel_rfl) (by kernel_rfl) (by kernel_rfl)
theorem Pr:oV G 226 223:=⟨by kernel_rfl,by kernel_rfl,by kernel_rfl⟩
theorem zf:gi G 226 (aa "head"):=dc (by kernel_rfl) (by kernel_rfl) (by kernel_rfl) (by kernel_rfl)
theorem u5:gi G 226 (aa "octets"):=dc (by kernel_rfl) (by kernel_rfl) (by kernel_rfl) (by kernel_rfl)
theorem Pp:oV G 388 385:=⟨by kernel_rfl,by kernel_rfl,by kernel_rfl⟩
theorem qS:gi G 388 (aa "reference"):=dc (by kernel_rfl) (by kernel_rfl) (by kernel_rfl) (by kernel_rfl)
theorem uZ:gi G 388 (aa "fields"):=dc (by kernel_rfl) (by kernel_rfl) (by kernel_rfl) (by kernel_rfl)
theorem Po:oV G 409 406:=⟨by kernel_rfl,by kernel_rfl,by kernel_rfl⟩
theorem qQ:gi G 409 (aa "reference"):=dc (by kernel_rfl) (by kernel_rfl) (by kernel_rfl) (by kernel_rfl)
theorem ze:gi G 409 (aa "head"):=dc (by kernel_rfl) (by kernel_rfl) (by kernel_rfl) (by kernel_rfl)
theorem xc:gi G 409 (aa "above"):=dc (by kernel_rfl) (by kernel_rfl) (by kernel_rfl) (by kernel_rfl)
theorem qR:gi G 409 (aa "inherited"):=dc (by kernel_rfl) (by kernel_rfl) (by kernel_rfl) (by kernel_rfl)
theorem tT:gi G 409 (aa "is_page"):=dc (by kernel_rfl) (by kernel_rfl) (by kernel_rfl) (by kernel_rfl)
theorem IZ:oV G 368 297:=⟨by kernel_rfl,by kernel_rfl,by kernel_rfl⟩
theorem pV:gi G 368 (aa "table"):=dc (by kernel_rfl) (by kernel_rfl) (by kernel_rfl) (by kernel_rfl)
theorem np:gi G 368 (aa "trailer"):=dc (by kernel_rfl) (by kernel_rfl) (by kernel_rfl) (by kernel_rfl)
theorem zX:bY G (aa "Exception") (.raw (.type "Exception")):=bL (dR g (by kernel_rfl) (by decide +kernel) (by kernel_rfl)) rfl
@[reducible] noncomputable def Vc:ClassData:={name:=aa "TreeFault",bases:=[cs 46],mro:=[cs 59,cs 46,cU "Exception",cU "BaseException",cU "object"],ns:=58,qualname:=aa "TreeFault" }
theorem Bb:gi G 59 (aa "what"):=⟨by kernel_rfl,xS (cd:=Vc) (by kernel_rfl) (fun self=>by show Od self "__setattr__" [cs 59,cs 46,cU "Exception",cU "BaseException",cU "object"]=pure ();rw[rU,rU];exact xx.passes self) (by decide +kernel) (by kernel_rfl),by kernel_rfl⟩
theorem Ga:gi G 59 (aa "at"):=⟨by kernel_rfl,xS (cd:=Vc) (by kernel_rfl) (fun self=>by show Od self "__setattr__" [cs 59,cs 46,cU "Exception",cU "BaseException",cU "object"]=pure ();rw[rU,rU];exact xx.passes self) (by decide +kernel) (by kernel_rfl),by kernel_rfl⟩
theorem v8:AA G (aa "TreeFault") (aa "TreeFault") 58 [cs 46] [cs 46,cU "Exception",cU "BaseException",cU "object"] [] (ac (cs 50)) aq (ac (tJ (aa "TreeFault") 236)) (ac (tJ (aa "TreeFault") 244)) (ac (Value.bool ai)):=⟨⟨by rfl,by decide +kernel⟩,by decide +kernel,by decide +kernel,by decide +kernel,by kernel_rfl,by kernel_rfl⟩
theorem Ad:findCls G.K (.type "Exception") (.type "type") (aa "__init__")=ac (.val (.builtin "Exception.__init__")):=by kernel_rfl
end
inductive PV where
 |null
 |bool (b:Bool)
 |int (i:Int)
 |name (x:aV)
 |ref (n g:Int)
 |arr (l:List PV)
 |dict (l:List (aV×PV))
 |stream (h:PV)
mutual
noncomputable def PV.d:PV->DV|.null=>.none|.bool b=>.bool b|.int i=>.int i|.name x=>xT x|.ref n g=>ij n g|.arr l=>.lst (PV.dL l)|.dict l=>.sdic (PV.dS l)|.stream h=>pc h.d (.byt #[])
noncomputable def PV.dL:List PV->List DV|[]=>[]|v::r=>v.d::PV.dL r
noncomputable def PV.dS:List (aV×PV)->List (aV×DV)|[]=>[]|(x,v)::r=>(x,v.d)::PV.dS r
end
theorem PV.dS_map:∀l,PV.dS l=l.map fun p=>(p.1,p.2.d):=by
 intro p0_;induction p0_ with|nil=>exact rfl|cons p_ r ih=>
  rcases p_ with⟨x,v⟩
  rw[PV.dS,ih];rfl
noncomputable def PV.tg:PV->Tg|.null=>.none|.bool _=>.bool|.int _=>.int|.name _=>.name|.ref _ _=>.ref|.arr _=>.lst|.dict _=>.dic|.stream _=>.stream
theorem PV.tgd(v:PV):yR v.d=ac v.tg:=by cases v<;>rfl
theorem PV.d_any(v:PV):v.d≠.any:=by cases v<;>(intro h;injection h)
noncomputable def fM(l:List (aV×PV))(k:aV):Option PV:=(l.find? fun kv=>kv.1=k).map (·.2)
theorem gu(k):∀l,kr (PV.dS l) k=(fM l k).map PV.d:=by
 intro p0_;induction p0_ with|nil=>exact rfl|cons p_ r ih=>
  rcases p_ with⟨x,v⟩
  have ih:=ih;unfold kr fM at ih ⊢;rw[PV.dS,bh,bh];dsimp only;by_cases h:x=k;.simp[h]
  .simp only[h,decide_false];exact ih
noncomputable abbrev dE:=List (Int×Int×PV)
noncomputable def LG(p:Int×Int×PV):Int×DV:=(p.1,.tup [.int p.2.1,p.2.2.d])
noncomputable def dE.d(t:dE):List (Int×DV):=t.map LG
noncomputable def dE.lk(t:dE)(k:Int):Option (Int×PV):=(t.find? fun kv=>kv.1=k).map (·.2)
theorem dE.lkD(t:dE)(k):kr t.d k=(t.lk k).map fun p=>.tup [.int p.1,p.2.d]:=by
 unfold dE.d dE.lk Mine.kr;induction t with|nil=>rfl|cons p r ih=>
  rw[au,bh,bh];show Eh _ (match decide (p.1=k) with|true=>_|false=>_)=_;by_cases h:p.1=k;.simp[h,LG]
  .simp only[h,decide_false];exact ih
noncomputable abbrev Lk:=Int->Option (Option (Int×PV))
def d4(lk:Lk)(t:dE):Prop:=∀k r,lk k=ac r->t.lk k=r
noncomputable def cc(lk:Lk):Nat->PV->Option PV
 |n+1,.ref k g=>match lk k with|none=>aq|some aq=>ac .null|some (ac (g',v))=>if g'≠g then ac .null else cc lk n v
 |0,.ref _ _=>ac .null|_,v=>ac v
theorem yk(lk){n k g}:cc lk (n+1) (.ref k g)=(match lk k with|none=>aq|some aq=>ac .null|some (ac (g',v))=>if g'≠g then ac .null else cc lk n v):=rfl
theorem mW(h:bw v.tg=ak):cc lk n v=ac v:=by cases v<;>first|(cases h;done)|(cases n<;>rfl)
theorem u7{v:PV}(h:bw v.tg=ai):∃n g,v=.ref n g:=by cases v<;>first|((first|(injection h;done)|cases h);done)|exact⟨_,_,rfl⟩
@[reducible] noncomputable def bg(t r:aW):DV:=O0 (.ptr t) (.ptr r)
@[reducible] noncomputable def bz(t r:aW)(tab:dE)(tr:List (aV×PV)):Mu:=[(t,.idic tab.d),(r,.sdic (PV.dS tr))]
variable {tab tab':dE} {tr:List (aV×PV)}
set_option backward.match.sparseCases false
inductive At (p:Prop):Prop
 |mk (h:p):At p
theorem At.get:At p->p|.mk h=>h
noncomputable def pY:List (aV×α)->aV->Option α|[],_=>aq|(y,d)::r,x=>if y=x then ac d else pY r x
noncomputable def oq:aP->aV->DV->Option aP|[],_,_=>aq|(y,e)::r,x,d=>if y=x then ac ((y,d)::r) else match oq r x d with|some r'=>ac ((y,e)::r')|none=>aq
theorem LA{y e r x d}:oq ((y,e)::r) x d=(if y=x then ac ((y,d)::r) else match oq r x d with|some r'=>ac ((y,e)::r')|none=>aq):=rfl
theorem iD:∀{l:List (aV×α)},pY l x=ac d->CF l x d
 |(y,e)::r,h=>by
  have g:(if y=x then ac e else pY r x)=ac d:=h;by_cases q:y=x;.rw[if_pos q] at g;injection g with g;rw[<-q,<-g];exact .head
  .rw[if_neg q] at g;exact .tail (iD g)
theorem cH:∀{Y Y':aP},oq Y x d=ac Y'->pF Y x d Y'
 |(y,e)::r,Y',h=>by
  (first|rw[setN_e0] at h|rw[LA] at h|unfold oq at h);split at h;.next q=>(injection h with h;subst h);subst q;exact .head
  .split at h
   .next r' e=>(injection h with h;subst h);exact .tail (cH e)
   .injection h
noncomputable def Df:DV->Bool|.any=>ak|_=>ai
theorem Gx(h:Df d=ai):d≠.any:=by intro e;subst e;injection h
theorem GB(h:d≠.any):Df d=ai:=by cases d<;>first|rfl|exact absurd rfl h
def Us(d:DV)(P R:Prop):Prop:=match Df d with|true=>P|false=>R
theorem Pn{P R:Prop}(h:d≠.any)(p:P):Us d P R:=by unfold Us;rw[GB h];exact p
def Fo(c:Bool)(P R:Prop):Prop:=match c with|true=>P|false=>R
theorem oS{P R:Prop}(h:c=ai)(p:P):Fo c P R:=by subst h;exact p
theorem iY{P R:Prop}(h:c=ak)(p:R):Fo c P R:=by subst h;exact p
noncomputable def vJ(e:bZ):Bool:=gV 8 e.ctorIdx&&gV e.ctorIdx 10
theorem n7(h:vJ e=ak)(t l env):gN e t l env=pure ak:=by cases e<;>first|rfl|injection h
noncomputable def Du(e:bZ):Bool:=tL e.ctorIdx 25
theorem C1(h:Du e=ak)(env):nP [.Tuple ts k p] e env=pure aq:=by cases e<;>first|rfl|injection h
noncomputable def oF(e:bZ):Bool:=tL e.ctorIdx 22
theorem Ex(h:oF e=ak):br (e::r) env=(ak,a9 e env)::br r env:=by cases e<;>first|rfl|injection h
theorem qN{pos:xA}{env:Op}:∀{r:List bZ},r.any oF=ak->(cy pos (br r env)).any (·.1)=ak:=by intro r h;unfold cy;rw[fk];induction r with|nil=>rfl|cons e r ih=>rw[dD,fm] at h;rw[Ex h.1,dD,ih h.2];rfl
noncomputable def UH:List α->Bool|[]=>ai|_=>ak
noncomputable def sR(o:bZ):Bool:=match o with|.Call f args _ _=>(match f with|.Name ..=>!UH args|_=>ai)|_=>ai
theorem Fq{o:bZ}(h:sR o=ai)(attr env x):FD o attr env x=x:=by
 cases o with
 |Call f args kws p=>
  cases f with
  |Name a b=>cases args with|nil=>injection h|cons _ _=>rfl
  |_=>rfl
 |_=>rfl
noncomputable def vF:bZ->Bool|.UnaryOp .Not _ _|.BoolOp ..|.IfExp ..|.Compare ..=>ak|_=>ai
theorem Ij(h:vF e=ai)(env):isTrue e env (a9 e env)=(do let v <-a9 e env;sT e.pos;holding [v] (truthy v)):=by
 cases e with
 |UnaryOp op _ _=>cases op<;>first|rfl|injection h
 |BoolOp=>injection h
 |IfExp=>injection h
 |Compare=>injection h
 |_=>rfl
section
variable (G : G0) (B : Bx) (E : aE → ay → Prop) (gs : List (aV × DV))
abbrev QY(d:DV)(Y:aP)(Z:Mu)(Q:Bool->aP->Mu->Prop):Prop:=O1 G B E (fun zz a b=>a=b) truthy d Y Z Q
structure Wx where
 ev:bZ->aP->Mu->(DV->aP->Mu->Prop)->Prop
 eb:bZ->aP->Mu->(Bool->aP->Mu->Prop)->Prop
 es:BoolOp->List bZ->aP->Mu->(Bool->aP->Mu->Prop)->Prop
 el:xA->List bZ->aP->Mu->(List DV->aP->Mu->Prop)->Prop
 ex:jU->aP->Mu->(Fl->aP->Mu->Prop)->Prop
 exs:List jU->aP->Mu->(Fl->aP->Mu->Prop)->Prop
def Vi(op:Operator)(a b:DV)(Y:aP)(Z:Mu)(Q:DV->aP->Mu->Prop):Prop:=match op with|.Add=>(match a with|.int i=>(match b with|.int j=>Q (.int (i+j)) Y Z|_=>At (O2 G B E (Is G.prog G.w) (fJ .Add) a b Y Z Q))|_=>At (O2 G B E (Is G.prog G.w) (fJ .Add) a b Y Z Q))|.Sub=>(match a with|.int i=>(match b with|.int j=>Q (.int (i-j)) Y Z|_=>At (O2 G B E (Is G.prog G.w) (fJ .Sub) a b Y Z Q))|_=>At (O2 G B E (Is G.prog G.w) (fJ .Sub) a b Y Z Q))|op=>At (O2 G B E (Is G.prog G.w) (fJ op) a b Y Z Q)
def DU(op:CmpOp)(f:Int->Int->Bool)(a b:DV)(Y:aP)(Z:Mu)(Q:DV->aP->Mu->Prop):Prop:=match a with|.int i=>(match b with|.int j=>Q (.bool (f i j)) Y Z|_=>At (O2 G B E (Is G.prog G.w) (bi op) a b Y Z Q))|_=>At (O2 G B E (Is G.prog G.w) (bi op) a b Y Z Q)
def Va(op:CmpOp)(a b:DV)(Y:aP)(Z:Mu)(Q:DV->aP->Mu->Prop):Prop:=match op with|.Eq=>DU G B E .Eq (fun i j=>i==j) a b Y Z Q|.NotEq=>DU G B E .NotEq (fun i j=>i != j) a b Y Z Q|.Lt=>DU G B E .Lt (fun i j=>decide (i<j)) a b Y Z Q|.LtE=>DU G B E .LtE (fun i j=>decide (i<=j)) a b Y Z Q|.Gt=>DU G B E .Gt (fun i j=>decide (i>j)) a b Y Z Q|.GtE=>DU G B E .GtE (fun i j=>decide (i>=j)) a b Y Z Q|op=>At (O2 G B E (Is G.prog G.w) (bi op) a b Y Z Q)
def Oz(d:DV)(Y:aP)(Z:Mu)(Q:Bool->aP->Mu->Prop):Prop:=match tF d with|some b=>Q b Y Z|none=>At (QY G B E d Y Z Q)
noncomputable def Mt:List (aW×List aV):=[(254,[aa "number",aa "generation"]),(183,[aa "text"]),(226,[aa "head",aa "octets"]),(368,[aa "table",aa "trailer"]),(388,[aa "reference",aa "fields"]),(409,[aa "reference",aa "head",aa "above",aa "inherited",aa "is_page"])]
noncomputable def Uu:List (aW×aV×aW):=[(254,aa "pair",251),(368,aa "fetch",304),(368,aa "get",311),(368,aa "put",332),(368,aa "add",339),(368,aa "numbers",353),(368,aa "root",360),(368,aa "told",365)]
noncomputable def xY:List (aW×α)->aW->Option α|[],_=>aq|(y,d)::r,x=>if y=x then ac d else xY r x
noncomputable def xW:List (aW×aV×aW)->aW->aV->Option aW|[],_,_=>aq|(y,n,f)::r,x,m=>if y=x then(if n=m then ac f else xW r x m) else xW r x m
noncomputable def ou:List (aV×α)->List aV->Bool
 |[],[]=>ai|(x,_)::r,y::s=>if x=y then ou r s else ak
 |_,_=>ak
noncomputable def Bv(o:Option α)(f:α->Option β):Option β:=match o with|some a=>f a|none=>aq
noncomputable def Dz(c:Bool)(x:β):Option β:=match c with|true=>ac x|false=>aq
noncomputable def UW(C:aW)(l:List (aV×DV))(name:aV):Option DV:=Bv (xY Mt C) fun ns=>Bv (pY l name) fun d=>Dz (ou l ns) d
noncomputable def Ut(C:aW)(l:List (aV×DV))(name:aV):Option aW:=Bv (xW Uu C name) fun f=>Bv (xY Mt C) fun ns=>Dz (ou l ns) f
def Mk(d:DV)(X:aW->List (aV×DV)->Prop)(Yy:Prop):Prop:=match d with|.inst C l=>X C l|_=>Yy
def Vl(name:aV)(d:DV)(Y:aP)(Z:Mu)(Q:DV->aP->Mu->Prop):Prop:=Mk d (fun C l=>match UW C l name with|some x=>Q x Y Z|none=>At (Cy G name Q d Y Z)) (At (Cy G name Q d Y Z))
noncomputable def Z8:List aW:=[46,59,155,183,205,226,254,265,272,277,282,314,368,388,409,420,427,434,441,448,455,462,467,472,479,486,493,500,505,512,519,526,533,540,547,552,557,562,569,574,579,586,593,600,605,612]
noncomputable def UI:aE->Bool
 |.builtin _=>ai|.type _=>ai|.ref a=>Z8.any fun b=>b==a
 |_=>ak
def VO(f:aE)(Q:DV->aP->Mu->Prop):List DV->aP->Mu->Prop:=fun ds Y Z=>At (cI G B E f ds Y Z Q)
def N7(f:aE)(d:DV)(Q:DV->aP->Mu->Prop):List DV->aP->Mu->Prop:=fun ds Y Z=>At (cI G B E f (d::ds) Y Z Q)
def Zy(f:DV->DV->aP->Mu->(DV->aP->Mu->Prop)->Prop)(a:DV)(Q:DV->aP->Mu->Prop):DV->aP->Mu->Prop:=fun b Y Z=>f a b Y Z Q
def Nk(r:Wx)(e:bZ)(f:DV->DV->aP->Mu->(DV->aP->Mu->Prop)->Prop)(Q:DV->aP->Mu->Prop):DV->aP->Mu->Prop:=fun a Y Z=>r.ev e Y Z (Zy f a Q)
def Ku(Q:Bool->aP->Mu->Prop):DV->aP->Mu->Prop:=fun d Y Z=>Oz G B E d Y Z Q
def ZK(Q:DV->aP->Mu->Prop):Bool->aP->Mu->Prop:=fun b Y Z=>Q (.bool b) Y Z
def VA(Q:Bool->aP->Mu->Prop):Bool->aP->Mu->Prop:=fun b Y Z=>Q (!b) Y Z
def VK(d:DV)(Q:List DV->aP->Mu->Prop):List DV->aP->Mu->Prop:=fun ds Y Z=>Q (d::ds) Y Z
def ZJ(r:Wx)(pos:xA)(es:List bZ)(Q:List DV->aP->Mu->Prop):DV->aP->Mu->Prop:=fun d Y Z=>r.el pos es Y Z (VK d Q)
def Vo(Q:DV->aP->Mu->Prop):List DV->aP->Mu->Prop:=fun ds Y Z=>match gV ds.length 1000 with|true=>Q (.tup ds) Y Z|false=>At (QX Q ds Y Z)
def ZN(r:Wx)(es:List bZ)(Q:Bool->aP->Mu->Prop):Bool->aP->Mu->Prop:=fun b Y Z=>Fo b (r.es .And es Y Z Q) (Q ak Y Z)
def OrQ(r:Wx)(es:List bZ)(Q:Bool->aP->Mu->Prop):Bool->aP->Mu->Prop:=fun b Y Z=>Fo b (Q ai Y Z) (r.es .Or es Y Z Q)
def VP(r:Wx)(y:bZ)(d:DV)(Q:DV->aP->Mu->Prop):Bool->aP->Mu->Prop:=fun b Y Z=>Fo b (r.ev y Y Z Q) (Q d Y Z)
def Zw(r:Wx)(y:bZ)(d:DV)(Q:DV->aP->Mu->Prop):Bool->aP->Mu->Prop:=fun b Y Z=>Fo b (Q d Y Z) (r.ev y Y Z Q)
def Nr(r:Wx)(y:bZ)(Q:DV->aP->Mu->Prop):DV->aP->Mu->Prop:=fun d Y Z=>match tF d with|some b=>VP r y d Q b Y Z|none=>At (Fw G B E y Q d Y Z)
def Zx(r:Wx)(y:bZ)(Q:DV->aP->Mu->Prop):DV->aP->Mu->Prop:=fun d Y Z=>match tF d with|some b=>Zw r y d Q b Y Z|none=>At (Q3 G B E y Q d Y Z)
def Zz(Q:DV->aP->Mu->Prop):DV->aP->Mu->Prop:=fun d Y Z=>match d with|.int i=>Q (.int (-i)) Y Z|_=>At (Q4 Q d Y Z)
def ZD(r:Wx)(b o:bZ)(Q:DV->aP->Mu->Prop):Bool->aP->Mu->Prop:=fun c Y Z=>Fo c (r.ev b Y Z Q) (r.ev o Y Z Q)
def IfQ(r:Wx)(b o:List jU)(Q:Fl->aP->Mu->Prop):Bool->aP->Mu->Prop:=fun c Y Z=>match o with|[]=>Fo c (r.exs b Y Z Q) (Q .next Y Z)|s::o'=>Fo c (r.exs b Y Z Q) (r.exs (s::o') Y Z Q)
def ZL(name:aV)(Q:DV->aP->Mu->Prop):DV->aP->Mu->Prop:=fun d Y Z=>Vl G name d Y Z Q
def Q8(r:Wx)(pos:xA)(args:List bZ)(Q:DV->aP->Mu->Prop):DV->aP->Mu->Prop:=fun d Y Z=>match d with|.raw f=>(match UI f with|true=>r.el pos args Y Z (VO G B E f Q)|false=>At (Cw G B E pos args Q d Y Z))|_=>At (Cw G B E pos args Q d Y Z)
def VC(r:Wx)(o:bZ)(name:aV)(pos:xA)(args:List bZ)(Q:DV->aP->Mu->Prop):DV->aP->Mu->Prop:=fun d Y Z=>Mk d (fun C l=>match Ut C l name with|some f=>r.el pos args Y Z (N7 G B E (.ref f) d Q)|none=>At (ny G B E name (do return (<-AF o B.env).getD ai) pos args Q d Y Z)) (At (ny G B E name (do return (<-AF o B.env).getD ai) pos args Q d Y Z))
def Zs(Q:Fl->aP->Mu->Prop):DV->aP->Mu->Prop:=fun d Y Z=>Q (.ret d) Y Z
def ZI(Q:Fl->aP->Mu->Prop):DV->aP->Mu->Prop:=fun zz Y Z=>Q .next Y Z
def Ni(x:aV)(Q:Fl->aP->Mu->Prop):DV->aP->Mu->Prop:=fun d Y Z=>match oq Y x d with|some Y'=>Q .next Y' Z|none=>At (Nj x (Q .next) d Y Z)
noncomputable def Gh(x y:aV)(a b:DV)(Y:aP):Option aP:=match oq Y x a with|some Y'=>oq Y' y b|none=>aq
def Oy(l:List α)(k:α->α->Prop)(z:Prop):Prop:=match l with|a::r=>(match r with|b::r'=>(match r' with|[]=>k a b|_=>z)|[]=>z)|[]=>z
theorem Es{z S:Prop}(h:Oy l k z)(p:∀a b,l=[a,b]->k a b->S)(q:z->S):S:=by cases l with|nil=>exact q h|cons a r=>cases r with|nil=>exact q h|cons b r'=>cases r' with|nil=>exact p a b rfl h|cons=>exact q h
def ZM(tg:bZ)(x y:aV)(Q:Fl->aP->Mu->Prop):DV->aP->Mu->Prop:=fun d Y Z=>match d with|.tup l=>Oy l (fun a b=>match Gh x y a b Y with|some Y'=>Q .next Y' Z|none=>At (AS G B E tg d Y Z (Q .next))) (At (AS G B E tg d Y Z (Q .next)))|_=>At (AS G B E tg d Y Z (Q .next))
def Vp(d x:DV)(Q:Fl->aP->Mu->Prop):DV->aP->Mu->Prop:=fun y Y Z=>At (HB Q d x y Y Z)
def Vq(r:Wx)(i:bZ)(d:DV)(Q:Fl->aP->Mu->Prop):DV->aP->Mu->Prop:=fun x Y Z=>r.ev i Y Z (Vp d x Q)
def Zn(r:Wx)(o i:bZ)(Q:Fl->aP->Mu->Prop):DV->aP->Mu->Prop:=fun d Y Z=>r.ev o Y Z (Vq r i d Q)
def Vv(name:aV)(d:DV)(Q:Fl->aP->Mu->Prop):DV->aP->Mu->Prop:=fun x Y Z=>At (Q0 G name d Q x Y Z)
def Zp(r:Wx)(o:bZ)(name:aV)(Q:Fl->aP->Mu->Prop):DV->aP->Mu->Prop:=fun d Y Z=>r.ev o Y Z (Vv G name d Q)
def Ed(x:aV)(px:xA)(body:List jU)(Q:Fl->aP->Mu->Prop):DV->aP->Mu->Prop:=fun d Y1 Z1=>∃ds Z',qF G B E d ds Y1 Z1 Z'/\∃I:Nat->aP->Mu->Prop,I 0 Y1 Z'/\
 (∀i d,ds[i]?=ac d->∀Y2 Z2,I i Y2 Z2->wD G B (fun B'=>qb B->qb B') (.Name x px) body d (I (i+1)) Q Y2 Z2)/\
 (∀Y2 Z2,I ds.length Y2 Z2->Q .next Y2 Z2)
def ZG(x:aV)(px:xA)(body:List jU)(Q:Fl->aP->Mu->Prop):DV->aP->Mu->Prop:=fun d Y Z=>At (Ed G B E x px body Q d Y Z)
noncomputable def qx(e:bZ):Bool:=tL e.ctorIdx 7
theorem zc(h:qx e=ak)(env x):jT e env x=pure x:=by cases e<;>first|rfl|injection h
def Kw(r:Wx)(rest:List jU)(Q:Fl->aP->Mu->Prop):Fl->aP->Mu->Prop:=fun f Y Z=>match f with|.next=>r.exs rest Y Z Q|f=>Q f Y Z
def YU(o i:bZ)(a b:DV)(Y:aP)(Z:Mu)(Q:DV->aP->Mu->Prop):Prop:=At (O2 G B E (Is G.prog G.w) (i5 o i) a b Y Z Q)
def Pl(x:aV)(pos:xA)(Y:aP)(Z:Mu)(Q:DV->aP->Mu->Prop):Prop:=
 if x=aa "__debug__" then At (EV G B E (a9 (.Name x pos) B.env) Y Z Q)
 else match pY Y x with|some d=>Us d (Q d Y Z) (At (EV G B E (a9 (.Name x pos) B.env) Y Z Q))|none=>(match pY gs x with|some d=>Q d Y Z|none=>At (EV G B E (a9 (.Name x pos) B.env) Y Z Q))
def Ze(c:Const)(F:Prop)(Q:DV->Prop):Prop:=match c with|.none=>Q .none|.bool b=>Q (.bool b)|.int i=>Q (.int i)|.str x=>Q (.str x)|_=>F
def MZ(r:Wx)(l:bZ)(ops:List CmpOp)(xs:List bZ)(F:Prop)(Y:aP)(Z:Mu)(Q:DV->aP->Mu->Prop):Prop:=match ops with|[]=>F|op::o'=>(match o' with|_::_=>F|[]=>(match xs with|[]=>F|x::x'=>(match x' with|_::_=>F|[]=>(match nS op x with|true=>F|false=>r.ev l Y Z (Nk r x (Va G B E op) Q)))))
def Zg(r:Wx)(op:BoolOp)(es:List bZ)(pos:xA)(F:Prop)(Y:aP)(Z:Mu)(Q:DV->aP->Mu->Prop):Prop:=match es with|[]=>F|x::e1=>(match e1 with|[]=>F|y::e2=>(match op with|.And=>(match e2 with|[]=>r.ev x Y Z (Nr G B E r y Q)|z::rest=>r.ev x Y Z (Nr G B E r (.BoolOp .And (y::z::rest) pos) Q))|.Or=>(match e2 with|[]=>r.ev x Y Z (Zx G B E r y Q)|_::_=>F)))
def QP(r:Wx)(f:bZ)(args:List bZ)(pos:xA)(F:Prop)(Y:aP)(Z:Mu)(Q:DV->aP->Mu->Prop):Prop:=match args.any oF with|true=>F|false=>(match f with|.Name x p=>r.ev (.Name x p) Y Z (Q8 G B E r pos args Q)|.Attribute o name apos=>(match sR o&&(apos.endLine==pos.line)&&Nat.blt args.length 30 with|true=>r.ev o Y Z (VC G B E r o name pos args Q)|false=>F)|_=>F)
def Zb(r:Wx)(e:bZ)(Y:aP)(Z:Mu)(Q:DV->aP->Mu->Prop):Prop:=match e with
 |.Name x pos=>Pl G B E gs x pos Y Z Q|.Constant c k p=>Ze c (At (EV G B E (a9 (.Constant c k p) B.env) Y Z Q)) fun d=>Q d Y Z
 |.BinOp l op x _=>r.ev l Y Z (Nk r x (Vi G B E op) Q)|.Compare l ops xs pos=>MZ G B E r l ops xs (At (EV G B E (a9 (.Compare l ops xs pos) B.env) Y Z Q)) Y Z Q|.UnaryOp op x p=>(match op with|.Not=>r.ev x Y Z (Ku G B E (VA (ZK Q)))|.USub=>r.ev x Y Z (Zz Q)|op=>At (EV G B E (a9 (.UnaryOp op x p) B.env) Y Z Q))|.BoolOp op es pos=>Zg G B E r op es pos (At (EV G B E (a9 (.BoolOp op es pos) B.env) Y Z Q)) Y Z Q|.IfExp t b o _=>r.eb t Y Z (ZD r b o Q)|.Tuple es _ pos=>r.el pos es Y Z (Vo Q)|.Attribute o name pos=>(match sR o with|true=>r.ev o Y Z (ZL G name Q)|false=>At (EV G B E (a9 (.Attribute o name pos) B.env) Y Z Q))|.Call f args kws pos=>(match kws with|[]=>QP G B E r f args pos (At (EV G B E (a9 (.Call f args [] pos) B.env) Y Z Q)) Y Z Q|k::ks=>At (EV G B E (a9 (.Call f args (k::ks) pos) B.env) Y Z Q))|.Subscript o i _=>r.ev o Y Z (Nk r i (YU G B E o i) Q)|e=>At (EV G B E (a9 e B.env) Y Z Q)
def ebW(r:Wx)(e:bZ)(Y:aP)(Z:Mu)(Q:Bool->aP->Mu->Prop):Prop:=match e with|.UnaryOp op x p=>(match op with|.Not=>r.eb x Y Z (VA Q)|op=>r.ev (.UnaryOp op x p) Y Z (Ku G B E Q))|.BoolOp op xs _=>r.es op xs Y Z Q|.Compare l ops xs pos=>MZ G B E r l ops xs (At (EB G B E (isTrue (.Compare l ops xs pos) B.env (a9 (.Compare l ops xs pos) B.env)) Y Z Q)) Y Z (Ku G B E Q)|.IfExp t b o p=>At (EB G B E (isTrue (.IfExp t b o p) B.env (a9 (.IfExp t b o p) B.env)) Y Z Q)|e=>r.ev e Y Z (Ku G B E Q)
def esW(r:Wx)(op:BoolOp)(es:List bZ)(Y:aP)(Z:Mu)(Q:Bool->aP->Mu->Prop):Prop:=match op with|.And=>(match es with|[]=>Q ai Y Z|x::rest=>r.eb x Y Z (ZN r rest Q))|.Or=>(match es with|[]=>Q ak Y Z|x::rest=>r.eb x Y Z (OrQ r rest Q))
def Zd(r:Wx)(pos:xA)(es:List bZ)(Y:aP)(Z:Mu)(Q:List DV->aP->Mu->Prop):Prop:=match es with|[]=>Q [] Y Z|e::rest=>(match oF e with|false=>r.ev e Y Z (ZJ r pos rest Q)|true=>At (EL G B E (dA (cy pos (br (e::rest) B.env))) Y Z Q))
def Zh(ff:Bool)(r:Wx)(ts:List bZ)(k:Nat)(tp:xA)(e:bZ)(F:Prop)(Y:aP)(Z:Mu)(Q:Fl->aP->Mu->Prop):Prop:=Oy ts (fun t1 t2=>match t1 with|.Name x px=>(match t2 with|.Name y py=>(match Du e||!ff with|false=>r.ev e Y Z (ZM G B E (.Tuple [.Name x px,.Name y py] k tp) x y Q)|true=>F)|_=>F)|_=>F) F
def QW(ff:Bool)(r:Wx)(t e:bZ)(F:Prop)(Y:aP)(Z:Mu)(Q:Fl->aP->Mu->Prop):Prop:=match vJ e with|true=>F|false=>(match t with|.Name x _=>(match pY Y x with|some _=>r.ev e Y Z (Ni x Q)|none=>F)|.Tuple ts k tp=>Zh G B E ff r ts k tp e F Y Z Q|.Subscript o i _=>r.ev e Y Z (Zn r o i Q)|.Attribute o name _=>r.ev e Y Z (Zp G r o name Q)|_=>F)
def UV(r:Wx)(t iter:bZ)(body els:List jU)(F:Prop)(Y:aP)(Z:Mu)(Q:Fl->aP->Mu->Prop):Prop:=match els with|_::_=>F|[]=>(match qx iter with|true=>F|false=>(match t with|.Name x px=>r.ev iter Y Z (ZG G B E x px body Q)|_=>F))
def WJ(ff:Bool)(r:Wx)(st:jU)(Y:aP)(Z:Mu)(Q:Fl->aP->Mu->Prop):Prop:=match st with|.Return eo pos=>(match eo with|some e=>r.ev e Y Z (Zs Q)|none=>At (EX G B E (fb (.Return aq pos) B.env) Y Z Q))|.If t b o _=>r.eb t Y Z (IfQ r b o Q)|.Break _=>Q .brk Y Z|.Pass _=>Q .next Y Z|.Expr e pos=>(match vJ e with|false=>r.ev e Y Z (ZI Q)|true=>At (EX G B E (fb (.Expr e pos) B.env) Y Z Q))|.Assign ts e pos=>(match ts with|[]=>At (EX G B E (fb (.Assign [] e pos) B.env) Y Z Q)|t::ts'=>(match ts' with|[]=>QW G B E ff r t e (At (EX G B E (fb (.Assign [t] e pos) B.env) Y Z Q)) Y Z Q|u::us=>At (EX G B E (fb (.Assign (t::u::us) e pos) B.env) Y Z Q)))|.For t iter body els pos=>UV G B E r t iter body els (At (EX G B E (fb (.For t iter body els pos) B.env) Y Z Q)) Y Z Q|st=>At (EX G B E (fb st B.env) Y Z Q)
noncomputable def Iz(st:jU):Nat:=st.pos.line
def QB(sp:List Nat)(r:Wx)(ss:List jU)(Y:aP)(Z:Mu)(Q:Fl->aP->Mu->Prop):Prop:=match ss with|[]=>Q .next Y Z|st::rest=>(match sp with|[]=>r.ex st Y Z (Kw r rest Q)|n::_=>(match Iz st==n with|true=>At (EX G B E (eD (st::rest) B.env) Y Z Q)|false=>r.ex st Y Z (Kw r rest Q)))
noncomputable def wI(ff:Bool)(sp:List Nat):Nat->Wx|0=>⟨fun e Y Z Q=>At (EV G B E (a9 e B.env) Y Z Q),fun e Y Z Q=>At (EB G B E (isTrue e B.env (a9 e B.env)) Y Z Q),fun op es Y Z Q=>At (EB G B E (jb op es B.env) Y Z Q),fun pos es Y Z Q=>At (EL G B E (dA (cy pos (br es B.env))) Y Z Q),fun st Y Z Q=>At (EX G B E (fb st B.env) Y Z Q),fun ss Y Z Q=>At (EX G B E (eD ss B.env) Y Z Q)⟩|n+1=>⟨Zb G B E gs (wI ff sp n),ebW G B E (wI ff sp n),esW (wI ff sp n),Zd G B E (wI ff sp n),WJ G B E ff (wI ff sp n),QB G B E sp (wI ff sp n)⟩
end
section
inductive pP (G:G0):List (aV×DV)->Prop
 |nil:pP G []
 |cons {x:aV} {d:DV} {r:List (aV×DV)}:bY G x d->pP G r->pP G ((x,d)::r)
theorem pP.has(z:pP G gs):CF gs x d->bY G x d:=by
 induction z with
 |nil=>intro h;cases h
 |cons h _ ih=>intro q;cases q with|head=>exact h|tail q=>exact ih q
structure Wx.Ok (G:G0) (B:Bx) (E:aE->ay->Prop) (r:Wx):Prop where
 ev:∀{e Y Z Q},r.ev e Y Z Q->EV G B E (a9 e B.env) Y Z Q
 eb:∀{e Y Z Q},r.eb e Y Z Q->EB G B E (isTrue e B.env (a9 e B.env)) Y Z Q
 es:∀{op es Y Z Q},r.es op es Y Z Q->EB G B E (jb op es B.env) Y Z Q
 el:∀{pos es Y Z Q},r.el pos es Y Z Q->EL G B E (dA (cy pos (br es B.env))) Y Z Q
 ex:∀{st Y Z Q},r.ex st Y Z Q->EX G B E (fb st B.env) Y Z Q
 exs:∀{ss Y Z Q},r.exs ss Y Z Q->EX G B E (eD ss B.env) Y Z Q
theorem FT{Q:Bool->aP->Mu->Prop}(e:tF d=ac b)(q:Q b Y Z):QY G B E d Y Z Q:=fun V s va S h=>o7 h e ⟨b,Y,Z,V,S,.refl _,rfl,q⟩
set_option tactic.hygienic true in
theorem yP{Q:Bool->aP->Mu->Prop}(h:Oz G B E d Y Z Q):QY G B E d Y Z Q:=by
 unfold Oz at h;split at h;.next b e=>exact FT e h
 .exact h.get
theorem Pm{P R S:Prop}(h:Us d P R)(p:d≠.any->P->S)(r:R->S):S:=by
 unfold Us at h;split at h;.next e=>exact p (Gx e) h
 .exact r h
theorem mZ{P R:Prop}(h:Fo c P R):rL c P R:=by cases c with|true=>exact Na h|false=>exact Nb h
theorem Nc{a b:DV}(h:Vi G B E op a b Y Z Q):O2 G B E (Is G.prog G.w) (fJ op) a b Y Z Q:=by
 cases op with
 |Add=>
  cases a with
  |int i=>cases b with|int j=>exact Pd h|_=>exact At.get h
  |_=>exact At.get h
 |Sub=>
  cases a with
  |int i=>cases b with|int j=>exact Pb h|_=>exact At.get h
  |_=>exact At.get h
 |_=>exact At.get h
theorem pE(hf:∀{i j:Int}{Y:aP}{Z:Mu}{Q:DV->aP->Mu->Prop},Q (.bool (f i j)) Y Z->O2 G B E (Is G.prog G.w) (bi op) (.int i) (.int j) Y Z Q){a b:DV}(h:DU G B E op f a b Y Z Q):O2 G B E (Is G.prog G.w) (bi op) a b Y Z Q:=by
 cases a with
 |int i=>cases b with|int j=>exact hf h|_=>exact At.get h
 |_=>exact At.get h
theorem M2{a b:DV}(h:Va G B E op a b Y Z Q):O2 G B E (Is G.prog G.w) (bi op) a b Y Z Q:=by cases op with|Eq=>exact pE Gv h|NotEq=>exact pE Gl h|Lt=>exact pE Gm h|LtE=>exact pE Gn h|Gt=>exact pE Gq h|GtE=>exact pE Gs h|_=>exact At.get h
theorem xX{x:aW}:∀{l:List (aW×α)},xY l x=ac d->(x,d)∈l
 |(y,e)::r,h=>by
  have g:(if y=x then ac e else xY r x)=ac d:=h;by_cases q:y=x;.rw[if_pos q] at g;injection g with g;rw[<-q,<-g];exact .head _
  .rw[if_neg q] at g;exact .tail _ (xX g)
theorem sw{x:aW}:∀{l:List (aW×aV×aW)},xW l x m=ac f->(x,m,f)∈l
 |(y,n,f')::r,h=>by
  have g:(if y=x then(if n=m then ac f' else xW r x m) else xW r x m)=ac f:=h;by_cases q:y=x
  .rw[if_pos q] at g
   by_cases q':n=m;.rw[if_pos q'] at g;injection g with g;rw[<-q,<-q',<-g];exact .head _
   .rw[if_neg q'] at g;exact .tail _ (sw g)
  .rw[if_neg q] at g;exact .tail _ (sw g)
theorem ot:∀{l:List (aV×α)}{ns:List aV},ou l ns=ai->l.map (·.1)=ns
 |[],[],_=>rfl|(x,d)::r,y::s,h=>by
  have g:(if x=y then ou r s else ak)=ai:=h;by_cases q:x=y;.rw[if_pos q] at g;exact List.cons_eq_cons.mpr ⟨q,ot g⟩
  .rw[if_neg q] at g;injection g
theorem CF.key{d:α}(h:CF l x d):x∈l.map (·.1):=ax h.mem
theorem dH{p:α->Prop}{a:α}(h:p a)(t:∀x∈l,p x):∀x∈a::l,p x:=List.forall_mem_cons.mpr ⟨h,t⟩
theorem wO{p:α->Prop}:∀x∈([]:List α),p x:=fun _ h=>nomatch h
theorem Ms(g:dK G):∀p∈Mt,∀x∈p.2,fx G p.1 p.2 x:=dH (dH (vX g) (dH (qA g) wO)) (dH (dH (Ac g) wO) (dH (dH (Ab g) (dH (vY g) wO)) (dH (dH (xo g) (dH (tZ g) wO)) (dH (dH (rx g) (dH (vW g) wO)) (dH (dH (ru g) (dH (Aa g) (dH (xn g) (dH (rv g) (dH (tY g) wO))))) wO)))))
theorem LU(g:dK G):∀p∈Uu,∃ns,xY Mt p.1=ac ns/\lG G p.1 ns p.2.1 p.2.2:=dH (bq _ rfl (zv g)) (dH (bq _ rfl (xi g)) (dH (bq _ rfl (By g)) (dH (bq _ rfl (Bw g)) (dH (bq _ rfl (Bz g)) (dH (bq _ rfl (tW g)) (dH (bq _ rfl (zu g)) (dH (bq _ rfl (zt g)) wO)))))))
theorem Qk(g:dK G):∀a∈Z8,bH G (.ref a):=dH (UE g) (dH (NT g) (dH (Qj g) (dH (Qi g) (dH (Qh g) (dH (Qg g) (dH (Qf g) (dH (Qe g) (dH (Qd g) (dH (Qc g) (dH (Qb g) (dH (Qa g) (dH (P9 g) (dH (P0 g) (dH (PZ g) (dH (PY g) (dH (PX g) (dH (PW g) (dH (PU g) (dH (PT g) (dH (PS g) (dH (PR g) (dH (PQ g) (dH (I9 g) (dH (Dq g) (dH (PP g) (dH (I8 g) (dH (PO g) (dH (PN g) (dH (PM g) (dH (PL g) (dH (PK g) (dH (I7 g) (dH (I6 g) (dH (PJ g) (dH (PI g) (dH (PH g) (dH (PG g) (dH (PF g) (dH (PE g) (dH (PC g) (dH (PB g) (dH (PA g) (dH (Pz g) (dH (Py g) (dH (Px g) wO)))))))))))))))))))))))))))))))))))))))))))))
theorem Fp{o:Option α}{x:β}{C:Prop}(h:Bv o f=ac x)(k:∀a,o=ac a->f a=ac x->C):C:=by cases o with|none=>injection h|some a=>exact k a rfl h
theorem NY{x:β}{C:Prop}(h:Dz c f=ac x)(k:c=ai->f=x->C):C:=by cases c with|false=>injection h|true=>exact k rfl (aB h)
theorem ET{Yy C:Prop}(h:Mk d X Yy)(k:∀A l,d=.inst A l->X A l->C)(z:Yy->C):C:=by cases d with|inst A l=>exact k A l rfl h|_=>exact z h
theorem Nd(g:dK G)(h:Vl G name d Y Z Q):Cy G name Q d Y Z:=by refine ET h (fun C l e h=>?_) At.get;subst e;cases e:UW C l name with|none=>rw[e] at h;exact h.get|some x=>rw[e] at h;refine Fp e fun ns e1 e=>Fp e fun d' e2 e=>NY e fun e3 e=>?_;subst e;have hk:=ot e3;have hx:=iD e2;exact Vk (Ms g _ (xX e1) _ (hk▸hx.key)) hk hx h
theorem Mf(g:dK G)(h:UI f=ai):bH G f:=by
 cases f with
 |builtin id=>exact kc|type id=>exact GT|ref a=>refine ar (dw.mp h) fun b hb e=>?_;rw[beq_iff_eq] at e;subst e;exact Qk g _ hb
 |_=>injection h
theorem QK{Q:Bool->aP->Mu->Prop}(h:EV G B E (a9 e B.env) Y Z fun d Y' Z'=>QY G B E d Y' Z' Q)(hq:vF e=ai):EB G B E (isTrue e B.env (a9 e B.env)) Y Z Q:=by intro V s S;refine wpAny_isTrue_value (WP.use h S (fun v s_1 d Y1 Z1 V_1 S_1 k_1 i_1 q=>?_)) (Ij hq _);exact aQ (q V_1 s_1 v S_1 i_1) (fun zz zz=>qK.up k_1) fun zz zz x=>x
theorem MW{Q:Bool->aP->Mu->Prop}(h:EV G B E (a9 l B.env) Y Z (Ru G B E r (bi op) fun d Y' Z'=>QY G B E d Y' Z' Q))(hm:nS op r=ak):EB G B E (isTrue (.Compare l [op] [r] pos) B.env whole) Y Z Q:=by intro V s S;refine wpAny_isTrue_Compare1 (WP.use h S (fun a s_1 da Y1 Z1 V_1 S_1 k_1 i_1 h₁=>?_)) hm;refine WP.use h₁ S_1 (fun b s_2 db Y2 Z2 V_2 S_2 k_2 i_2 h_2=>?_);refine aQ (h_2 V_2 s_2 a b S_2 (i_1.mono k_2) i_2) (fun v s_3 z5=>iI z5 fun d Y3 Z3 V_3 S_3 k_3 i_3 q=>?_) fun zz zz x=>x;exact aQ (q V_3 s_3 v S_3 i_3) (fun v s' z6=>iI z6 fun d Y' Z' V' S' k' i' q=>⟨d,Y',Z',V',S',k_1.trans (k_2.trans (k_3.trans k')),i',q⟩) fun zz zz x=>x
theorem MD{x:bZ}(h:EV G B E (a9 x B.env) Y Z fun d Y' Z'=>QY G B E d Y' Z' fun b Y2 Z2=>Q (.bool (!b)) Y2 Z2):EV G B E (a9 (.UnaryOp .Not x pos) B.env) Y Z Q:=by intro V s S;refine ZQ (WP.use h S (fun v s_1 d Y1 Z1 V_1 S_1 k_1 i_1 q=>?_));exact not_of (aQ (q V_1 s_1 v S_1 i_1) (fun c s' z8=>iI z8 fun d Y' Z' V' S' k' i' q=>⟨_,Y',Z',V',S',k_1.trans k',aT.mpr ⟨by rw[i'],rfl⟩,q⟩) fun zz zz x=>x)
theorem MM{x y z:bZ}(h:EV G B E (a9 x B.env) Y Z (Fw G B E (.BoolOp .And (y::z::rest) pos) Q)):EV G B E (a9 (.BoolOp .And (x::y::z::rest) pos) B.env) Y Z Q:=by intro V s S;refine BoolOp_and (WP.use h S (fun v s_1 a Y1 Z1 V_1 S_1 k_1 i_1 z10=>bp z10 fun c hc q1 q2=>?_));refine o7 i_1 hc ?_;cases c with|true=>exact WP.step (rel':=Is G.prog G.w) k_1 (q1 rfl) S_1|false=>exact⟨a,Y1,Z1,V_1,S_1,k_1,i_1,q2 rfl⟩
set_option tactic.hygienic true in
theorem Fv(R:r.Ok G B E){y:bZ}(h:Nr G B E r y Q d Y Z):Fw G B E y Q d Y Z:=by
 unfold Nr at h;split at h;.next b e=>exact bq b e ((mZ h).imp (fun a e=>R.ev (a e)) fun a=>a)
 .exact h.get
set_option tactic.hygienic true in
theorem Q1(R:r.Ok G B E){y:bZ}(h:Zx G B E r y Q d Y Z):Q3 G B E y Q d Y Z:=by
 unfold Zx at h;split at h;.next b e=>exact bq b e ((mZ h).imp (fun a=>a) fun a e=>R.ev (a e))
 .exact h.get
theorem Nq{r:Wx}(R:r.Ok G B E)(h:r.el pos args Y Z (VO G B E f Q)):EL G B E (dA (cy pos (br args B.env))) Y Z (Ra G B E f Q):=(R.el h).mono fun zz zz zz h=>h.get
theorem KA{r:Wx}(R:r.Ok G B E)(h:r.el pos args Y Z (N7 G B E f d Q)):EL G B E (dA (cy pos (br args B.env))) Y Z (AC G B E f [d] Q):=(R.el h).mono fun zz zz zz h=>h.get
theorem Np(g:dK G)(R:r.Ok G B E)(h:Q8 G B E r pos args Q d Y Z):Cw G B E pos args Q d Y Z:=by
 unfold Q8 at h;split at h
 .split at h
  .next e=>exact Kh (Mf g e) (Nq R h)
  .exact h.get
 .exact h.get
theorem Nl(O:B.Ok G)(g:dK G)(R:r.Ok G B E){o:bZ}(h:VC G B E r o name pos args Q d Y Z):ny G B E name (do return (<-AF o B.env).getD ai) pos args Q d Y Z:=by refine ET h (fun C l e h=>?_) At.get;subst e;cases e:Ut C l name with|none=>rw[e] at h;exact h.get|some f=>rw[e] at h;refine Fp e fun f' e1 e=>Fp e fun ns e2 e=>NY e fun e3 e=>?_;subst e;refine ar (LU g _ (sw e1)) fun ns' e4 F=>?_;rw[e2] at e4;(injection e4 with e4;subst e4);exact Di O F (ot e3) (KA R h)
theorem Nh(R:r.Ok G B E){Q:Fl->aP->Mu->Prop}(h:Kw r rest Q f Y Z):Vy G B E rest Q f Y Z:=by cases f with|next=>exact R.exs h|_=>exact h
theorem LQ(O:B.Ok G)(hg:pP G gs)(hk:(gs.all fun p=>B.env.kindOf p.1==ac .globalImplicit)=ai)(h:Pl G B E gs x pos Y Z Q):EV G B E (a9 (.Name x pos) B.env) Y Z Q:=by
 unfold Pl at h;split at h;.exact h.get
 .next hd=>
  have hd:(x==("__debug__" : aV))=ak:=beq_eq_false_iff_ne.mpr hd;split at h;.next d e=>exact Pm h (fun hn q=>MG O (iD e) hd hn q) At.get
  .split at h
   .next d e=>have hh:=iD e;exact we O (hg.has hh) (by simpa using aU.mp hk _ hh.mem) hd h
   .exact h.get
theorem EC(R:r.Ok G B E){x:bZ}(hf:∀{a b Y Z Q},f a b Y Z Q->O2 G B E (Is G.prog G.w) t a b Y Z Q){a:DV}(h:Nk r x f Q a Y Z):Ru G B E x t Q a Y Z:=(R.ev h).mono fun zz zz zz h=>hf h
theorem U4(R:r.Ok G B E){Q:List DV->aP->Mu->Prop}(h:Zd G B E r pos es Y Z Q):EL G B E (dA (cy pos (br es B.env))) Y Z Q:=by cases es with|nil=>exact Ai h|cons e rest=>unfold Zd at h;dsimp only at h;cases hs:oF e with|false=>rw[hs] at h;exact ur ((R.ev h).mono fun zz zz zz h=>R.el h) (Ex hs)|true=>rw[hs] at h;exact h.get
theorem U0(R:r.Ok G B E){Q:Bool->aP->Mu->Prop}(h:esW r op es Y Z Q):EB G B E (jb op es B.env) Y Z Q:=by
 cases op with
 |And=>cases es with|nil=>exact Co h|cons x rest=>exact xu ((R.eb h).mono fun zz zz zz h=>(mZ h).imp (fun a e=>R.es (a e)) fun a=>a)
 |Or=>cases es with|nil=>exact D8 h|cons x rest=>exact Au ((R.eb h).mono fun zz zz zz h=>(mZ h).imp (fun a=>a) fun a e=>R.es (a e))
theorem LV{o:bZ}(h1:sR o=ai)(h2:(apos.endLine==pos.line)=ai)(h3:args.length<30)(h4:args.any oF=ak):
  a9 (.Call (.Attribute o name apos) args [] pos) env=(do
     let ov <-a9 o env
     sT apos.atName
     let (f,first) <-holding [ov] (jx ov name (do return (<-AF o env).getD ai))
     rY pos f first (cy pos (br args env)) (pG pos (jw [] env))):=by
 show(do
  let ov <-FD o name env (a9 o env)
  sT apos.atName
  methodCall o name apos pos env ov (args.length+0) (cy pos (br args env)) (pG pos (jw [] env)))=_
 rw[Fq h1];have hm:methodCallForm (args.length+0) (cy pos (br args env)) (pG pos (jw [] env))=ai:=by
  have h5:((cy pos (br args env)).all fun x=>!x.1)=ai:=by have:=qN (pos:=pos) (env:=env) h4;rw[aU];intro x hx;cases hb:x.1 with|false=>rfl|true=>rw[H9] at this;exact absurd hb (this x hx)
  show(_&&ai&&decide (args.length+0+0<30))=ai;rw[h5];exact decide_eq_true h3
 unfold methodCall;rw[hm];have hp:ZR ai o env apos pos=pure pos:=by unfold ZR;rw[h2];rfl
 simp only[hp,calleeOf,if_true,pure_bind]
theorem Ff(R:r.Ok G B E){F S:Prop}(h:MZ G B E r l ops xs F Y Z Q)(f:F->S)(k:∀op x,ops=[op]->xs=[x]->nS op x=ak->EV G B E (a9 l B.env) Y Z (Ru G B E x (bi op) Q)->S):S:=by cases ops with|nil=>exact f h|cons op o'=>cases o' with|cons=>exact f h|nil=>cases xs with|nil=>exact f h|cons x x'=>cases x' with|cons=>exact f h|nil=>unfold MZ at h;dsimp only at h;cases hm:nS op x with|true=>rw[hm] at h;exact f h|false=>rw[hm] at h;exact k op x rfl rfl hm ((R.ev h).mono fun zz zz zz h=>EC R M2 h)
theorem M7(O:B.Ok G)(g:dK G)(R:r.Ok G B E)(h:QP G B E r f args pos F Y Z Q)(hF:F->EV G B E (a9 (.Call f args [] pos) B.env) Y Z Q):EV G B E (a9 (.Call f args [] pos) B.env) Y Z Q:=by
 unfold QP at h;cases hs:args.any oF with|true=>rw[hs] at h;exact hF h|false=>
  rw[hs] at h;cases f with
  |Name x p=>exact wf O ((R.ev h).mono fun zz zz zz h=>Np g R h) rfl (qN hs)|Attribute o name apos=>dsimp only at h;cases hb:(sR o&&(apos.endLine==pos.line)&&Nat.blt args.length 30) with|true=>rw[hb] at h;rw[aO,aO] at hb;exact Hc O ((R.ev h).mono fun zz zz zz h=>Nl O g R h) (LV hb.1.1 hb.1.2 (aj hb.2) hs) (qN hs)|false=>rw[hb] at h;exact hF h
  |_=>exact hF h
theorem UZ(O:B.Ok G)(g:dK G)(hg:pP G gs)(hk:(gs.all fun p=>B.env.kindOf p.1==ac .globalImplicit)=ai)(R:r.Ok G B E)(h:Zb G B E gs r e Y Z Q):EV G B E (a9 e B.env) Y Z Q:=by
 cases e with
 |Name x pos=>exact LQ O hg hk h|Constant c k p=>cases c with|none=>exact ME h|bool=>exact MK h|int=>exact JK h|str=>exact JI h|_=>exact At.get h
 |BinOp l op x p=>exact JO ((R.ev h).mono fun zz zz zz h=>EC R Nc h)|Compare l ops xs p=>exact Ff R h At.get fun op x e1 e2 hm h'=>by subst e1;subst e2;exact QG h' hm
 |UnaryOp op x p=>
  cases op with
  |Not=>exact MD ((R.ev h).mono fun zz zz zz h=>yP h)|USub=>refine MF ((R.ev h).mono fun d zz zz h=>?_);cases d with|int i=>exact YN h|_=>exact At.get h
  |_=>exact At.get h
 |BoolOp op es p=>
  cases es with|nil=>exact At.get h|cons x e1=>
   cases e1 with|nil=>exact At.get h|cons y e2=>
    cases op with
    |And=>cases e2 with|nil=>exact JQ ((R.ev h).mono fun zz zz zz h=>Fv R h)|cons z r'=>exact MM ((R.ev h).mono fun zz zz zz h=>Fv R h)
    |Or=>cases e2 with|nil=>exact MC ((R.ev h).mono fun zz zz zz h=>Q1 R h)|cons z r'=>exact At.get h
 |IfExp t b o p=>exact Hd ((R.eb h).mono fun zz zz zz h=>(mZ h).imp (fun a e=>R.ev (a e)) fun a e=>R.ev (a e))|Tuple es k pos=>refine Hb O ((R.el h).mono fun ds zz zz h=>?_);unfold Vo at h;cases hl:gV ds.length 1000 with|true=>rw[hl] at h;exact Xg (ae (aj hl) (by decide)) h|false=>rw[hl] at h;exact h.get
 |Attribute o name pos=>unfold Zb at h;dsimp only at h;cases hb:sR o with|true=>rw[hb] at h;exact JP O ((R.ev h).mono fun zz zz zz h=>Nd g h) (by show(do let o <-FD _ _ _ _;_)=_;rw[Fq hb])|false=>rw[hb] at h;exact h.get
 |Call f args kws pos=>cases kws with|nil=>exact M7 O g R h At.get|cons=>exact At.get h
 |Subscript o i p=>exact QD ((R.ev h).mono fun zz zz zz h=>(R.ev h).mono fun zz zz zz h=>h.get)|_=>exact At.get h
theorem U5(R:r.Ok G B E){Q:Bool->aP->Mu->Prop}(h:ebW G B E r e Y Z Q):EB G B E (isTrue e B.env (a9 e B.env)) Y Z Q:=by
 have other:vF e=ai->r.ev e Y Z (Ku G B E Q)->EB G B E (isTrue e B.env (a9 e B.env)) Y Z Q:=fun hp h=>QK ((R.ev h).mono fun zz zz zz h=>yP h) hp;cases e with
 |UnaryOp op x p=>cases op with|Not=>exact QL (R.eb h)|_=>exact other rfl h
 |BoolOp op xs p=>exact Hj (R.es h)|Compare l ops xs p=>exact Ff R h At.get fun op x e1 e2 hm h'=>by subst e1;subst e2;exact MW (h'.mono fun zz zz zz h=>h.mono fun zz zz zz h V s a b S ia ib=>aQ (h V s a b S ia ib) (fun v s' z11=>iI z11 fun d Y' Z' V' S' k' i' q=>⟨d,Y',Z',V',S',k',i',yP q⟩) fun zz zz x=>x) hm
 |IfExp=>exact At.get h|_=>exact other rfl h
theorem Nf(O:B.Ok G)(hf:ff=ai->B.hd=ak)(R:r.Ok G B E){Q:Fl->aP->Mu->Prop}(h:QW G B E ff r t e F Y Z Q)(hF:F->EX G B E (fb (.Assign [t] e pos) B.env) Y Z Q):EX G B E (fb (.Assign [t] e pos) B.env) Y Z Q:=by
 unfold QW at h;cases hc:vJ e with|true=>rw[hc] at h;exact hF h|false=>
  rw[hc] at h;cases t with
  |Name x xp=>dsimp only at h;cases hx:pY Y x with|none=>rw[hx] at h;exact hF h|some d0=>rw[hx] at h;refine DL O ((R.ev h).mono fun d Y' Z' h=>?_) (n7 hc _ _ _);unfold Ni at h;cases hp:oq Y' x d with|some ρ2=>rw[hp] at h;exact Th (cH hp) h|none=>rw[hp] at h;exact h.get
  |Attribute o name p=>exact ua O ((R.ev h).mono fun zz zz zz h=>(R.ev h).mono fun zz zz zz h=>h.get) (n7 hc _ _ _)|Subscript o i p=>exact xq ((R.ev h).mono fun zz zz zz h=>(R.ev h).mono fun zz zz zz h=>(R.ev h).mono fun zz zz zz h=>h.get) (n7 hc _ _ _)|Tuple ts k tp=>
   refine Es h (fun a b e2 h8=>?_) hF;subst e2;cases a with
   |Name x px=>
    cases b with
    |Name y py=>
     dsimp only at h8;cases h3:(Du e||!ff) with|true=>rw[h3] at h8;exact hF h8|false=>
      rw[h3] at h8;rw[fm] at h3;refine p9 ((R.ev h8).mono fun d Y' Z' h=>?_) (by unfold nO;exact n7 hc _ _ _) (C1 h3.1 _);cases d with
      |tup l=>refine Es h (fun a b e4 h9=>?_) At.get;subst e4;unfold Gh at h9;cases h5:oq Y' x a with|none=>rw[h5] at h9;exact h9.get|some ρ2=>rw[h5] at h9;dsimp only at h9;cases h6:oq ρ2 y b with|none=>rw[h6] at h9;exact h9.get|some ρ3=>rw[h6] at h9;exact Fs O (hf (by simpa using h3.2)) (cH h5) (cH h6) h9
      |_=>exact At.get h
    |_=>exact hF h8
   |_=>exact hF h8
  |_=>exact hF h
theorem Qw(O:B.Ok G){Q:Fl->aP->Mu->Prop}(h:EV G B E (a9 iter B.env) Y Z (Ed G B E x px body Q))(hs:qx iter=ak):EX G B E (fb (.For (.Name x px) iter body [] pos) B.env) Y Z Q:=MA O (fun zz zz zz w=>⟨w.frame,w.fr⟩) h (fun zz zz=>rfl) (zc hs _)
theorem UX(O:B.Ok G)(hf:ff=ai->B.hd=ak)(R:r.Ok G B E){st:jU}{Q:Fl->aP->Mu->Prop}(h:WJ G B E ff r st Y Z Q):EX G B E (fb st B.env) Y Z Q:=by
 cases st with
 |Return eo p=>cases eo with|some e=>exact G9 (R.ev h)|none=>exact At.get h
 |If t b o p=>
  refine JE ((R.eb h).mono fun zz zz zz h=>?_);cases o with
  |nil=>exact(mZ h).imp (fun a e=>R.exs (a e)) fun a e=>Af (a e)
  |cons=>exact(mZ h).imp (fun a e=>R.exs (a e)) fun a e=>R.exs (a e)
 |Break=>exact JG h|Pass=>exact Mz h|Expr e p=>unfold WJ at h;dsimp only at h;cases hc:vJ e with|false=>rw[hc] at h;exact E5 O (R.ev h) (n7 hc _ _ _)|true=>rw[hc] at h;exact h.get
 |Assign ts e p=>cases ts with|nil=>exact At.get h|cons t ts'=>cases ts' with|nil=>exact Nf O hf R h At.get|cons=>exact At.get h
 |For t iter body els pos=>cases els with|cons=>exact At.get h|nil=>dsimp only[WJ,UV] at h;cases hs:qx iter with|true=>rw[hs] at h;exact h.get|false=>rw[hs] at h;cases t with|Name x px=>exact Qw O ((R.ev h).mono fun zz zz zz h=>h.get) hs|_=>exact At.get h
 |_=>exact At.get h
theorem QA(R:r.Ok G B E){Q:Fl->aP->Mu->Prop}(h:QB G B E sp r ss Y Z Q):EX G B E (eD ss B.env) Y Z Q:=by cases ss with|nil=>exact Af h|cons st rest=>have go:r.ex st Y Z (Kw r rest Q)->EX G B E (eD (st::rest) B.env) Y Z Q:=fun h=>g4 ((R.ex h).mono fun zz zz zz h=>Nh R h);cases sp with|nil=>exact go h|cons n sp'=>unfold QB at h;dsimp only at h;cases hs:Iz st==n with|true=>rw[hs] at h;exact h.get|false=>rw[hs] at h;exact go h
theorem RW(O:B.Ok G)(hf:ff=ai->B.hd=ak)(g:dK G)(hg:pP G gs)(hk:(gs.all fun p=>B.env.kindOf p.1==ac .globalImplicit)=ai):∀n,(wI G B E gs ff sp n).Ok G B E:=by
 intro p0_;induction p0_ with|zero=>exact⟨At.get,At.get,At.get,At.get,At.get,At.get⟩|succ n ih=>
  exact
    have R:=ih
    ⟨UZ O g hg hk R,U5 R,U0 R,U4 R,UX O hf R,QA R⟩
def tG(Q:β->aP->Mu->Prop):β->aP->Mu->Prop:=fun d Y Z=>At (Q d Y Z)
structure Wk (G:G0) (B:Bx) (gs:List (aV×DV)) (ff:Bool):Prop where
 O:B.Ok G
 hf:ff=ai->B.hd=ak
 g:dK G
 hg:pP G gs
 hk:(gs.all fun p=>B.env.kindOf p.1==ac .globalImplicit)=ai
theorem Wk.ok(W:Wk G B gs ff)(n):(wI G B E gs ff sp n).Ok G B E:=RW W.O W.hf W.g W.hg W.hk n
variable {ff : Bool} (W : Wk G B gs ff)
include W
theorem uC{Q:Fl->aP->Mu->Prop}(h:(wI G B E gs ff [] 100).exs ss Y Z (tG Q)):EX G B E (eD ss B.env) Y Z Q:=((W.ok _).exs h).mono fun zz zz zz h=>h.get
theorem Xc{st:jU}{Q:Fl->aP->Mu->Prop}(h:(wI G B E gs ff [] 100).ex st Y Z (tG Q)):EX G B E (fb st B.env) Y Z Q:=((W.ok _).ex h).mono fun zz zz zz h=>h.get
theorem Lj(h:(wI G B E gs ff [] 100).ev e Y Z (tG Q)):EV G B E (a9 e B.env) Y Z Q:=((W.ok _).ev h).mono fun zz zz zz h=>h.get
theorem Xd{Q:Bool->aP->Mu->Prop}(h:(wI G B E gs ff [] 100).eb e Y Z (tG Q)):EB G B E (isTrue e B.env (a9 e B.env)) Y Z Q:=((W.ok _).eb h).mono fun zz zz zz h=>h.get
theorem ie{Q:List DV->aP->Mu->Prop}(h:(wI G B E gs ff [] 100).el pos es Y Z (tG Q)):EL G B E (dA (cy pos (br es B.env))) Y Z Q:=((W.ok _).el h).mono fun zz zz zz h=>h.get
theorem r5(sp){Q:Fl->aP->Mu->Prop}(h:(wI G B E gs ff sp 100).exs ss Y Z (tG Q)):EX G B E (eD ss B.env) Y Z Q:=((W.ok _).exs h).mono fun zz zz zz h=>h.get
theorem yM{Q:Fl->aP->Mu->Prop}(h:(wI G B E gs ff [] 100).exs ss Y Z Q):EX G B E (eD ss B.env) Y Z Q:=(W.ok _).exs h
end
set_option backward.match.sparseCases true
set_option backward.match.sparseCases false
noncomputable def rr(fd:w2)(ps rest:List aV)(gs:List (aV×DV)):Bool:=
 !fd.scope.isCoroutine&&!fd.scope.isGenerator&&decide (fd.scope.kind=.function)&&decide (fd.globals=ce)&&decide (fd.builtins=d7)&&decide ((ps++rest).Nodup) &&
 gs.all (fun p=>fd.scope.names.lookup p.1==ac .globalImplicit)&&(ps++rest).all (fun x=>fd.scope.names.lookup x==ac .local)
noncomputable def IX(fd:w2):Bool:=fd.scope.names.all fun x=>decide (x.2≠.cell)
structure No (fd:w2) (ps rest:List aV) (gs:List (aV×DV)):Prop where
 co:fd.scope.isCoroutine=ak
 gen:fd.scope.isGenerator=ak
 kind:fd.scope.kind=.function
 glo:fd.globals=ce
 bui:fd.builtins=d7
 nd:(ps++rest).Nodup
 gk:(gs.all fun p=>fd.scope.names.lookup p.1==ac .globalImplicit)=ai
 loc:((ps++rest).all fun x=>fd.scope.names.lookup x==ac .local)=ai
theorem zY(h:rr fd ps rest gs=ai):No fd ps rest gs:=by unfold rr at h;simp only[aO,decide_eq_true_eq,Ib] at h;exact⟨h.1.1.1.1.1.1.1,h.1.1.1.1.1.1.2,h.1.1.1.1.1.2,h.1.1.1.1.2,h.1.1.1.2,h.1.1.2,h.1.2,h.2⟩
theorem lZ(h:IX fd=ai):∀x∈fd.scope.names,x.2≠.cell:=fun x hx=>of_decide_eq_true (aU.mp h x hx)
abbrev rM(fd:w2)(ps:List aV):Prop:=∀vs,vs.length=ps.length->i6 fd ⟨vs,[]⟩=pure (ps.zip vs)
theorem UC(h:l.length=1):∃v1,l=[v1]:=List.length_eq_one_iff.mp h
theorem Pv{l:List α}(h:l.length=2):∃v1 v2,l=[v1,v2]:=by cases l with|nil=>injection h|cons v1 r=>refine aY (UC (jZ h)) fun v2 z1=>?_;subst z1;exact⟨v1,v2,rfl⟩
theorem UA{l:List α}(h:l.length=3):∃v1 v2 v3,l=[v1,v2,v3]:=by cases l with|nil=>injection h|cons v1 r=>refine g5 (Pv (jZ h)) fun v2 v3 z2=>?_;subst z2;exact⟨v1,v2,v3,rfl⟩
theorem Uz{l:List α}(h:l.length=4):∃v1 v2 v3 v4,l=[v1,v2,v3,v4]:=by cases l with|nil=>injection h|cons v1 r=>refine sL (UA (jZ h)) fun v2 v3 v4 z3=>?_;subst z3;exact⟨v1,v2,v3,v4,rfl⟩
theorem YR{l:List α}(h:l.length=5):∃v1 v2 v3 v4 v5,l=[v1,v2,v3,v4,v5]:=by cases l with|nil=>injection h|cons v1 r=>refine uq (Uz (jZ h)) fun v2 v3 v4 v5 z4=>?_;subst z4;exact⟨v1,v2,v3,v4,v5,rfl⟩
theorem YQ{l:List α}(h:l.length=6):∃v1 v2 v3 v4 v5 v6,l=[v1,v2,v3,v4,v5,v6]:=by cases l with|nil=>injection h|cons v1 r=>refine ei (YR (jZ h)) fun v2 v3 v4 v5 v6 z5=>?_;subst z5;exact⟨v1,v2,v3,v4,v5,v6,rfl⟩
theorem gA(h:∀v1,i6 fd ⟨[v1],[]⟩=pure [(x1,v1)]):rM fd [x1]:=fun vs e=>by refine aY (UC e) fun v1 z6=>?_;subst z6;exact h _
theorem jL(h:∀v1 v2,i6 fd ⟨[v1,v2],[]⟩=pure [(x1,v1),(x2,v2)]):rM fd [x1,x2]:=fun vs e=>by refine g5 (Pv e) fun v1 v2 z7=>?_;subst z7;exact h _ _
theorem rG(h:∀v1 v2 v3,i6 fd ⟨[v1,v2,v3],[]⟩=pure [(x1,v1),(x2,v2),(x3,v3)]):rM fd [x1,x2,x3]:=fun vs e=>by refine sL (UA e) fun v1 v2 v3 z8=>?_;subst z8;exact h _ _ _
theorem NZ(h:∀v1 v2 v3 v4,i6 fd ⟨[v1,v2,v3,v4],[]⟩=pure [(x1,v1),(x2,v2),(x3,v3),(x4,v4)]):rM fd [x1,x2,x3,x4]:=fun vs e=>by refine uq (Uz e) fun v1 v2 v3 v4 z9=>?_;subst z9;exact h _ _ _ _
theorem Vh(h:∀v1 v2 v3 v4 v5 v6,i6 fd ⟨[v1,v2,v3,v4,v5,v6],[]⟩=pure [(x1,v1),(x2,v2),(x3,v3),(x4,v4),(x5,v5),(x6,v6)]):rM fd [x1,x2,x3,x4,x5,x6]:=fun vs e=>by refine Hf (YQ e) fun v1 v2 v3 v4 v5 v6 z11=>?_;subst z11;exact h _ _ _ _ _ _
theorem Iw(h:i<n):n-i=n-(i+1)+1:=by exact Ts h
theorem kK{l:List α}(h:l[i]?=ac d):i<l.length:=(cq.mp h).1
theorem nW(hlen:ds.length=ps.length)(hY:Y0=ps.zip ds++rest.map fun x=>(x,DV.any)):Y0.map (·.1)=ps++rest:=by subst hY;rw[aA,jO (bv hlen.symm),bS];congr 1;exact lL _
theorem Dg(O:B.Ok G)(hf:ff=ai->B.hd=ak)(g:dK G)(hg:pP G gs)(c:No fd ps rest gs)(e:B.env.scope=fd.scope):Wk G B gs ff:=⟨O,hf,g,hg,by unfold Env.kindOf;rw[e];exact c.gk⟩
section
variable {hH : Bool} {k : Nat} {f : aW} {ps rest : List aV} (g : dK G)
  (ho : (hdP.heap_1 G.w.params).lookup f = ac o) (hdata : o.data = .func fd) (hb : fd.body = .stmts body) (hcd : nR (hdP.heap_1 G.w.params) fd.code fd.qualname = ai) (hnc : IX fd = ai)
  (hlen : ds.length = ps.length) (hbi : rM fd ps) (hY : Y0 = ps.zip ds ++ rest.map fun x => (x, DV.any)) (hg : pP G gs) (chk : rr fd ps rest gs = ai)
include g ho hdata hb hcd hnc hlen hbi hY hg chk
theorem MR(sp)(H:∀B Q,Wk G B gs (!hH)->B.k=k->B.hd=hH->B.m0=Z0.map (·.1)->(∀fl Y Z,ki Z0 R fl Y Z->Q fl Y Z)->(wI G B (fun zz zz=>False) gs (!hH) sp 100).exs body Y0 Z0 (tG Q)):gf G hH (k+1) (.ref f) ds Z0 R (fun zz zz zz zz zz=>False):=by have c:=zY chk;subst hY;refine E8 g.ok ho hdata hb c.co c.gen c.kind (lZ hnc) c.glo c.bui hcd (wz hlen hbi ((bC.mp c.nd).1) c.loc) (nW hlen rfl) c.nd fun B O hk hh henv hm=>?_;have W:Wk G B gs (!hH):=Dg O (fun h=>by rw[hh];simpa using h) g hg c (by rw[henv];rfl);exact r5 W sp (H B _ W hk hh hm fun zz zz zz h=>h)
theorem ey(H:∀B Q,Wk G B gs (!hH)->B.k=k->B.hd=hH->B.m0=Z0.map (·.1)->(∀fl Y Z,ki Z0 R fl Y Z->Q fl Y Z)->(wI G B (fun zz zz=>False) gs (!hH) [] 100).exs body Y0 Z0 (tG Q)):gf G hH (k+1) (.ref f) ds Z0 R (fun zz zz zz zz zz=>False):=MR g ho hdata hb hcd hnc hlen hbi hY hg chk [] H
theorem E6(H:∀B Q,Wk G B gs (!hH)->B.k=k->B.hd=hH->B.m0=Z0.map (·.1)->B.env=nI fd B.L f->(∀fl Y Z,ki Z0 R fl Y Z->Q fl Y Z)->(wI G B (fun zz zz=>False) gs (!hH) [] 100).exs body Y0 Z0 (tG Q)):gf G hH (k+1) (.ref f) ds Z0 R (fun zz zz zz zz zz=>False):=by have c:=zY chk;subst hY;refine E8 g.ok ho hdata hb c.co c.gen c.kind (lZ hnc) c.glo c.bui hcd (wz hlen hbi ((bC.mp c.nd).1) c.loc) (nW hlen rfl) c.nd fun B O hk hh henv hm=>?_;have W:Wk G B gs (!hH):=Dg O (fun h=>by rw[hh];simpa using h) g hg c (by rw[henv];rfl);exact uC W (H B _ W hk hh hm henv fun zz zz zz h=>h)
theorem B6(sp)(H:∀B E Q,Wk G B gs ai->qb B->B.k=k->B.hd=ak->B.m0=Z0.map (·.1)->(∀e s,¬ok/\EF G B Z0 e s->E e s)->(∀fl Y Z,ki Z0 (fun d Z'=>ok/\R d Z') fl Y Z->Q fl Y Z)->(wI G B E gs ai sp 100).exs body Y0 Z0 (tG Q)):jf G (k+1) (.ref f) ds Z0 R ok:=by have c:=zY chk;subst hY;refine JR g.ok ho hdata hb c.co c.gen c.kind (lZ hnc) c.glo c.bui hcd (wz hlen hbi ((bC.mp c.nd).1) c.loc) (nW hlen rfl) c.nd fun B O w hk hh henv hm=>?_;have W:Wk G B gs ai:=Dg O (fun h=>hh) g hg c (by rw[henv];rfl);exact r5 W sp (H B _ _ W w hk hh hm (fun zz zz h=>h) fun zz zz zz h=>h)
theorem JS(H:∀B E Q,Wk G B gs ai->qb B->B.k=k->B.hd=ak->B.m0=Z0.map (·.1)->B.env=nI fd B.L f->(∀e s,¬ok/\EF G B Z0 e s->E e s)->(∀fl Y Z,ki Z0 (fun d Z'=>ok/\R d Z') fl Y Z->Q fl Y Z)->(wI G B E gs ai [] 100).exs body Y0 Z0 (tG Q)):jf G (k+1) (.ref f) ds Z0 R ok:=by have c:=zY chk;subst hY;refine JR g.ok ho hdata hb c.co c.gen c.kind (lZ hnc) c.glo c.bui hcd (wz hlen hbi ((bC.mp c.nd).1) c.loc) (nW hlen rfl) c.nd fun B O w hk hh henv hm=>?_;have W:Wk G B gs ai:=Dg O (fun h=>hh) g hg c (by rw[henv];rfl);exact uC W (H B _ _ W w hk hh hm henv (fun zz zz h=>h) fun zz zz zz h=>h)
theorem ke(H:∀B E Q,Wk G B gs ai->qb B->B.k=k->B.hd=ak->B.m0=Z0.map (·.1)->(∀e s,¬ok/\EF G B Z0 e s->E e s)->(∀fl Y Z,ki Z0 (fun d Z'=>ok/\R d Z') fl Y Z->Q fl Y Z)->(wI G B E gs ai [] 100).exs body Y0 Z0 (tG Q)):jf G (k+1) (.ref f) ds Z0 R ok:=B6 g ho hdata hb hcd hnc hlen hbi hY hg chk [] H
theorem JT(sp){R:DV->Mu->Mu->Prop}(H:∀B Q,Wk G B gs (!hH)->B.k=k->B.hd=hH->B.m0=Z0.map (·.1)->(∀fl Y Z,Q7 Z0 R fl Y Z->Q fl Y Z)->(wI G B (fun zz zz=>False) gs (!hH) sp 100).exs body Y0 Z0 (tG Q)):qa G hH (k+1) (.ref f) ds Z0 R:=by have c:=zY chk;subst hY;refine JV g.ok ho hdata hb c.co c.gen c.kind (lZ hnc) c.glo c.bui hcd (wz hlen hbi ((bC.mp c.nd).1) c.loc) (nW hlen rfl) c.nd fun B O hk hh henv hm=>?_;have W:Wk G B gs (!hH):=Dg O (fun h=>by rw[hh];simpa using h) g hg c (by rw[henv];rfl);exact r5 W sp (H B _ W hk hh hm fun zz zz zz h=>h)
theorem MS{R:DV->Mu->Mu->Prop}(H:∀B Q,Wk G B gs (!hH)->B.k=k->B.hd=hH->B.m0=Z0.map (·.1)->(∀fl Y Z,Q7 Z0 R fl Y Z->Q fl Y Z)->(wI G B (fun zz zz=>False) gs (!hH) [] 100).exs body Y0 Z0 (tG Q)):qa G hH (k+1) (.ref f) ds Z0 R:=JT g ho hdata hb hcd hnc hlen hbi hY hg chk [] H
end
structure Ef (fd:w2) (ps:List aV) (ds:List DV) (Y0:aP) (Yc:List DV):Prop where
 clo:fd.closure=[]
 kind:∀n,∀x∈ps,fd.scope.names.lookup x=ac .local\/(fd.scope.names.lookup x=ac .cell/\((cP n fd.scope.names []).lookup x).isSome=ai)
 rho:∀p∈Y0,fd.scope.names.lookup p.1=ac .local/\(p.2≠.any->p∈ps.zip ds)
 cells:∀n,∀p∈pR (cP n fd.scope.names []) Yc,fd.scope.names.lookup p.1.1=ac .cell/\(cP n fd.scope.names []).lookup p.1.1=ac p.1.2/\(p.2≠.any->(p.1.1,p.2)∈ps.zip ds)
 nd:(Y0.map (·.1)).Nodup
theorem B7(sp){ps:List aV}{Y0:aP}{Yc:List DV}{Z1:aW->Mu}(g:dK G)(ho:(hdP.heap_1 G.w.params).lookup f=ac o)(hdata:o.data=.func fd)(hb:fd.body=.stmts body)(hcd:nR (hdP.heap_1 G.w.params) fd.code fd.qualname=ai)(hlen:ds.length=ps.length)(hbi:rM fd ps)(hg:pP G gs)(chk:rr fd ps [] gs=ai\/rr fd [] [] gs=ai)(ndp:ps.Nodup)(C:Ef fd ps ds Y0 Yc)(hZ:∀L,jt fd.scope.names L Yc++Z0=Z1 L)(H:∀B Q,Wk G B gs (!hH)->B.k=k->B.hd=hH->B.m0=Z0.map (·.1)->B.env=fc fd B.L f->(∀fl Y Z,ki Z0 R fl Y Z->Q fl Y Z)->(wI G B (fun zz zz=>False) gs (!hH) sp 100).exs body Y0 (Z1 B.L) (tG Q)):gf G hH (k+1) (.ref f) ds Z0 R (fun zz zz zz zz zz=>False):=by
 obtain⟨ps',c⟩:∃ps',No fd ps' [] gs:=chk.elim (fun h=>⟨_,zY h⟩) fun h=>⟨_,zY h⟩
 refine QJ g.ok ho hdata hb c.co c.gen c.kind C.clo c.glo c.bui hcd hlen hbi ndp C.kind C.rho C.cells C.nd fun B O hk hh henv hm=>?_;have W:Wk G B gs (!hH):=Dg O (fun h=>by rw[hh];simpa using h) g hg c (by rw[henv];rfl);rw[hZ];exact r5 W sp (H B _ W hk hh hm henv fun zz zz zz h=>h)
theorem iW{ps:List aV}{Y0:aP}{Yc:List DV}{Z1:aW->Mu}(g:dK G)(ho:(hdP.heap_1 G.w.params).lookup f=ac o)(hdata:o.data=.func fd)(hb:fd.body=.stmts body)(hcd:nR (hdP.heap_1 G.w.params) fd.code fd.qualname=ai)(hlen:ds.length=ps.length)(hbi:rM fd ps)(hg:pP G gs)(chk:rr fd ps [] gs=ai\/rr fd [] [] gs=ai)(ndp:ps.Nodup)(C:Ef fd ps ds Y0 Yc)(hZ:∀L,jt fd.scope.names L Yc++Z0=Z1 L)(H:∀B Q,Wk G B gs (!hH)->B.k=k->B.hd=hH->B.m0=Z0.map (·.1)->B.env=fc fd B.L f->(∀fl Y Z,ki Z0 R fl Y Z->Q fl Y Z)->(wI G B (fun zz zz=>False) gs (!hH) [] 100).exs body Y0 (Z1 B.L) (tG Q)):gf G hH (k+1) (.ref f) ds Z0 R (fun zz zz zz zz zz=>False):=B7 [] g ho hdata hb hcd hlen hbi hg chk ndp C hZ H
theorem JU{ps:List aV}{Y0:aP}{Yc:List DV}{Z1:aW->Mu}(g:dK G)(ho:(hdP.heap_1 G.w.params).lookup f=ac o)(hdata:o.data=.func fd)(hb:fd.body=.stmts body)(hcd:nR (hdP.heap_1 G.w.params) fd.code fd.qualname=ai)(hlen:ds.length=ps.length)(hbi:rM fd ps)(hg:pP G gs)(chk:rr fd ps [] gs=ai\/rr fd [] [] gs=ai)(ndp:ps.Nodup)(C:Ef fd ps ds Y0 Yc)(hZ:∀L,jt fd.scope.names L Yc++Z0=Z1 L)(H:∀B E Q,Wk G B gs ai->qb B->B.k=k->B.hd=ak->B.m0=Z0.map (·.1)->B.env=fc fd B.L f->(∀e s,¬ok/\EF G B Z0 e s->E e s)->(∀fl Y Z,ki Z0 (fun d Z'=>ok/\R d Z') fl Y Z->Q fl Y Z)->(wI G B E gs ai [] 100).exs body Y0 (Z1 B.L) (tG Q)):jf G (k+1) (.ref f) ds Z0 R ok:=by
 obtain⟨ps',c⟩:∃ps',No fd ps' [] gs:=chk.elim (fun h=>⟨_,zY h⟩) fun h=>⟨_,zY h⟩
 refine MT g.ok ho hdata hb c.co c.gen c.kind C.clo c.glo c.bui hcd hlen hbi ndp C.kind C.rho C.cells C.nd fun B O w hk hh henv hm=>?_;have W:Wk G B gs ai:=Dg O (fun h=>hh) g hg c (by rw[henv];rfl);rw[hZ];exact uC W (H B _ _ W w hk hh hm henv (fun zz zz h=>h) fun zz zz zz h=>h)
section
variable {ff : Bool}
def Q5(P:aP->Mu->Prop)(R:Fl->aP->Mu->Prop):Fl->aP->Mu->Prop:=fun fl Y Z=>match fl with|.next=>At (P Y Z)|.cont=>At (P Y Z)|.brk=>At (R .brk Y Z)|.ret d=>At (R (.ret d) Y Z)
def WhQ(r:Wx)(body:List jU)(P:aP->Mu->Prop)(R:Fl->aP->Mu->Prop):Bool->aP->Mu->Prop:=fun c Y Z=>Fo c (r.exs body Y Z (Q5 P R)) (At (R .brk Y Z))
theorem yL{σ τ:Type}{ρf:σ->aP}{Zf:σ->Mu}{Yj:τ->aP}{Zj:τ->Mu}{Q:Fl->aP->Mu->Prop}(W:Wk G B gs ff)(I:Nat->σ->Prop)(J:τ->Prop)(n s)(h0:I n s)(step:∀P R n s,I n s->(∀m s',m<n->I m s'->P (ρf s') (Zf s'))->(∀s,J s->R .brk (Yj s) (Zj s))->(∀d Y Z,Q (.ret d) Y Z->R (.ret d) Y Z)->(wI G B (fun zz zz=>False) gs ff [] 100).eb test (ρf s) (Zf s) (WhQ (wI G B (fun zz zz=>False) gs ff [] 100) body P R))(fin:∀s,J s->Q .next (Yj s) (Zj s)):EX G B E (fb (.While test body [] pos) B.env) (ρf s) (Zf s) Q:=by
 refine G8 W.O (fun n Y Z=>∃s,I n s/\Y=ρf s/\Z=Zf s) (fun Y Z=>∃s,J s/\Y=Yj s/\Z=Zj s) n (cB s h0 rfl rfl) ?_ fun zz zz z12=>bp z12 fun s h e1 e2=>by subst e1;subst e2;exact fin s h
 intro n Y2 Z2 ⟨s,hI,e1,e2⟩;subst e1;subst e2;have z:=step (fun Y Z=>∃m,m<n/\∃s,I m s/\Y=ρf s/\Z=Zf s) (fun fl Y Z=>match fl with|.brk=>∃s,J s/\Y=Yj s/\Z=Zj s|fl=>Q fl Y Z) n s hI (fun m s' h i=>⟨m,h,s',i,rfl,rfl⟩) (fun s h=>(cB s h rfl rfl)) fun zz zz zz h=>h;refine((W.ok _).eb z).mono fun c Y3 Z3 h=>?_;refine(mZ h).imp (fun a e=>((W.ok _).exs (a e)).mono fun fl Y4 Z4 q=>?_) fun a e=>(a e).get;cases fl<;>exact At.get q
theorem Ie{σ τ:Type}{ρf:σ->aP}{Zf:σ->Mu}{Yj:τ->aP}{Zj:τ->Mu}{Q:Fl->aP->Mu->Prop}(W:Wk G B gs ff)(w:qb B)(hE:∀e s,¬ok/\EF G B Z0 e s->E e s)(I:Nat->σ->Prop)(J:τ->Prop)(n s)(h0:I n s)(step:∀P R E' n s,I n s->(∀m s',m<n->I m s'->P (ρf s') (Zf s'))->(∀s,J s->R .brk (Yj s) (Zj s))->(∀d Y Z,Q (.ret d) Y Z->R (.ret d) Y Z)->(∀e s,¬ok/\XF G B.A B.V0 Z0 B.s0 B.L .none e s->E' e s)->(wI G B (fun zz zz=>False) gs ff [] 100).eb test (ρf s) (Zf s) (WhQ (wI G B E' gs ff [] 100) body P R))(fin:∀s,J s->Q .next (Yj s) (Zj s)):EX G B E (fb (.While test body [] pos) B.env) (ρf s) (Zf s) Q:=by refine WP.exc (DJ (ok:=ok) (Z0:=Z0) W.O w (fun n Y Z=>∃s,I n s/\Y=ρf s/\Z=Zf s) (fun Y Z=>∃s,J s/\Y=Yj s/\Z=Zj s) n (cB s h0 rfl rfl) ?_ fun zz zz z13=>bp z13 fun s h e1 e2=>by subst e1;subst e2;exact fin s h) hE;intro n Y2 Z2 ⟨s,hI,e1,e2⟩;subst e1;subst e2;have z:=step (fun Y Z=>∃m,m<n/\∃s,I m s/\Y=ρf s/\Z=Zf s) (fun fl Y Z=>match fl with|.brk=>∃s,J s/\Y=Yj s/\Z=Zj s|fl=>Q fl Y Z) _ n s hI (fun m s' h i=>⟨m,h,s',i,rfl,rfl⟩) (fun s h=>(cB s h rfl rfl)) (fun zz zz zz h=>h) fun zz zz h=>h;refine((W.ok _).eb z).mono fun c Y3 Z3 h=>?_;refine(mZ h).imp (fun a e=>((W.ok _).exs (a e)).mono fun fl Y4 Z4 q=>?_) fun a e=>(a e).get;cases fl<;>exact At.get q
def w6(x:aV)(d:DV)(Y:aP)(Q:aP->Prop):Prop:=match oq Y x d with|some Y'=>Q Y'|none=>False
theorem OD(O:B.Ok G){Q:aP->Mu->Prop}(h:w6 x d Y fun Y'=>Q Y' Z):AS G B E (.Name x px) d Y Z Q:=by unfold w6 at h;cases e:oq Y x d with|none=>rw[e] at h;exact h.elim|some Y'=>rw[e] at h;exact As O (cH e) h
theorem WP.dropped{Q Q':β->aP->Mu->Prop}(h:WP G B E rel t Y Z Q')(k:∀d Y Z,Q' d Y Z->∃ex Z',Z=ex++Z'/\Q d Y Z'):WP G B E rel t Y Z Q:=by intro V s S;refine aQ (h V s S) (fun v s' o=>?_) fun zz zz x=>x;refine iI o ?_;clear o;intro d Y' Z' V' S' k' i' q;refine cX (k _ _ _ q) fun ex μ2 e q2=>?_;subst e;exact⟨d,Y',μ2,V',S'.dropAll,k',i',q2⟩
theorem Ep(sp){σ τ:Type}{ρf:σ->aP}{Zf:σ->Mu}{Yj:τ->aP}{Zj:τ->Mu}{Q:Fl->aP->Mu->Prop}(W:Wk G B gs ff)(hit:qF G B E d ds Y Z Z')(I:Nat->σ->Prop)(J:τ->Prop)(s)(h0:I 0 s)(e1:Y=ρf s)(e2:Z'=Zf s)(step:∀B' P R(i:Nat)d s,ds[i]?=ac d->I i s->Wk G B' gs ff->(qb B->qb B')->B'.env=B.env->B'.k=B.k->B'.hd=B.hd->B'.m0=(Zf s).map (·.1)->(∀ex s',I (i+1) s'->P (ρf s') (ex++Zf s'))->(∀s,J s->R .brk (Yj s) (Zj s))->(∀d Y Z,Q (.ret d) Y Z->R (.ret d) Y Z)->w6 x d (ρf s) fun Y'=>(wI G B' (fun zz zz=>False) gs ff sp 100).exs body Y' (Zf s) (Q5 P R))(hend:∀s,I ds.length s->∃t,J t/\Yj t=ρf s/\Zj t=Zf s)(fin:∀s,J s->Q .next (Yj s) (Zj s)):Ed G B E x px body Q d Y Z:=by
 subst e1;subst e2;refine⟨ds,_,hit,fun i Y Z=>∃s,I i s/\Y=ρf s/\Z=Zf s,(cB s h0 rfl rfl),?_,fun Y2 Z2 z14=>bp z14 fun s h e1 e2=>?_⟩
 .intro i d hd Y2 Z2 ⟨s,hI,e1,e2⟩ B' O' w he hk hh hm
  subst e1;subst e2;have W':Wk G B' gs ff:=⟨O',fun h=>hh.trans (W.hf h),W.g,W.hg,he▸W.hk⟩
  have z:=step B' (fun Y Z=>∃ex s,I (i+1) s/\Y=ρf s/\Z=ex++Zf s) (fun fl Y Z=>match fl with|.brk=>∃s,J s/\Y=Yj s/\Z=Zj s|fl=>Q fl Y Z) i d s hd hI W' w he hk hh hm (fun ex s' h=>(bO ex s' h rfl rfl)) (fun s h=>(cB s h rfl rfl)) fun zz zz zz h=>h;refine OD O' (Q:=fun Y3 Z3=>_) ?_;unfold w6 at z ⊢;cases e:oq (ρf s) x d with|none=>rw[e] at z;exact z|some Y'=>
   rw[e] at z;refine((W'.ok _).exs z).dropped fun fl Y4 Z4 q=>?_;cases fl with
   |next=>refine aM (At.get q) fun ex s h e1 e2=>?_;exact⟨ex,_,e2,s,h,e1,rfl⟩
   |cont=>refine aM (At.get q) fun ex s h e1 e2=>?_;exact⟨ex,_,e2,s,h,e1,rfl⟩
   |brk=>refine bp (At.get q) fun s h e1 e2=>?_;subst e1;subst e2;exact jN [] _ rfl (fin s h)
   |ret d=>exact jN [] _ rfl (At.get q)
 .subst e1;subst e2
  refine bp (hend s h) fun t ht e1 e2=>?_;rw[<-e1,<-e2];exact fin t ht
theorem Ow(sp){σ τ:Type}{ρf:σ->aP}{Zf:σ->Mu}{Yj:τ->aP}{Zj:τ->Mu}{Q:Fl->aP->Mu->Prop}(W:Wk G B gs ff)(hit:qF G B E d ds Y Z Z')(I:Nat->σ->Prop)(J:τ->Prop)(s)(h0:I 0 s)(e1:Y=ρf s)(e2:Z'=Zf s)(step:∀B' P R(i:Nat)d s,ds[i]?=ac d->I i s->Wk G B' gs ff->(qb B->qb B')->B'.k=B.k->B'.hd=B.hd->B'.m0=(Zf s).map (·.1)->(∀ex s',I (i+1) s'->P (ρf s') (ex++Zf s'))->(∀s,J s->R .brk (Yj s) (Zj s))->(∀d Y Z,Q (.ret d) Y Z->R (.ret d) Y Z)->w6 x d (ρf s) fun Y'=>(wI G B' (fun zz zz=>False) gs ff sp 100).exs body Y' (Zf s) (Q5 P R))(hend:∀s,I ds.length s->∃t,J t/\Yj t=ρf s/\Zj t=Zf s)(fin:∀s,J s->Q .next (Yj s) (Zj s)):Ed G B E x px body Q d Y Z:=Ep sp W hit I J s h0 e1 e2 (fun B' P R i d s hd hI W' w zz=>step B' P R i d s hd hI W' w) hend fin
theorem Ig(sp){σ:Type}{ρf:σ->aP}{Zf:σ->Mu}{Q:Fl->aP->Mu->Prop}(W:Wk G B gs ff)(hit:qF G B E d ds Y Z Z')(I:Nat->σ->Prop)(s)(h0:I 0 s)(e1:Y=ρf s)(e2:Z'=Zf s)(step:∀B' P R(i:Nat)d s,ds[i]?=ac d->I i s->Wk G B' gs ff->(qb B->qb B')->B'.k=B.k->B'.hd=B.hd->B'.m0=(Zf s).map (·.1)->(∀ex s',I (i+1) s'->P (ρf s') (ex++Zf s'))->(∀d Y Z,Q (.ret d) Y Z->R (.ret d) Y Z)->w6 x d (ρf s) fun Y'=>(wI G B' (fun zz zz=>False) gs ff sp 100).exs body Y' (Zf s) (Q5 P R))(fin:∀s,I ds.length s->Q .next (ρf s) (Zf s)):Ed G B E x px body Q d Y Z:=Ow sp (τ:=σ) (Yj:=ρf) (Zj:=Zf) W hit I (fun s=>I ds.length s) s h0 e1 e2 (fun B' P R i d s hd hI W' w hk hh hm hP zz hR=>step B' P R i d s hd hI W' w hk hh hm hP hR) (fun s h=>(cB s h rfl rfl)) fin
theorem m8{σ:Type}{ρf:σ->aP}{Zf:σ->Mu}{Q:Fl->aP->Mu->Prop}(W:Wk G B gs ff)(hit:qF G B E d ds Y Z Z')(I:Nat->σ->Prop)(s)(h0:I 0 s)(e1:Y=ρf s)(e2:Z'=Zf s)(step:∀B' P R(i:Nat)d s,ds[i]?=ac d->I i s->Wk G B' gs ff->(qb B->qb B')->B'.k=B.k->B'.hd=B.hd->B'.m0=(Zf s).map (·.1)->(∀s',I (i+1) s'->P (ρf s') (Zf s'))->(∀d Y Z,Q (.ret d) Y Z->R (.ret d) Y Z)->w6 x d (ρf s) fun Y'=>(wI G B' (fun zz zz=>False) gs ff [] 100).exs body Y' (Zf s) (Q5 P R))(fin:∀s,I ds.length s->Q .next (ρf s) (Zf s)):Ed G B E x px body Q d Y Z:=Ig [] W hit I s h0 e1 e2 (fun B' P R i d s hd hI W' w hk hh hm hP hR=>step B' P R i d s hd hI W' w hk hh hm (hP []) hR) fin
theorem Ov{σ:Type}{ρf:σ->aP}{Zf:σ->Mu}{Q:Fl->aP->Mu->Prop}(W:Wk G B gs ff)(hit:qF G B E d ds Y Z Z')(I:Nat->σ->Prop)(s)(h0:I 0 s)(e1:Y=ρf s)(e2:Z'=Zf s)(step:∀B' P R(i:Nat)d s,ds[i]?=ac d->I i s->Wk G B' gs ff->(qb B->qb B')->B'.env=B.env->B'.k=B.k->B'.hd=B.hd->B'.m0=(Zf s).map (·.1)->(∀s',I (i+1) s'->P (ρf s') (Zf s'))->(∀d Y Z,Q (.ret d) Y Z->R (.ret d) Y Z)->w6 x d (ρf s) fun Y'=>(wI G B' (fun zz zz=>False) gs ff [] 100).exs body Y' (Zf s) (Q5 P R))(fin:∀s,I ds.length s->Q .next (ρf s) (Zf s)):Ed G B E x px body Q d Y Z:=Ep [] (τ:=σ) (Yj:=ρf) (Zj:=Zf) W hit I (fun s=>I ds.length s) s h0 e1 e2 (fun B' P R i d s hd hI W' w he hk hh hm hP zz hR=>step B' P R i d s hd hI W' w he hk hh hm (hP []) hR) (fun s h=>(cB s h rfl rfl)) fin
theorem oy{env:Op}:∀{names:List (aV×NameKind)},names.lookup x=ac .globalImplicit->(names.map fun(n,k)=>if(k==wL&&env.scope.kind==.function&&env.kindOf n==ac .cell) then(n,NameKind.cell) else(n,k)).lookup x=ac .globalImplicit
 |(n,k)::r,h=>by
  rw[au];cases hx:x==n with|true=>simp only[dY,hx] at h;(injection h with h;subst h);show En x ((n,wZ)::_)=_;rw[dY,hx]|false=>
   simp only[dY,hx] at h;have ih:=oy (env:=env) h;dsimp only;by_cases hc:(k==wL&&env.scope.kind==.function&&env.kindOf n==ac .cell)=ai;.rw[if_pos hc,dY,hx];exact ih
   .rw[if_neg hc,dY,hx];exact ih
theorem Fe(h:(gs.all fun p=>scope.names.lookup p.1==ac .globalImplicit)=ai):(gs.all fun p=>(gF scope cl C env).kindOf p.1==ac .globalImplicit)=ai:=by rw[aU] at h ⊢;intro p hp;have:=h p hp;rw[beq_iff_eq] at this ⊢;exact oy this
def VM(elt:bZ)(ifs:List bZ)(x:aV)(scope:Rk)(cl:List (aV×aW))(Q:DV->aP->Mu->Prop):DV->aP->Mu->Prop:=fun d Y Z=>At (Cu G B E ifs elt x scope cl Q d Y Z)
theorem ig{cl:List (aV×aW)}(W:Wk G B gs ff)(F:m4 B scope cl)(hx:scope.names.lookup x=ac .local)(hs:qx iter=ak)(h:(wI G B E gs ff [] 100).ev iter Y Z (VM (B:=B) (E:=E) elt ifs x scope cl Q)):EV G B E (a9 (.ListComp elt [⟨.Name x px,iter,ifs,0⟩] scope pos) B.env) Y Z Q:=B0 W.O F hx (((W.ok _).ev h).mono fun zz zz zz h=>h.get) (zc hs _)
theorem o6{cl:List (aV×aW)}{Q:Fl->aP->Mu->Prop}(W:Wk G B gs ff)(F:m4 B scope cl)(hx:scope.names.lookup x=ac .local)(hs:qx iter=ak)(hsw:gN (.ListComp elt [⟨.Name x px,iter,ifs,0⟩] scope pos) (ac (.Name y py)) spos.line B.env=pure ai)(h:(wI G B E gs ff [] 100).ev iter Y Z (VM (B:=B) (E:=E) elt ifs x scope cl (Ni y Q))):EX G B E (fb (.Assign [.Name y py] (.ListComp elt [⟨.Name x px,iter,ifs,0⟩] scope pos) spos) B.env) Y Z Q:=by refine wc W.O F hx hsw (((W.ok _).ev h).mono fun d Y1 Z1 h=>?_) (zc hs _);refine qB h.get fun ds Z' hit hl I h0 st fin=>?_;refine⟨ds,Z',hit,hl,I,h0,st,fun out Z2 h=>?_⟩;have z:=fin out Z2 h;unfold Ni at z;cases e:oq Y1 y (.lst out) with|none=>rw[e] at z;exact z.get|some Y'=>rw[e] at z;exact Th (cH e) z
def Vz(out:List DV)(P:List DV->Mu->Prop):DV->aP->Mu->Prop:=fun d zz Z=>At (P (out++[d]) Z)
theorem ft{ds:List DV}(W:Wk G B gs ff)(hg:pP G gs')(hk:(gs'.all fun p=>scope.names.lookup p.1==ac .globalImplicit)=ai)(hit:qF G B E d ds Y Z Z')(hl:ds.length<=1000000)(I:Nat->List DV->Mu->Prop)(h0:I 0 [] Z')(step:∀B' P(i:Nat)d out Z2,ds[i]?=ac d->I i out Z2->Wk G B' gs' ff->B'.env=gF scope cl B'.L B.env->B'.k=B.k->B'.hd=B.hd->B'.m0=Z2.map (·.1)->(∀out Z,I (i+1) out Z->P out Z)->(wI G B' (fun zz zz=>False) gs' ff [] 100).ev elt [(x,d)] Z2 (Vz out P))(fin:∀out Z,I ds.length out Z->Q (.lst out) Y Z):Cu G B E [] elt x scope cl Q d Y Z:=by
 refine⟨ds,Z',hit,hl,I,h0,fun i d hd out Z2 hI B' O' he hk' hh hm=>?_,fin⟩;have W':Wk G B' gs' ff:=⟨O',fun h=>hh.trans (W.hf h),W.g,hg,by rw[he];exact Fe hk⟩
 unfold HA;refine FZ ?_;rw[if_pos rfl];exact((W'.ok _).ev (step B' _ i d out Z2 hd hI W' he hk' hh hm fun zz zz h=>h)).mono fun zz zz zz h=>h.get
def Zm(r:Wx)(elt:bZ)(out:List DV)(P:List DV->Mu->Prop):Bool->aP->Mu->Prop:=fun b Y Z=>Fo b (r.ev elt Y Z (Vz out P)) (At (P out Z))
theorem yN(W:Wk G B gs ff)(hg:pP G gs')(hk:(gs'.all fun p=>scope.names.lookup p.1==ac .globalImplicit)=ai)(hit:qF G B E d ds Y Z Z')(hl:ds.length<=1000000)(I:Nat->List DV->Mu->Prop)(h0:I 0 [] Z')(step:∀B' P(i:Nat)d out Z2,ds[i]?=ac d->I i out Z2->Wk G B' gs' ff->B'.env=gF scope cl B'.L B.env->B'.k=B.k->B'.hd=B.hd->B'.m0=Z2.map (·.1)->(∀out Z,I (i+1) out Z->P out Z)->(wI G B' (fun zz zz=>False) gs' ff [] 100).eb test [(x,d)] Z2 (Zm (wI G B' (fun zz zz=>False) gs' ff [] 100) elt out P))(fin:∀out Z,I ds.length out Z->Q (.lst out) Y Z):Cu G B E [test] elt x scope cl Q d Y Z:=by
 refine⟨ds,Z',hit,hl,I,h0,fun i d hd out Z2 hI B' O' he hk' hh hm=>?_,fin⟩;have W':Wk G B' gs' ff:=⟨O',fun h=>hh.trans (W.hf h),W.g,hg,by rw[he];exact Fe hk⟩
 unfold HA;refine FY (((W'.ok _).eb (step B' _ i d out Z2 hd hI W' he hk' hh hm fun zz zz h=>h)).mono fun b Y1 Z1 h=>?_);cases b with
 |true=>rw[if_pos rfl];exact((W'.ok _).ev h).mono fun zz zz zz h=>h.get
 |false=>rw[if_neg (by decide)];exact At.get h
end
section
variable {ff : Bool}
theorem j3{P:α×β->Prop}(h:∀a b,P (a,b)):∀s,P s:=fun s=>h s.1 s.2
theorem tf{P:α×β×γ->Prop}(h:∀a b c,P (a,b,c)):∀s,P s:=fun s=>h s.1 s.2.1 s.2.2
theorem Bj{P:α×β×γ×δ->Prop}(h:∀a b c d,P (a,b,c,d)):∀s,P s:=fun s=>h s.1 s.2.1 s.2.2.1 s.2.2.2
theorem NI{P:α1×α2×α3×α4×α5×α6×α7->Prop}(h:∀x1 x2 x3 x4 x5 x6 x7,P (x1,x2,x3,x4,x5,x6,x7)):∀s,P s:=fun s=>h s.1 s.2.1 s.2.2.1 s.2.2.2.1 s.2.2.2.2.1 s.2.2.2.2.2.1 s.2.2.2.2.2.2
theorem NH{P:α1×α2×α3×α4×α5×α6×α7×α8->Prop}(h:∀x1 x2 x3 x4 x5 x6 x7 x8,P (x1,x2,x3,x4,x5,x6,x7,x8)):∀s,P s:=fun s=>h s.1 s.2.1 s.2.2.1 s.2.2.2.1 s.2.2.2.2.1 s.2.2.2.2.2.1 s.2.2.2.2.2.2.1 s.2.2.2.2.2.2.2
theorem M9{P R:Prop}(h:R)(h':b=ai->R->P):Fo b P R:=by cases b with|true=>exact h' rfl h|false=>exact h
theorem mn{c:Bool}{r:Wx}{Q:Fl->aP->Mu->Prop}(m:β->Mu)(a b)(rest:∀z,z=(bif c then b else a)->Q .next Y (m z))(ht:∀Q',c=ai->Q' .next Y (m b)->r.exs ss Y (m a) Q'):Fo c (r.exs ss Y (m a) Q) (Q .next Y (m a)):=by cases c with|true=>exact ht Q rfl (rest b rfl)|false=>exact rest a rfl
noncomputable def OZ:DV->Option aV|.str x=>ac x|_=>aq
noncomputable def UJ:DV->Option Int|.int i=>ac i|_=>aq
theorem Ew(h:OZ d=ac k):d=DK.key k:=by cases d<;>first|(cases h;done)|((injection h with h;subst h);rfl)
theorem Mj{k:Int}(h:UJ d=ac k):d=DK.key k:=by cases d<;>first|(cases h;done)|((injection h with h;subst h);rfl)
def ZH{K:Type}(key:K)(x:DV)(Q:List (K×DV)->aP->Mu->Prop):List (K×DV)->aP->Mu->Prop:=fun l Y Z=>Q ((key,x)::l) Y Z
noncomputable def U1{K:Type}(ok:DV->Option K)(r:Wx):List (Option bZ)->List bZ->aP->Mu->(List (K×DV)->aP->Mu->Prop)->Prop
 |[],[],Y,Z,Q=>Q [] Y Z|some k::ks,v::vs,Y,Z,Q=>r.ev k Y Z fun d Y Z=>match ok d with
  |some key=>r.ev v Y Z fun x Y Z=>U1 ok r ks vs Y Z (ZH key x Q)
  |none=>False
 |_,_,_,_,_=>False
theorem Ah{K:Type}[DecidableEq K][DK K]{ok:DV->Option K}(hok:∀{d k},ok d=ac k->d=DK.key k)(R:r.Ok G B E):∀{ks:List (Option bZ)}{vs:List bZ}{Y:aP}{Z:Mu}{Q:List (K×DV)->aP->Mu->Prop},U1 ok r ks vs Y Z Q->EP K G B E (sV (sU ks vs B.env pos)) Y Z Q|[],[],_,_,_,h=>QH h|some k::ks,v::vs,_,_,_,h=>MQ ((R.ev h).mono fun d zz zz h=>by cases e:ok d with|none=>rw[e] at h;exact h.elim|some key=>rw[e] at h;exact(bq key (hok e) ((R.ev h).mono fun zz zz zz h=>Ah hok R h)))|none::_,_,_,_,_,h=>h.elim|some _::_,[],_,_,_,h=>h.elim|[],_::_,_,_,_,h=>h.elim
def FrK{K:Type}[DecidableEq K][DK K](a:aW)(Q:DV->aP->Mu->Prop):List (K×DV)->aP->Mu->Prop:=fun l Y Z=>∃Z',(l.map (·.1)).Nodup/\N4 a (DK.mo ([]:List (K×DV))) Z Z'/\Q (DK.dv l) Y Z'
def MuK{K:Type}[DecidableEq K][DK K](a:aW)(Q:DV->aP->Mu->Prop):List (K×DV)->aP->Mu->Prop:=fun l Y Z=>∃Z',(l.map (·.1)).Nodup/\fE a (DK.mo ([]:List (K×DV))) (DK.mo l) Z Z'/\Q (.ptr a) Y Z'
theorem jF(W:Wk G B gs ff)(hall:keys.all (·.isSome)=ai)(hl:keys.length=values.length)(h0:keys≠[])(hlen:keys.length<=15)(h:∀a,U1 OZ (wI G B E gs ff [] 100) keys values Y ((a,.sdic [])::Z) (tG (FrK (K:=aV) a Q))):EV G B E (a9 (.Dict keys values pos) B.env) Y Z Q:=He (K:=aV) W.O (fun a=>(Ah Ew (W.ok _) (h a)).mono fun zz zz zz h=>h.get) hall hl h0 hlen
theorem AV(W:Wk G B gs ff)(hall:keys.all (·.isSome)=ai)(hl:keys.length=values.length)(h0:keys≠[])(hlen:keys.length<=15)(h:∀a,U1 OZ (wI G B E gs ff [] 100) keys values Y ((a,.sdic [])::Z) (tG (MuK (K:=aV) a Q))):EV G B E (a9 (.Dict keys values pos) B.env) Y Z Q:=yn (K:=aV) W.O (fun a=>(Ah Ew (W.ok _) (h a)).mono fun zz zz zz h=>h.get) hall hl h0 hlen
theorem FR(W:Wk G B gs ff)(hall:keys.all (·.isSome)=ai)(hl:keys.length=values.length)(h0:keys≠[])(hlen:keys.length<=15)(h:∀a,U1 UJ (wI G B E gs ff [] 100) keys values Y ((a,.idic [])::Z) (tG (MuK (K:=Int) a Q))):EV G B E (a9 (.Dict keys values pos) B.env) Y Z Q:=yn (K:=Int) W.O (fun a=>(Ah Mj (W.ok _) (h a)).mono fun zz zz zz h=>h.get) hall hl h0 hlen
theorem xm(W:Wk G B gs ff)(h:yR d=ac t)(hr:bw t=r)(q:Q (.bool r) Y Z):cI G B E (.builtin "isinstance") [d,.raw (.ref 254)] Y Z Q:=oE W.g W.O h hr q
theorem um(W:Wk G B gs ff)(h:yR d=ac t)(hr:dn t=r)(q:Q (.bool r) Y Z):cI G B E (.builtin "isinstance") [d,.raw (.type "dict")] Y Z Q:=sB W.g W.O h hr q
theorem EQ(W:Wk G B gs ff)(h:yR d=ac t)(hr:fW t=r)(q:Q (.bool r) Y Z):cI G B E (.builtin "isinstance") [d,.raw (.type "list")] Y Z Q:=yb W.g W.O h hr q
theorem Dt(W:Wk G B gs ff)(h:yR d=ac t)(hr:gt t=r)(q:Q (.bool r) Y Z):cI G B E (.builtin "isinstance") [d,.raw (.type "int")] Y Z Q:=BI W.g W.O h hr q
theorem zL(W:Wk G B gs ff)(h:yR d=ac t)(hr:eQ t=r)(q:Q (.bool r) Y Z):cI G B E (.builtin "isinstance") [d,.raw (.type "bool")] Y Z Q:=yc W.g W.O h hr q
theorem EO(W:Wk G B gs ff)(h:yR d=ac t)(hr:gI t=r)(q:Q (.bool r) Y Z):cI G B E (.builtin "isinstance") [d,.raw (.ref 183)] Y Z Q:=yd W.g W.O h hr q
theorem vo{x:fy}{xs:List fy}(W:Wk G B gs ff)(P:pd d=ac x)(hl:Bn l=ac xs)(hx:a6 x=ai)(hxs:∀y∈xs,a6 y=ai)(e:(xs.any fun y=>a8 y x)=b)(q:Q (.bool b) Y Z):O2 G B E (Is G.prog G.w) (bi .In) d (.tup l) Y Z Q:=Go W.O P hl hx hxs (by rw[e];exact q)
theorem lY{x y:fy}{b:Bool}(W:Wk G B gs ff)(P:PD Z d x)(P':PD Z d' y)(hx:a6 x=ai)(hy:a6 y=ai)(e:a8 x y=b)(q:Q (.bool b) Y Z):O2 G B E (Is G.prog G.w) (bi .Eq) d d' Y Z Q:=Bs W.O P P' hx hy (by rw[e];exact q)
theorem De{b:Bool}(W:Wk G B gs ff)(L:LS Z d l)(e:l.isEmpty=b)(q:Q (.bool b) Y Z):O2 G B E (Is G.prog G.w) (bi .Eq) d (.lst []) Y Z Q:=Gu W.O L (by rw[e];exact q)
theorem Ik{Q:Bool->aP->Mu->Prop}(L:LS Z d l)(hl:l.length<=1000000)(e:(!l.isEmpty)=b)(q:Q b Y Z):QY G B E d Y Z Q:=by
 intro V s v S hi;refine bl (L.openX S hi) fun a vs n z15 ho hL=>?_;subst z15;have hsz:vs.size=l.length:=by rw[<-aF,bb hL]
 refine wpAny_truthy_list (dI _ ho rfl n rfl) (by rw[hsz];exact TX hl) ?_;refine⟨b,Y,Z,V,S.sat_toks _,.refl _,?_,q⟩;rw[<-e];cases l with|nil=>simp only[List.length_nil] at hsz;simp[NB,hsz]|cons x r=>simp only[cK] at hsz;simp[NB,hsz]
theorem LW(W:Wk G B gs ff)(D:LS Z d l)(h:(wI G B E gs ff [] 100).el pos args Y Z (tG (AC G B E (.builtin "list.pop") [d] Q))):ny G B E (aa "pop") pl pos args Q d Y Z:=kH D F.slot_list_pop F.type_list_pop (ie W h)
theorem qZ(W:Wk G B gs ff)(D:LS Z d l)(h:(wI G B E gs ff [] 100).el pos args Y Z (tG (AC G B E (.builtin "list.append") [d] Q))):ny G B E (aa "append") pl pos args Q d Y Z:=kH D F.slot_list_append F.type_list_append (ie W h)
theorem Hv{l l0:List DV}{x:DV}(e:l0=l++[x])(R:fE a (.lst l0) (.lst l) Z Z')(hl:l.length<=1000000)(q:Q x Y Z'):cI G B E (.builtin "list.pop") ([.ptr a]++[]) Y Z Q:=by subst e;exact Kd R hl q
theorem ml{l l':List DV}{x:DV}(e:l++[x]=l')(R:fE a (.lst l) (.lst l') Z Z')(hl:l.length<=1000000)(q:Q .none Y Z'):cI G B E (.builtin "list.append") ([.ptr a]++[x]) Y Z Q:=by subst e;exact tD R hl q
theorem jB{b:Bool}(W:Wk G B gs ff)(e:l.isEmpty=b)(q:Q (.bool b) Y Z):O2 G B E (Is G.prog G.w) (bi .Eq) (.tup l) (.tup []) Y Z Q:=zp W.O (by rw[e];exact q)
theorem qW{K:Type}[DecidableEq K][DK K]{l:List (K×DV)}{b:Bool}(W:Wk G B gs ff)(D:DS Z d l)(e:(!l.isEmpty)=b)(q:Q (.bool b) Y Z):O2 G B E (Is G.prog G.w) (bi .NotEq) d (DK.dv ([]:List (K×DV))) Y Z Q:=Br W.O D (by rw[e];exact q)
theorem QM{K:Type}[DecidableEq K][DK K]{l l':List (K×DV)}{k:K}{dflt:DV}(e:xd l k=l')(R:fE a (DK.mo l) (DK.mo l') Z Z')(hl:l.length<=1000000)(q:Q ((kr l k).getD dflt) Y Z'):cI G B E (.builtin "dict.pop") ([.ptr a]++[DK.key k,dflt]) Y Z Q:=by subst e;exact D3 R hl q
theorem zq{K:Type}[DecidableEq K][DK K]{l:List (K×DV)}(W:Wk G B gs ff)(D:DS Z d l)(e:l.isEmpty=b)(q:Q (.bool b) Y Z):O2 G B E (Is G.prog G.w) (bi .Eq) d (DK.dv ([]:List (K×DV))) Y Z Q:=Bt W.O D (by rw[e];exact q)
theorem bD(W:Wk G B gs ff)(h:df B.env x c)(hm:(c,MO.cell d)∈Z)(hn:d≠.any)(hd:(x==("__debug__" : aV))=ak)(q:Q d Y Z):EV G B E (a9 (.Name x pos) B.env) Y Z Q:=Ag W.O h hm hn hd q
theorem gw{c b:Bool}(h:pw d=ac c)(e:(!c)=b)(q:Q (.bool b) Y Z):O2 G B E (Is G.prog G.w) (bi .IsNot) d .none Y Z Q:=xf h (e▸q)
theorem gZ{b:Bool}(h:pw d=ac b)(q:Q (.bool b) Y Z):O2 G B E (Is G.prog G.w) (bi .Is) d .none Y Z Q:=Dd h q
def Zv(res:Option α)(F:α->DV)(ν:Mu):DV->Mu->Prop:=fun d Z'=>∃x,res=ac x/\d=F x/\Z'=ν
abbrev mq(G:G0)(k:Nat)(f:aE)(ds:List DV)(Zc:Mu)(res:Option α)(F:α->DV):Prop:=jf G k f ds Zc (Zv res F Zc) (res.isSome=ai)
theorem jz(W:Wk G B gs ff)(w:qb B)(hm:B.m0=Z0.map (·.1))(H:mq G k f ds Zc res F)(hh:B.hd=ak)(P:nw Z Zc Zc Z)(hk:k<=B.k)(h0:∀p∈Z0,p∈Z)(no:res=aq->∀e s,XF G B.A B.V0 Z0 B.s0 B.L .none e s->E e s)(q:∀x,res=ac x->Q (F x) Y Z):cI G B E f ds Y Z Q:=by refine ar P.pick fun re a e=>?_;refine ww W.O w hm H hh a hk h0 (fun h=>no (by cases res with|none=>rfl|some x=>exact absurd rfl h)) fun zz d Z' h=>?_;refine bp h ?_;clear h;intro x e1 e2 e3;subst e2;subst e3;rw[e];exact q x e1
theorem mq.sure{res:Option α}{F:α->DV}{x:α}(H:mq G k f ds Zc res F)(e:res=ac x):ir G k f ds Zc (fun d Z'=>d=F x/\Z'=Zc):=by subst e;intro A V s vs a b c d e' h;refine dP (H A V s vs a b c d e' h) (oY.mono (fun r s' z16=>bl z16 fun d Z' V' T i y37=>Fb y37 fun zz y e1 e2 e3=>?_) fun e s' h=>absurd rfl h.1);(injection e1 with e1;subst e1);exact ez d Z' V' T i e2 e3
theorem pj{K:Type}[DecidableEq K][DK K]{l:List (K×DV)}{k:K}{b:Bool}(D:DS Z d l)(e:(kr l k).isSome=!b)(q:Q (.bool b) Y Z):O2 G B E (Is G.prog G.w) (bi .NotIn) (DK.key k) d Y Z Q:=IU D (by rw[e,nM];exact q)
theorem qr{K:Type}[DecidableEq K][DK K]{l:List (K×DV)}{k:K}{b:Bool}(D:DS Z d l)(e:(kr l k).isSome=b)(q:Q (.bool b) Y Z):O2 G B E (Is G.prog G.w) (bi .In) (DK.key k) d Y Z Q:=Ti D (by rw[e];exact q)
theorem DQ{K:Type}[DecidableEq K][DK K]{l:List (K×DV)}{k:K}{dflt x:DV}(D:DS Z d l)(e:(kr l k).getD dflt=x)(q:Q x Y Z):cI G B E (.builtin "dict.get") ([d]++[DK.key k,dflt]) Y Z Q:=D5 D (e▸q)
theorem oN{K:Type}[DecidableEq K][DK K]{l:List (K×DV)}{k:K}{x:DV}(D:DS Z d l)(e:(kr l k).getD .none=x)(q:Q x Y Z):cI G B E (.builtin "dict.get") ([d]++[DK.key k]) Y Z Q:=D6 D (e▸q)
theorem pb{Q:Fl->aP->Mu->Prop}{k:Int}(e:jp l k d=l')(R:fE a (.idic l) (.idic l') Z Z')(hl:l.length<=1000000)(q:Q .next Y Z'):HB Q d (.ptr a) (.int k) Y Z:=by subst e;exact Iy R hl q
theorem iM{Q:Fl->aP->Mu->Prop}{l l':List (aV×DV)}(e:jp l k d=l')(R:fE a (.sdic l) (.sdic l') Z Z')(hl:l.length<=1000000)(q:Q .next Y Z'):HB Q d (.ptr a) (.str k) Y Z:=by subst e;exact Ix R hl q
theorem iU{K:Type}[DecidableEq K][DK K]{l:List (K×DV)}(W:Wk G B gs ff)(D:DS Z d l)(h:(wI G B E gs ff [] 100).el pos args Y Z (tG (AC G B E (.builtin "dict.get") [d] Q))):ny G B E (aa "get") pl pos args Q d Y Z:=qt D F.slot_dict_get F.type_dict_get (ie W h)
theorem EG(h:∀C l,d≠.inst C l)(y:Yy):Mk d X Yy:=by cases d with|inst C l=>exact absurd rfl (h C l)|_=>exact y
theorem DS.notInst{K:Type}[DecidableEq K][DK K]{l:List (K×DV)}(h:DS Z d l)(hd:∀C l',DK.dv l≠.inst C l'):∀C l',d≠.inst C l':=by
 rcases h with rfl|⟨a,rfl,_⟩;.exact hd
 .intro C l' h;injection h
noncomputable def vO(q:Option (Int×PV)):Int:=(q.map fun p=>p.1).getD (-1)
noncomputable def uD(q:Option (Int×PV)):PV:=(q.map fun p=>p.2).getD .null
theorem Iu{k:Int}(hs:d4 lk tab)(h:lk k=ac q):(kr tab.d k).getD (.tup [.int (-1),.none])=.tup [.int (vO q),(uD q).d]:=by rw[dE.lkD,hs k q h];cases q<;>rfl
end
set_option backward.match.sparseCases true
local macro_rules | `(tactic| walk_at "na") => `(tactic| first | (intro h; cases h; done) | assumption | exact PV.d_any _)
local macro_rules | `(tactic| walk_at "v") => `(tactic| first | apply At.mk | ((conv => whnf); try (first | apply At.mk | (apply Pn; walk_at "na"; walk_at "v"))))
local macro_rules | `(tactic| walk_at "w") => `(tactic| ((try (with_reducible (first | apply uC | apply Lj | apply Xd | apply Xc | apply ie); assumption)); walk_at "v"))
noncomputable def Qy(t r:aW)(v:PV):PV×DV×DV×DV->aP|(v',h,gd,f)=>[(aa "self",bg t r),(aa "value",v.d),(aa "here",v'.d),(aa "hop",h),(aa "generation",gd),(aa "found",f)]
theorem Qx{k g:Int}(h:cc lk (n+1) (.ref k g)=ac res):∃q,lk k=ac q/\(vO q≠g->res=.null)/\(vO q=g->cc lk n (uD q)=ac res):=by(first|rw[yk] at h|rw[fetchP_e1] at h|unfold cc at h);cases e:lk k with|none=>rw[e] at h;injection h|some q=>rw[e] at h;refine bq q rfl ?_;cases q with|none=>exact⟨fun zz=>(aB h).symm,fun zz=>(mW rfl).trans h⟩|some p=>exact⟨fun hg=>(aB ((if_pos hg).symm.trans h)).symm,fun hg=>(if_neg (fun x=>x hg)).symm.trans h⟩
theorem Jz(hq:bw v.tg=ak)(h:cc lk n v=ac res):v.d=res.d:=congrArg PV.d (aB ((mW hq).symm.trans h))
section
variable (g : dK G) {t r : aW} {lk : Lk}
include g
theorem kn(n gen):ir G 1 (.ref 251) [ij n gen] [] (fun d Z'=>d=.tup [.int n,.int gen]/\Z'=[]):=by refine ey (ps:=[aa "self"]) (rest:=[]) g rfl rfl rfl rfl rfl rfl (gA fun zz=>rfl) rfl .nil (by kernel_rfl) fun B Q W hk hh zz hQ=>?_;walk_at "w";exact hQ _ _ _ (cS rfl ⟨rfl,rfl⟩)
theorem kC(hs:d4 lk tab)(v res)(hr:cc lk 30 v=ac res):ir G 1 (.ref 304) [bg t r,v.d] (bz t r tab tr) (fun d Z'=>d=res.d/\Z'=bz t r tab tr):=by
 refine ey (ps:=[aa "self",aa "value"]) (rest:=[aa "here",aa "hop",aa "generation",aa "found"]) g rfl rfl rfl rfl rfl rfl (jL fun zz zz=>rfl) rfl (.cons (ri g) (.cons (zW g) (.cons (cT g) (.cons (dX g) .nil)))) (by kernel_rfl) fun B Q W hk hh zz hQ=>?_;walk_at "w";refine mY W.O fun a=>?_;walk_at "w";refine m8 (ρf:=Qy t r v) (Zf:=fun zz=>bz t r tab tr) W (mR W.O hh (by decide) (by decide)) (fun i s=>cc lk (30-i) s.1=ac res) (v,_,_,_) hr rfl rfl ?_ ?_
 .intro B' P R i d s hd
  have hi:i<30:=by simpa using kK hd
  revert s;refine Bj fun v' h gd f hI W' zz hk' hh' zz hP hR=>?_;walk_at "w";cases hq:bw v'.tg with|false=>refine xm W' (PV.tgd _) hq ?_;walk_at "w";refine hR _ _ _ ?_;walk_at "w";exact hQ _ _ _ (cS rfl ⟨Jz hq hI,rfl⟩)|true=>
   refine xm W' (PV.tgd _) hq ?_;refine g5 (u7 hq) fun n gn z1=>?_;subst z1;walk_at "w";refine iU (K:=Int) W' (.inr (bq _ rfl (.head _))) ?_;walk_at "w";refine bp (Qx (Iw hi▸hI)) fun q hl h1 h2=>?_;refine DQ (K:=Int) (.inr (bq _ rfl (.head _))) (Iu hs hl) ?_;walk_at "w";by_cases hg:vO q=gn
   .refine iY (bne_eq_false_iff_eq.mpr hg) ?_
    walk_at "w";exact hP (uD q,_,_,_) (h2 hg)
   .refine oS (bne_iff_ne.mpr hg) ?_
    walk_at "w";refine hR _ _ _ ?_;walk_at "w";exact hQ _ _ _ (cS rfl ⟨by rw[h1 hg];rfl,rfl⟩)
 .refine Bj fun v' h gd f hI=>?_
  walk_at "w";cases hq:bw v'.tg with|false=>refine xm W (PV.tgd _) hq ?_;walk_at "w";exact hQ _ _ _ (cS rfl ⟨Jz hq hI,rfl⟩)|true=>refine xm W (PV.tgd _) hq ?_;walk_at "w";exact hQ _ _ _ (cS rfl ⟨by refine g5 (u7 hq) fun n gn z2=>?_;subst z2;(injection hI with hI;subst hI);rfl,rfl⟩)
end
section
variable (g : dK G)
include g
theorem w8(x dx n gen):g6 G 1 (.ref 244) [.ptr x,.int n,.int gen] [(x,.obj (cn 254 dx)),(dx,.flds [])] (fun d Z'=>∃l Zr,d=.none/\Z'=(x,.obj (cn 254 dx))::(dx,.flds l)::Zr/\(DV.inst 254 l=ij n gen/\Zr=[])):=by refine ey (ps:=[aa "self",aa "number",aa "generation"]) (rest:=[]) g rfl rfl rfl rfl rfl rfl (rG fun zz zz zz=>rfl) rfl .nil (by kernel_rfl) fun B Q W zz zz zz hQ=>?_;walk_at "w";refine pJ (u0 g) (by kernel_rfl) (aj rfl) ?_;walk_at "w";refine pJ (qo g) (by kernel_rfl) (aj rfl) ?_;walk_at "w";exact hQ _ _ _ (gM rfl (du _ _ rfl rfl rfl rfl))
theorem dN(n gen):g6 G 2 (.ref 254) [.int n,.int gen] [] (fun d Z'=>d=ij n gen/\Z'=[]):=kq g.ok (Pq g) fun x dx=>w8 g x dx n gen
theorem uQ(x dx y):g6 G 1 (.ref 180) [.ptr x,.str y] [(x,.obj (cn 183 dx)),(dx,.flds [])] (fun d Z'=>∃l Zr,d=.none/\Z'=(x,.obj (cn 183 dx))::(dx,.flds l)::Zr/\(DV.inst 183 l=xT y/\Zr=[])):=by refine ey (ps:=[aa "self",aa "text"]) (rest:=[]) g rfl rfl rfl rfl rfl rfl (jL fun zz zz=>rfl) rfl .nil (by kernel_rfl) fun B Q W zz zz zz hQ=>?_;walk_at "w";refine pJ (zg g) (by kernel_rfl) (aj rfl) ?_;walk_at "w";exact hQ _ _ _ (gM rfl (du _ _ rfl rfl rfl rfl))
theorem ko(y):g6 G 2 (.ref 183) [.str y] [] (fun d Z'=>d=xT y/\Z'=[]):=kq g.ok (Ps g) fun x dx=>uQ g x dx y
theorem r6(x dx a b)(h1:a≠.any)(h2:b≠.any):g6 G 1 (.ref 223) [.ptr x,a,b] [(x,.obj (cn 226 dx)),(dx,.flds [])] (fun d Z'=>∃l Zr,d=.none/\Z'=(x,.obj (cn 226 dx))::(dx,.flds l)::Zr/\(DV.inst 226 l=pc a b/\Zr=[])):=by refine ey (ps:=[aa "self",aa "head",aa "octets"]) (rest:=[]) g rfl rfl rfl rfl rfl rfl (rG fun zz zz zz=>rfl) rfl .nil (by kernel_rfl) fun B Q W zz zz zz hQ=>?_;walk_at "w";refine pJ (zf g) (by kernel_rfl) (aj rfl) ?_;walk_at "w";refine pJ (u5 g) (by kernel_rfl) (aj rfl) ?_;walk_at "w";exact hQ _ _ _ (gM rfl (du _ _ rfl rfl rfl rfl))
theorem A3(a b)(h1:a≠.any)(h2:b≠.any):g6 G 2 (.ref 226) [a,b] [] (fun d Z'=>d=pc a b/\Z'=[]):=kq g.ok (Pr g) fun x dx=>r6 g x dx a b h1 h2
theorem uO(x dx a b)(h1:a≠.any)(h2:b≠.any):g6 G 1 (.ref 385) [.ptr x,a,b] [(x,.obj (cn 388 dx)),(dx,.flds [])] (fun d Z'=>∃l Zr,d=.none/\Z'=(x,.obj (cn 388 dx))::(dx,.flds l)::Zr/\(DV.inst 388 l=IT a b/\Zr=[])):=by refine ey (ps:=[aa "self",aa "reference",aa "fields"]) (rest:=[]) g rfl rfl rfl rfl rfl rfl (rG fun zz zz zz=>rfl) rfl .nil (by kernel_rfl) fun B Q W zz zz zz hQ=>?_;walk_at "w";refine pJ (qS g) (by kernel_rfl) (aj rfl) ?_;walk_at "w";refine pJ (uZ g) (by kernel_rfl) (aj rfl) ?_;walk_at "w";exact hQ _ _ _ (gM rfl (du _ _ rfl rfl rfl rfl))
theorem F6(a b)(h1:a≠.any)(h2:b≠.any):g6 G 2 (.ref 388) [a,b] [] (fun d Z'=>d=IT a b/\Z'=[]):=kq g.ok (Pp g) fun x dx=>uO g x dx a b h1 h2
theorem uN(x dx a b c i p)(h1:a≠.any)(h2:b≠.any)(h3:c≠.any)(h4:i≠.any)(h5:p≠.any):g6 G 1 (.ref 406) [.ptr x,a,b,c,i,p] [(x,.obj (cn 409 dx)),(dx,.flds [])] (fun d Z'=>∃l Zr,d=.none/\Z'=(x,.obj (cn 409 dx))::(dx,.flds l)::Zr/\(DV.inst 409 l=IC a b c i p/\Zr=[])):=by refine ey (ps:=[aa "self",aa "reference",aa "head",aa "above",aa "inherited",aa "is_page"]) (rest:=[]) g rfl rfl rfl rfl rfl rfl (Vh fun zz zz zz zz zz zz=>rfl) rfl .nil (by kernel_rfl) fun B Q W zz zz zz hQ=>?_;walk_at "w";refine pJ (qQ g) (by kernel_rfl) (aj rfl) ?_;walk_at "w";refine pJ (ze g) (by kernel_rfl) (aj rfl) ?_;walk_at "w";refine pJ (xc g) (by kernel_rfl) (aj rfl) ?_;walk_at "w";refine pJ (qR g) (by kernel_rfl) (aj rfl) ?_;walk_at "w";refine pJ (tT g) (by kernel_rfl) (aj rfl) ?_;walk_at "w";exact hQ _ _ _ (gM rfl (du _ _ rfl rfl rfl rfl))
theorem F5(a b c i p)(h1:a≠.any)(h2:b≠.any)(h3:c≠.any)(h4:i≠.any)(h5:p≠.any):g6 G 2 (.ref 409) [a,b,c,i,p] [] (fun d Z'=>d=IC a b c i p/\Z'=[]):=kq g.ok (Po g) fun x dx=>uN g x dx a b c i p h1 h2 h3 h4 h5
theorem xa(e t m):gf G ak 1 (.ref 36) [.ptr e,.str m] [(e,.obj (f9 59 t))] (fun d Z'=>d=.none/\∃t dx,Z'=[(e,.obj (wa 59 t dx))]) (fun zz zz zz zz zz=>False):=by
 refine E8 (Y0:=[(aa "self",.ptr e),(aa "what",.str m),(aa "at",.int (-1))]) g.ok (by rfl) rfl rfl rfl rfl rfl (by decide +kernel) rfl rfl (by rfl) ?_ (ns:=[aa "self",aa "what",aa "at"]) rfl (by decide +kernel) ?_
 .refine QT g.ok (ps:=[aa "self",aa "what",aa "at"]) (dds:=[.int (-1)]) (dvs:=[.int (-1) 209]) (rest:=[]) rfl ?_ (fun V=>aG.mpr (bO _ _ rfl (bA.mpr ⟨_,rfl⟩) (be.mpr rfl))) (by decide +kernel) (by decide +kernel)
  intro s vs h X;refine g5 (Pv h) fun v1 v2 z1=>?_;subst z1;exact binds_K X rfl (by rfl) rfl rfl rfl
 .intro B O hk hh henv hm
  have W:Wk G B _ ai:=⟨O,fun zz=>hh,g,.cons (zX g) .nil,by rw[henv];kernel_rfl⟩
  clear henv;refine g4 ?_;walk_at "w";refine Dh O (by kernel_rfl) (by kernel_rfl) (Ad g) (by decide +kernel) ?_;walk_at "w";refine Ap O (v8 g) fun t'=>?_;walk_at "w";refine g4 ?_;refine JC O ?_ rfl;walk_at "w";walk_at "w";refine ez _ _ _ rfl rfl (Bb g) (fun dx=>?_);refine g4 ?_;refine JB O ?_ rfl;walk_at "w";walk_at "w";refine⟨_,_,_,_,_,rfl,rfl,Ga g,by kernel_rfl,aj rfl,?_⟩;refine Af ?_;exact ez [(dx,_)] [(e,_)] .none (.swap _ _ _) rfl ⟨rfl,_,_,rfl⟩ (.inr (.inl ⟨rfl,rfl⟩))
end
section
variable {ff : Bool}
theorem uh{Q:Fl->aP->Mu->Prop}(W:Wk G B gs ff)(hE:∀e s,¬ok/\EF G B Z0 e s->E e s)(hh:B.hd=ak)(hg:pY gs (aa "TreeFault")=ac d)(hok:¬ok)(hk:2<=B.k)(hZ:∀p∈Z0,p∈Z):EX G B E (fb (.Raise (ac (.Call (.Name (aa "TreeFault") p1) [.Constant (.str m) k p2] [] p3)) aq pos) B.env) Y Z Q:=by refine WP.exc (JD W.O (v8 W.g) hh hok ?_) hE;refine wf W.O (we W.O (dW W.g) (by simpa using aU.mp W.hk _ (iD hg).mem) (by decide +kernel) (Kh (NT W.g) (ur (JI (Ai ?_)) rfl))) rfl rfl;exact D2 W.O (v8 W.g) (fun e t=>xa W.g e t _) hh (T4 hk) fun e t dx=>(kh _ _ _ _ rfl rfl hZ)
end
theorem rh(l k):(kr (PV.dS l) k).getD .none=((fM l k).getD .null).d:=by rw[gu];cases fM l k<;>rfl
theorem DS.ne_any{K:Type}[DecidableEq K][DK K]{l:List (K×DV)}(h:DS Z d l)(hd:DK.dv l≠.any):d≠.any:=by
 rcases h with rfl|⟨a,rfl,_⟩;.exact hd
 .intro h;injection h
noncomputable def fO(lk:Lk):Nat->List Int->PV->Option (Option (Int×Int))
 |n+1,seen,.ref k g=>if k∈seen then ac aq else
  match lk k with
  |none=>aq|some aq=>if -1≠g then ac aq else ac (ac (k,g))
  |some (ac (g',v))=>if g'≠g then ac aq else match v with|.ref k' g''=>fO lk n (seen++[k]) (.ref k' g'')|_=>ac (ac (k,g))
 |0,_,.ref _ _=>aq|_,_,_=>ac aq
theorem Jr(lk){n seen k g}:fO lk (n+1) seen (.ref k g)=(if k∈seen then ac aq else
  match lk k with
  |none=>aq|some aq=>if -1≠g then ac aq else ac (ac (k,g))
  |some (ac (g',v))=>if g'≠g then ac aq else match v with|.ref k' g''=>fO lk n (seen++[k]) (.ref k' g'')|_=>ac (ac (k,g))):=rfl
noncomputable def kE(l:List Int):List (Int×DV):=l.map fun n=>(n,.bool ai)
theorem zA(k):∀l,(kr (kE l) k).isSome=decide (k∈l):=by
 intro p0_;induction p0_ with|nil=>exact rfl|cons n r ih=>
  have ih:=ih;unfold kE kr at *;rw[au,bh];by_cases h:n=k;.simp[h]
  .simp only[h,decide_false]
   rw[ih];simp[oZ h]
theorem Bh(k l)(h:k∉l):jp (kE l) k (.bool ai)=kE (l++[k]):=by
 have:((kE l).any fun kv=>kv.1=k)=ak:=by unfold kE;rw[fk,H9];intro x hx;simp only[ej,decide_eq_true_eq];exact fun e=>h (e▸hx)
 unfold jp;rw[this];simp[kE]
noncomputable def NU(t r a:aW)(v:PV):PV×List Int×DV×DV->aP|(v',seen,gd,f)=>[(aa "shelf",bg t r),(aa "value",v.d),(aa "here",v'.d),(aa "seen",.ptr a),(aa "generation",gd),(aa "found",f)]
noncomputable def NV(t r a:aW)(tab:dE)(tr:List (aV×PV)):PV×List Int×DV×DV->Mu|(_,seen,_,_)=>(a,.idic (kE seen))::bz t r tab tr
def UR(lk:Lk)(res:Option (Int×Int))(n:Nat):PV×List Int×DV×DV->Prop|(v',seen,_,_)=>fO lk n seen v'=ac res/\seen.length+n<=64
def UQ(res:Option (Int×Int))(s:PV×List Int×DV×DV):Prop:=res=aq
inductive VE (lk:Lk) (n:Nat) (seen:List Int) (k g:Int) (res:Option (Int×Int)):Prop
 |seen (h:k∈seen) (e:res=aq)
 |new (h:k∉seen) (q:Option (Int×PV)) (e:lk k=ac q) (no:vO q≠g->res=aq) (fin:vO q=g->bw (uD q).tg=ak->res=ac (k,g))
  (on:vO q=g->bw (uD q).tg=ai->∃m,m<n/\fO lk m (seen++[k]) (uD q)=ac res/\(seen++[k]).length+m<=seen.length+n)
noncomputable def EZ(lk:Lk)(n:Nat)(seen:List Int)(k g:Int):Option (Option (Int×PV))->Option (Option (Int×Int))
 |none=>aq|some aq=>if -1≠g then ac aq else ac (ac (k,g))
 |some (ac (g',v))=>if g'≠g then ac aq else match v with|.ref k' g''=>fO lk n (seen++[k]) (.ref k' g'')|_=>ac (ac (k,g))
theorem Ju{seen:List Int}{k g:Int}:fO lk (n+1) seen (.ref k g)=if k∈seen then ac aq else EZ lk n seen k g (lk k):=rfl
theorem Jt{seen:List Int}{k g:Int}(hg:vO q≠g):EZ lk n seen k g (ac q)=ac aq:=by cases q with|none=>exact if_pos hg|some p=>exact if_pos hg
theorem G1{seen:List Int}{k g:Int}(hg:vO q=g)(hv:bw (uD q).tg=ak):EZ lk n seen k g (ac q)=ac (ac (k,g)):=by
 cases q with
 |none=>exact if_neg fun x=>x hg
 |some p=>obtain⟨g',v⟩:=p;refine(if_neg fun x=>x hg).trans ?_;cases v<;>first|rfl|injection hv
theorem Js{seen:List Int}{k g:Int}(hg:vO q=g)(hv:bw (uD q).tg=ai):EZ lk n seen k g (ac q)=fO lk n (seen++[k]) (uD q):=by cases q with|none=>injection hv|some p=>obtain⟨g',v⟩:=p;refine(if_neg fun x=>x hg).trans ?_;refine g5 (u7 hv) fun a b z1=>?_;subst z1;rfl
theorem UO{seen:List Int}{k g:Int}(h:fO lk n seen (.ref k g)=ac res):VE lk n seen k g res:=by
 cases n with|zero=>injection h|succ n=>
  by_cases hk:k∈seen;.exact .seen hk (aB ((if_pos hk).symm.trans h)).symm
  .have h:=(if_neg hk).symm.trans (Ju.symm.trans h)
   cases hl:lk k with|none=>rw[hl] at h;injection h|some q=>rw[hl] at h;exact .new hk q hl (fun hg=>(aB ((Jt hg).symm.trans h)).symm) (fun hg hv=>(aB ((G1 hg hv).symm.trans h)).symm) fun hg hv=>(cB n (c8 _) ((Js hg hv).symm.trans h) (by rw[aS,bQ];exact bv (f7 ..)))
theorem BO{seen:List Int}:∀{v:PV},bw v.tg=ak->fO lk n seen v=ac aq
 |.null,_=>by cases n<;>rfl
 |.bool _,_=>by cases n<;>rfl
 |.int _,_=>by cases n<;>rfl
 |.name _,_=>by cases n<;>rfl
 |.arr _,_=>by cases n<;>rfl
 |.dict _,_=>by cases n<;>rfl
 |.stream _,_=>by cases n<;>rfl
theorem UP{seen:List Int}(hq:bw v.tg=ak)(h:fO lk n seen v=ac res):res=aq:=(aB ((BO hq).symm.trans h)).symm
section
variable (g : dK G) {t r : aW} {lk : Lk}
include g
theorem iP(hs:d4 lk tab)(D:DS (bz t r tab tr) hd (PV.dS l))(key res)(hr:cc lk 30 ((fM l key).getD .null)=ac res):ir G 2 (.ref 311) [bg t r,hd,.str key] (bz t r tab tr) (fun d Z'=>d=res.d/\Z'=bz t r tab tr):=by have hne:=D.ne_any (by intro h;injection h);refine ey (ps:=[aa "self",aa "head",aa "key"]) (rest:=[]) g rfl rfl rfl rfl rfl rfl (rG fun zz zz zz=>rfl) rfl .nil (by kernel_rfl) fun B Q W hk hh zz hQ=>?_;walk_at "w";refine EG (D.notInst fun zz zz h=>by injection h) ?_;walk_at "v";refine iU (K:=aV) W D ?_;walk_at "w";refine oN (K:=aV) D (rh l key) ?_;walk_at "w";refine aw W.O (kC g hs _ res hr) (.inr hh) (.take (.take .nil)) (cN hk rfl) ?_;walk_at "w";exact hQ _ _ _ (cS rfl ⟨rfl,rfl⟩)
theorem j6(hs:d4 lk tab)(v res)(hr:fO lk 64 [] v=ac res):mq G 3 (.ref 427) [bg t r,v.d] (bz t r tab tr) res (fun p=>ij p.1 p.2):=by
 refine ke (ps:=[aa "shelf",aa "value"]) (rest:=[aa "here",aa "seen",aa "generation",aa "found"]) g rfl rfl rfl rfl rfl rfl (jL fun zz zz=>rfl) rfl (.cons (cT g) (.cons (dX g) (.cons (dW g) .nil))) (by kernel_rfl) fun B E Q W w hk hh zz hE hQ=>?_;walk_at "w";refine oK (K:=Int) W.O fun a=>?_;walk_at "w";refine yL (ρf:=NU t r a v) (Zf:=NV t r a tab tr) (Yj:=NU t r a v) (Zj:=NV t r a tab tr) W (UR lk res) (UQ res) 64 (v,[],_,_) ⟨hr,aI _⟩ ?_ ?_
 .refine fun P R n=>Bj fun v' seen gd f h hP hJ hR=>?_
  walk_at "w";cases hq:bw v'.tg with|false=>refine xm W (PV.tgd _) hq ?_;walk_at "w";exact hJ (v',seen,gd,f) (UP hq h.1)|true=>
   refine xm W (PV.tgd _) hq ?_;refine g5 (u7 hq) fun k gg z2=>?_;subst z2;walk_at "w";cases UO h.1 with|seen hs e=>refine pj (K:=Int) (l:=kE seen) (b:=ak) (.inr (bq _ rfl (.head _))) ((zA _ _).trans (decide_eq_true hs)) ?_;walk_at "w";exact hJ (PV.ref k gg,seen,gd,f) e|new hk' q hl no fin on=>
    refine pj (K:=Int) (l:=kE seen) (b:=ai) (.inr (bq _ rfl (.head _))) ((zA _ _).trans (decide_eq_false hk')) ?_;walk_at "w";refine pb (Bh k seen hk') .head (by rw[kE,af];exact ae (ae (cg _ _) h.2) (by decide)) ?_;walk_at "w";refine iU (K:=Int) W (.inr (bq _ rfl (.tail _ (.head _)))) ?_;walk_at "w";refine DQ (K:=Int) (.inr (bq _ rfl (.tail _ (.head _)))) (Iu hs hl) ?_;walk_at "w";by_cases hg:vO q=gg
    .refine iY (bne_eq_false_iff_eq.mpr hg) ?_
     walk_at "w";cases hq2:bw (uD q).tg with|false=>refine xm W (PV.tgd _) hq2 ?_;walk_at "w";refine hR _ _ _ ?_;walk_at "w";refine hQ _ _ _ (kM rfl ?_);exact nB (by rw[fin hg hq2];rfl) _ (fin hg hq2) rfl rfl|true=>refine xm W (PV.tgd _) hq2 ?_;walk_at "w";refine bp (on hg hq2) fun m hm h1 h2=>?_;exact hP m (uD q,seen++[k],_,_) hm ⟨h1,ae h2 h.2⟩
    .refine oS (bne_iff_ne.mpr hg) ?_
     walk_at "w";exact hJ (PV.ref k gg,seen++[k],_,_) (no hg)
 .intro s hj
  walk_at "w";exact uh W hE hh rfl (by rw[show res=aq from hj];intro h;injection h) (cN hk rfl) fun p hp=>.tail _ hp
end
noncomputable def dC(l:List (aV×PV))(k:aV):PV:=(fM l k).getD .null
noncomputable def PV.isNull:PV->Bool|.null=>ai|_=>ak
noncomputable def lc(lk:Lk)(l:List (aV×PV)):Option Bool:=
 match cc lk 30 (dC l (aa "Type")) with
 |none=>aq|some (.name x)=>if x=aa "Pages" then ac ai else if x=aa "Page" then ac ak else aq
 |some _=>(cc lk 30 (dC l (aa "Kids"))).map fun v=>!v.isNull
noncomputable def tm(lk:Lk)(l:List (aV×PV)):Option (Option (List PV)):=(cc lk 30 (dC l (aa "Kids"))).map fun v=>match v with|.arr k=>ac k|_=>aq
theorem fB(v:PV):pw v.d=ac v.isNull:=by cases v<;>rfl
theorem to{v:PV}(h:v.isNull=ai):v=.null:=by cases v<;>first|rfl|injection h
noncomputable def xR(b:Bool):aV:=aa (if b then "Pages" else "Page")
inductive VB (lk:Lk) (l:List (aV×PV)) (res:Bool):Prop
 |name (h:cc lk 30 (dC l (aa "Type"))=ac (.name (xR res)))
 |kids (kd kv:PV) (h:cc lk 30 (dC l (aa "Type"))=ac kd) (hn:gI kd.tg=ak) (hk:cc lk 30 (dC l (aa "Kids"))=ac kv) (e:(!kv.isNull)=res)
theorem Ur(h:lc lk l=ac res):VB lk l res:=by
 unfold lc at h;cases hf:cc lk 30 (dC l (aa "Type")) with|none=>rw[hf] at h;cases h|some kd=>
  rw[hf] at h;by_cases hq:gI kd.tg=ak
  .have h:(cc lk 30 (dC l (aa "Kids"))).map (fun v=>!v.isNull)=ac res:=by cases kd<;>first|exact h|cases hq
   refine ar (aD.mp h) fun kv hk e=>?_;exact .kids kd kv hf hq hk e
  .cases kd with
   |name x=>
    refine .name (hf.trans (congrArg (fun y=>ac (PV.name y)) ?_));by_cases h1:x=aa "Pages";.cases(if_pos h1).symm.trans h;exact h1
    .by_cases h2:x=aa "Page"
     .cases(if_pos h2).symm.trans ((if_neg h1).symm.trans h);exact h2
     .cases(if_neg h2).symm.trans ((if_neg h1).symm.trans h)
   |_=>exact absurd rfl hq
theorem zl(b):a6 (.str (xR b))=ai:=by cases b<;>kernel_rfl
theorem LJ(b):([PyData.str (aa "Pages"),.str (aa "Page")].any fun y=>a8 y (.str (xR b)))=ai:=by cases b<;>decide +kernel
theorem LK(b):a8 (.str (xR b)) (.str (aa "Pages"))=b:=by cases b<;>decide +kernel
section
variable (g : dK G) {t r : aW} {lk : Lk}
include g
theorem yW(hs:d4 lk tab)(l res)(hr:lc lk l=ac res):ir G 3 (.ref 434) [bg t r,.sdic (PV.dS l)] (bz t r tab tr) (fun d Z'=>d=.bool res/\Z'=bz t r tab tr):=by refine ey (ps:=[aa "shelf",aa "head"]) (rest:=[aa "kind"]) g rfl rfl rfl rfl rfl rfl (jL fun zz zz=>rfl) rfl (.cons (cT g) (.cons (mU g) .nil)) (by kernel_rfl) fun B Q W hk hh zz hQ=>?_;walk_at "w";cases Ur hr with|name h=>refine aw W.O (iP g hs (.inl rfl) (aa "Type") _ h) (.inr hh) (.take (.take .nil)) (cN hk rfl) ?_;walk_at "w";refine EO W rfl rfl ?_;walk_at "w";refine vo W (x:=.str (xR res)) (xs:=[.str (aa "Pages"),.str (aa "Page")]) rfl rfl (zl res) (by decide +kernel) (LJ res) ?_;walk_at "w";refine lY W (x:=.str (xR res)) (y:=.str (aa "Pages")) (.inl rfl) (.inl rfl) (zl res) (zl ai) (LK res) ?_;walk_at "w";exact hQ _ _ _ (cS rfl ⟨rfl,rfl⟩)|kids kd kv h hn hkv e=>refine aw W.O (iP g hs (.inl rfl) (aa "Type") _ h) (.inr hh) (.take (.take .nil)) (cN hk rfl) ?_;walk_at "w";refine EO W (PV.tgd _) hn ?_;walk_at "w";refine aw W.O (iP g hs (.inl rfl) (aa "Kids") kv hkv) (.inr hh) (.take (.take .nil)) (cN hk rfl) ?_;walk_at "w";refine gw (fB kv) e ?_;walk_at "w";exact hQ _ _ _ (cS rfl ⟨rfl,rfl⟩)
end
noncomputable def eH(l:List (aV×PV))(k:aV)(v:PV):List (aV×PV):=if l.any (fun kv=>kv.1=k) then l.map (fun kv=>if kv.1=k then(kv.1,v) else kv) else l++[(k,v)]
theorem mN(k v l):jp (PV.dS l) k v.d=PV.dS (eH l k v):=by
 unfold jp eH;rw[PV.dS_map,fk];have e:(l.any ((fun kv:aV×DV=>decide (kv.1=k))∘fun p=>(p.1,p.2.d)))=l.any fun kv=>kv.1=k:=rfl;rw[e];split
 .rw[PV.dS_map,bS,bS]
  refine bM fun p zz=>?_;simp only[ej];split<;>rfl
 .rw[PV.dS_map,aA];rfl
noncomputable def iR(l:List (Int×Int)):List DV:=l.map fun p=>ij p.1 p.2
structure bk where
 n:Int
 k:Int
 head:List (aV×PV)
 above:List (Int×Int)
 inh:List (aV×PV)
 page:Bool
@[reducible] noncomputable def bk.d(s:bk):DV:=IC (ij s.n s.k) (.sdic (PV.dS s.head)) (.tup (iR s.above)) (.sdic (PV.dS s.inh)) (.bool s.page)
noncomputable def eX:List aV:=[aa "Resources",aa "MediaBox",aa "CropBox",aa "Rotate"]
noncomputable def pM(lk:Lk)(l:List (aV×PV)):List aV->List (aV×PV)->Option (List (aV×PV))|[],i=>ac i|k::r,i=>match cc lk 30 (dC l k) with|none=>aq|some .null=>pM lk l r i|some _=>match fM l k with|none=>aq|some v=>pM lk l r (eH i k v)
theorem EW(lk l){k r i}:pM lk l (k::r) i=(match cc lk 30 (dC l k) with|none=>aq|some .null=>pM lk l r i|some _=>match fM l k with|none=>aq|some v=>pM lk l r (eH i k v)):=rfl
noncomputable def tX(lk:Lk)(v:PV)(above:List (Int×Int))(inh:List (aV×PV)):Option (Option bk):=
 match fO lk 64 [] v with|none=>aq|some aq=>ac aq|some (ac (n,k))=>match cc lk 30 (.ref n k) with
  |none=>aq|some (.dict l)=>match pM lk l eX inh,lc lk l with|some i,ac b=>ac (ac ⟨n,k,l,above,i,!b⟩)|_,_=>aq
  |some _=>ac aq
theorem jX(l):(PV.dS l).length=l.length:=by rw[PV.dS_map,af]
theorem lX(l k v):(eH l k v).length<=l.length+1:=by
 unfold eH;split;.rw[af];exact cD _
 .rw[aS];exact aI _
theorem yS{ks:List aV}(h:(ks.map DV.str)[i]?=ac d):∃x,d=.str x/\ks.drop i=x::ks.drop (i+1):=by rw[bj] at h;cases hk:ks[i]? with|none=>rw[hk] at h;injection h|some x=>rw[hk] at h;(injection h with h;subst h);obtain⟨hi,rfl⟩:=cq.mp hk;exact bq _ rfl (yK hi)
theorem L4{v:PV}(h:fW v.tg=ai):∃x,v=.arr x:=by cases v<;>first|((first|(injection h;done)|cases h);done)|exact⟨_,rfl⟩
theorem ut{v:PV}(h:dn v.tg=ai):∃x,v=.dict x:=by cases v<;>first|((first|(injection h;done)|cases h);done)|exact⟨_,rfl⟩
theorem UG(h:tm lk l=ac res):∃kv,cc lk 30 (dC l (aa "Kids"))=ac kv/\(fW kv.tg=ak->res=aq)/\∀k,kv=.arr k->res=ac k:=by refine ar (aD.mp h) fun kv hk e=>?_;refine cB kv hk (fun hq=>?_) (fun k hk=>by subst hk;exact e.symm);cases kv<;>first|exact e.symm|injection hq
inductive ZB (lk:Lk) (v:PV) (above:List (Int×Int)) (inh:List (aV×PV)) (res:Option bk):Prop
 |noHome (h:fO lk 64 [] v=ac aq) (e:res=aq)
 |noDict (n k:Int) (hd:PV) (h:fO lk 64 [] v=ac (ac (n,k))) (hf:cc lk 30 (.ref n k)=ac hd) (hq:dn hd.tg=ak) (e:res=aq)
 |spot (n k:Int) (l i:List (aV×PV)) (b:Bool) (h:fO lk 64 [] v=ac (ac (n,k))) (hf:cc lk 30 (.ref n k)=ac (.dict l)) (hi:pM lk l eX inh=ac i) (hn:lc lk l=ac b) (e:res=ac ⟨n,k,l,above,i,!b⟩)
theorem Uw(h:tX lk v above inh=ac res):ZB lk v above inh res:=by
 unfold tX at h;cases hh:fO lk 64 [] v with|none=>rw[hh] at h;injection h|some ho=>
  rw[hh] at h;cases ho with|none=>exact .noHome hh (aB h).symm|some p=>
   obtain⟨n,k⟩:=p;dsimp only at h;cases hf:cc lk 30 (.ref n k) with|none=>rw[hf] at h;injection h|some hd=>
    rw[hf] at h;by_cases hq:dn hd.tg=ak;.exact .noDict n k hd hh hf hq (by cases hd<;>first|exact(aB h).symm|injection hq)
    .refine aY (ut (Bool.of_not_eq_false hq)) fun l z1=>?_
     subst z1;dsimp only at h;cases h1:pM lk l eX inh with|none=>rw[h1] at h;injection h|some i=>cases h2:lc lk l with|none=>rw[h1,h2] at h;injection h|some b=>rw[h1,h2] at h;exact .spot n k l i b hh hf h1 h2 (aB h).symm
theorem YV(h:pM lk l (x::r) i'=ac i):∃fv,cc lk 30 (dC l x)=ac fv/\(fv.isNull=ai->pM lk l r i'=ac i)/\(fv.isNull=ak->∃vx,fM l x=ac vx/\pM lk l r (eH i' x vx)=ac i):=by
 (first|rw[inhP_e0] at h|rw[EW] at h|unfold pM at h);cases hf:cc lk 30 (dC l x) with|none=>rw[hf] at h;injection h|some fv=>
  rw[hf] at h;refine cB fv rfl (fun hn=>?_) (fun hn=>?_);.rw[to hn] at h;exact h
  .have h2:(match fM l x with|none=>aq|some v=>pM lk l r (eH i' x v))=ac i:=by cases fv<;>first|exact h|injection hn
   cases hx:fM l x with|none=>rw[hx] at h2;injection h2|some vx=>rw[hx] at h2;exact bq vx rfl h2
noncomputable def YO(t r:aW)(v:PV)(above:List (Int×Int))(inh:List (aV×PV))(n k:Int)(l:List (aV×PV))(a:aW):List (aV×PV)×DV->aP|(_,key)=>[(aa "shelf",bg t r),(aa "value",v.d),(aa "above",.tup (iR above)),(aa "inherited",.sdic (PV.dS inh)),(aa "reference",ij n k),(aa "head",.sdic (PV.dS l)),(aa "given",.ptr a),(aa "key",key)]
noncomputable def Ux(t r:aW)(tab:dE)(tr:List (aV×PV))(a:aW):List (aV×PV)×DV->Mu|(i,_)=>(a,.sdic (PV.dS i))::bz t r tab tr
section
variable (g : dK G) {t r : aW} {lk : Lk}
include g
theorem yV(hs:d4 lk tab)(l res)(hr:tm lk l=ac res):mq G 3 (.ref 441) [bg t r,.sdic (PV.dS l)] (bz t r tab tr) res (fun k=>.lst (PV.dL k)):=by
 refine ke (ps:=[aa "shelf",aa "head"]) (rest:=[aa "kids"]) g rfl rfl rfl rfl rfl rfl (jL fun zz zz=>rfl) rfl (.cons (cT g) (.cons (zT g) (.cons (dW g) .nil))) (by kernel_rfl) fun B E Q W w hk hh zz hE hQ=>?_;refine bp (UG hr) fun kv hkv h1 h2=>?_;walk_at "w";refine aw W.O (iP g hs (.inl rfl) (aa "Kids") kv hkv) (.inr hh) (.take (.take .nil)) (cN hk rfl) ?_;walk_at "w";cases hq:fW kv.tg with
 |true=>refine EQ W (PV.tgd _) hq ?_;walk_at "w";refine aY (L4 hq) fun x e=>?_;refine hQ _ _ _ (cS rfl ?_);exact nB (by rw[h2 x e];rfl) x (h2 x e) (by rw[e];simp only[PV.d]) rfl
 |false=>refine EQ W (PV.tgd _) hq ?_;walk_at "w";exact uh W hE hh rfl (by rw[h1 hq];intro h;injection h) (cN hk rfl) fun p hp=>hp
theorem uR(hs:d4 lk tab)(v above inh)(hi:inh.length<=900)(res)(hr:tX lk v above inh=ac res):mq G 4 (.ref 448) [bg t r,v.d,.tup (iR above),.sdic (PV.dS inh)] (bz t r tab tr) res bk.d:=by
 refine B6 (ps:=[aa "shelf",aa "value",aa "above",aa "inherited"]) (rest:=[aa "reference",aa "head",aa "given",aa "key"]) g rfl rfl rfl rfl rfl rfl (NZ fun zz zz zz zz=>rfl) rfl (.cons (vS g) (.cons (cT g) (.cons (jC g) (.cons (dW g) (.cons (rq g) (.cons (Mq g) (.cons (DF g) .nil))))))) (by kernel_rfl) [241] fun B E Q W w hk hh hm hE hQ=>?_;walk_at "w";cases Uw hr with
 |noHome h e=>refine jz W w hm (j6 g hs v _ h) hh (.take (.take .nil)) (cN hk rfl) (fun p hp=>hp) (fun zz e' s' x=>hE e' s' ⟨(by rw[e];intro h;injection h),.fly x⟩) fun x h=>by injection h
 |noDict n k hd h hf hq e=>refine jz W w hm (j6 g hs v _ h) hh (.take (.take .nil)) (cN hk rfl) (fun p hp=>hp) (fun h=>by injection h) fun x h=>?_;(injection h with h;subst h);walk_at "w";refine aw W.O (kC g hs (.ref n k) hd hf) (.inr hh) (.take (.take .nil)) (cN hk rfl) ?_;walk_at "w";refine um W (PV.tgd _) hq ?_;walk_at "w";exact uh W hE hh rfl (by rw[e];intro h;injection h) (cN hk rfl) fun p hp=>hp
 |spot n k l i b h hf hinh hnode e=>
  refine jz W w hm (j6 g hs v _ h) hh (.take (.take .nil)) (cN hk rfl) (fun p hp=>hp) (fun h=>by injection h) fun x h=>?_;(injection h with h;subst h);walk_at "w";refine aw W.O (kC g hs (.ref n k) (.dict l) hf) (.inr hh) (.take (.take .nil)) (cN hk rfl) ?_;walk_at "w";refine um W (PV.tgd _) rfl ?_;walk_at "w";refine lF (K:=aV) W.O (.inl rfl) (by rw[jX];exact ae hi (by decide)) fun a=>?_;walk_at "w";refine m8 (ρf:=YO t r v above inh n k l a) (Zf:=Ux t r tab tr a) W (qw W.O hh) (fun j s=>pM lk l (eX.drop j) s.1=ac i/\s.1.length<=inh.length+j) (inh,_) ⟨hinh,aI _⟩ rfl rfl ?_ ?_
  .intro B' P R j d s hd
   have hj:j<4:=kK hd;refine ar (yS (ks:=eX) hd) fun x z2 hx=>?_;subst z2;revert s;refine j3 fun i' key hI W' zz hk' hh' zz hP hR=>?_;refine bp (YV (hx▸hI.1)) fun fv hf2 h1 h2=>?_;walk_at "w";refine aw W'.O (iP g hs (.inl rfl) x fv hf2) (.inr (hh'.trans hh)) (.skip (.take (.take .nil))) (cN (hk'.trans hk) rfl) ?_;walk_at "w";cases hn:fv.isNull with|true=>refine gw (fB fv) (congrArg not hn) ?_;walk_at "w";exact hP (i',_) ⟨h1 hn,ae hI.2 (bn (cD j) _)⟩|false=>refine gw (fB fv) (congrArg not hn) ?_;refine ar (h2 hn) fun vx hlx h3=>?_;walk_at "w";refine cw (K:=aV) (l:=PV.dS l) (x:=vx.d) (.inl rfl) (by rw[gu,hlx];rfl) ?_ (fun zz zz=>rfl);walk_at "w";refine iM (mN x vx i') .head (by rw[jX];have:=hI.2;dsimp only at this;exact Tx hi hj this) ?_;walk_at "w";exact hP (eH i' x vx,_) ⟨h3,ae (lX i' x vx) (b6 hI.2)⟩
  .refine j3 fun i' key hI=>?_
   cases aB hI.1;walk_at "w";refine WP.freeze1 (x:=aa "given") .head rfl (iD rfl) (cH rfl) 0 hm ?_;refine yM W ?_;walk_at "v";refine aw W.O (yW g hs l b hnode) (.inr hh) (.take (.take .nil)) (cN hk rfl) ?_;walk_at "w";refine aw W.O (F5 g _ _ _ _ _ (by intro h;injection h) (by intro h;injection h) (by intro h;injection h) (by intro h;injection h) (by intro h;injection h)) (.inl rfl) .nil (cN hk rfl) ?_;walk_at "w";refine hQ _ _ _ (cS rfl ?_);exact nB (by rw[e];rfl) _ e rfl rfl
end
noncomputable def u6(lk:Lk)(tr:List (aV×PV)):Option (List (aV×PV)):=(cc lk 30 (dC tr (aa "Root"))).map fun v=>match v with|.dict l=>l|_=>[]
noncomputable abbrev nA:=PV×List (Int×Int)×List (aV×PV)
@[reducible] noncomputable def q5(x:nA):DV:=.tup [x.1.d,.tup (iR x.2.1),.sdic (PV.dS x.2.2)]
noncomputable def iN(lk:Lk):Nat->List nA->List bk->List Int->Option (Option (List bk))
 |0,_,_,_=>aq
 |_+1,[],found,_=>ac (ac found)
 |n+1,(v,a,i)::rest,found,seen=>
  if 900<i.length\/900<rest.length\/900<a.length then aq else
  match tX lk v a i with
  |none=>aq
  |some aq=>ac aq
  |some (ac s)=>if s.n∈seen\/(found.isEmpty&&s.page)=ai then aq else
   if s.page then iN lk n rest (found++[s]) (seen++[s.n]) else
   match tm lk s.head with
   |some (ac ks)=>if 900<ks.length then aq else iN lk n (ks.map (fun k=>(k,a++[(s.n,s.k)],s.inh))++rest) (found++[s]) (seen++[s.n])
   |_=>aq
theorem xH(lk){n v a i rest found seen}:iN lk (n+1) ((v,a,i)::rest) found seen=(
  if 900<i.length\/900<rest.length\/900<a.length then aq else
  match tX lk v a i with
  |none=>aq
  |some aq=>ac aq
  |some (ac s)=>if s.n∈seen\/(found.isEmpty&&s.page)=ai then aq else
   if s.page then iN lk n rest (found++[s]) (seen++[s.n]) else
   match tm lk s.head with
   |some (ac ks)=>if 900<ks.length then aq else iN lk n (ks.map (fun k=>(k,a++[(s.n,s.k)],s.inh))++rest) (found++[s]) (seen++[s.n])
   |_=>aq):=rfl
noncomputable def cE(lk:Lk)(tr:List (aV×PV)):Option (Option (List bk)):=(u6 lk tr).bind fun l=>iN lk 100 [(dC l (aa "Pages"),[],[])] [] []
theorem oO:(l:List PV)->PV.dL l=l.map PV.d:=by intro p0_;induction p0_ with|nil=>simp[PV.dL]|cons x r ih=>simp[PV.dL,ih]
theorem QN(l):(PV.dL l).length=l.length:=by rw[oO,af]
theorem Hm{i:Nat}(h:(PV.dL l).reverse[i]?=ac d):∃x,d=x.d/\l.reverse[i]?=ac x:=by rw[oO,<-m5,bj] at h;refine ar (aD.mp h) fun x hx e=>?_;exact bq x e.symm hx
theorem Dk{a:List (Int×Int)}{s:bk}(h:tX lk v a i=ac (ac s)):s.above=a:=by cases Uw h with|noHome _ e=>injection e|noDict _ _ _ _ _ _ e=>injection e|spot _ _ _ _ _ _ _ _ _ e=>(injection e with e;subst e);rfl
theorem Td(h:u6 lk tr=ac l):∃v,cc lk 30 (dC tr (aa "Root"))=ac v/\(dn v.tg=ai->v=.dict l)/\(dn v.tg=ak->l=[]):=by
 refine ar (aD.mp h) fun v hv e=>?_;refine cB v hv (fun hq=>?_) (fun hq=>?_)
 .refine aY (ut hq) fun x z1=>?_
  subst z1;exact congrArg PV.dict e
 .cases v<;>first|exact e.symm|injection hq
structure QZ (lk:Lk) (n:Nat) (v:PV) (a:List (Int×Int)) (i:List (aV×PV)) (rest:List nA) (found:List bk) (seen:List Int) (res:Option (List bk)) (m:Option bk):Prop where
 li:i.length<=900
 lr:rest.length<=900
 la:a.length<=900
 met:tX lk v a i=ac m
 no:m=aq->res=aq
 new:∀s,m=ac s->s.n∉seen/\(found.isEmpty=ai->s.page=ak)
 page:∀s,m=ac s->s.page=ai->iN lk n rest (found++[s]) (seen++[s.n])=ac res
 node:∀s,m=ac s->s.page=ak->∃ks,tm lk s.head=ac (ac ks)/\ks.length<=900/\iN lk n (ks.map (fun k=>(k,a++[(s.n,s.k)],s.inh))++rest) (found++[s]) (seen++[s.n])=ac res
theorem C2{a:List (Int×Int)}{seen:List Int}(h:iN lk (n+1) ((v,a,i)::rest) found seen=ac res):∃m,QZ lk n v a i rest found seen res m:=by
 by_cases hg:900<i.length\/900<rest.length\/900<a.length;.injection (if_pos hg).symm.trans h
 have h:=(if_neg hg).symm.trans h;have hl:i.length<=900/\rest.length<=900/\a.length<=900:=by exact Tw hg
 cases hm:tX lk v a i with|none=>rw[hm] at h;injection h|some m=>
  rw[hm] at h;cases m with|none=>exact⟨aq,hl.1,hl.2.1,hl.2.2,hm,fun zz=>(aB h).symm,fun zz h=>by(injection h),fun zz h=>by(injection h),fun zz h=>by(injection h)⟩|some s=>
   dsimp only at h;by_cases hc:s.n∈seen\/(found.isEmpty&&s.page)=ai;.injection (if_pos hc).symm.trans h
   have h:=(if_neg hc).symm.trans h;refine⟨ac s,hl.1,hl.2.1,hl.2.2,hm,fun h=>by(injection h),fun x e=>?_,fun x e hp=>?_,fun x e hp=>?_⟩<;>cases aB e
   .refine⟨fun z=>hc (.inl z),fun z=>?_⟩
    cases hp:s.page with|false=>rfl|true=>exact absurd (.inr (by rw[z,hp];rfl)) hc
   .exact(if_pos hp).symm.trans h
   .have h:=(if_neg (by rw[hp];decide)).symm.trans h
    cases hk:tm lk s.head with|none=>rw[hk] at h;injection h|some kd=>
     rw[hk] at h;cases kd with|none=>injection h|some ks=>
      by_cases hl:900<ks.length;.injection (if_pos hl).symm.trans h
      .exact cB ks rfl (b7 hl) ((if_neg hl).symm.trans h)
noncomputable abbrev Fu:=List nA×List bk×List Int×DV×DV×DV×DV×DV
noncomputable def NG(t r fa sa la:aW):Fu->aP|(_,_,_,a1,a2,a3,a4,a5)=>[(aa "shelf",bg t r),(aa "found",.ptr fa),(aa "seen",.ptr sa),(aa "line",.ptr la),(aa "value",a1),(aa "above",a2),(aa "inherited",a3),(aa "spot",a4),(aa "kid",a5)]
noncomputable def IB(t r fa sa la:aW)(tab:dE)(tr:List (aV×PV)):Fu->Mu|(stk,found,seen,_,_,_,_,_)=>(la,.lst (stk.reverse.map q5))::(sa,.idic (kE seen))::(fa,.lst (found.map bk.d))::bz t r tab tr
noncomputable def YS(t r fa sa la:aW)(v:PV)(ab:List (Int×Int))(ih:List (aV×PV))(sp:bk):Nat×DV->aP|(_,a5)=>[(aa "shelf",bg t r),(aa "found",.ptr fa),(aa "seen",.ptr sa),(aa "line",.ptr la),(aa "value",v.d),(aa "above",.tup (iR ab)),(aa "inherited",.sdic (PV.dS ih)),(aa "spot",sp.d),(aa "kid",a5)]
noncomputable def q7(ab:List (Int×Int))(sp:bk)(ks:List PV):List nA:=ks.map fun k=>(k,ab++[(sp.n,sp.k)],sp.inh)
noncomputable def Ql(t r fa sa la:aW)(tab:dE)(tr:List (aV×PV))(ks:List PV)(ab:List (Int×Int))(sp:bk)(rest:List nA)(found:List bk)(seen:List Int):Nat×DV->Mu|(i,_)=>(la,.lst (kR q5 (rest.reverse++q7 ab sp (ks.reverse.take i))))::(sa,.idic (kE seen))::(fa,.lst (found.map bk.d))::bz t r tab tr
theorem Jc{rest:List nA}{ks:List PV}{x:PV}(hx:ks.reverse[i]?=ac x):kR q5 (rest.reverse++q7 ab sp (ks.reverse.take i))++[.tup [x.d,.tup (iR ab++[ij sp.n sp.k]),.sdic (PV.dS sp.inh)]]=kR q5 (rest.reverse++q7 ab sp (ks.reverse.take (i+1))):=by rw[ci,hx,ct,q7,q7,aA (f:=fun k=>((k,ab++[(sp.n,sp.k)],sp.inh):nA)),<-gq,aA (f:=q5)];simp only[au,bI,q5,iR,aA]
theorem L9{seen:List Int}:Ql t r fa sa la tab tr ks ab sp rest found seen ((PV.dL ks).reverse.length,a5)=IB t r fa sa la tab tr (q7 ab sp ks++rest,found,seen,a1,a2,a3,a4,a5):=by rw[eA,QN];show(la,MO.lst (kR q5 (rest.reverse++q7 ab sp (ks.reverse.take ks.length))))::_=(la,MO.lst (kR q5 (q7 ab sp ks++rest).reverse))::_;rw[bt (by simp),List.reverse_append,q7,q7,m5]
def S8(lk:Lk)(res:Option (List bk))(n:Nat):Fu->Prop|(stk,found,seen,_,_,_,_,_)=>iN lk n stk found seen=ac res/\seen.length+n<=100/\found.length+n<=100/\stk.length<=2000
def SZ(res:Option (List bk)):Fu->Prop|(_,found,_,_,_,_,_,_)=>res=ac found
section
variable (g : dK G) {t r : aW} {lk : Lk}
include g
theorem lT(hs:d4 lk tab)(l)(hr:u6 lk tr=ac l):ir G 3 (.ref 360) [bg t r] (bz t r tab tr) (fun d Z'=>d=.sdic (PV.dS l)/\Z'=bz t r tab tr):=by refine ey (ps:=[aa "self"]) (rest:=[aa "found"]) g rfl rfl rfl rfl rfl rfl (gA fun zz=>rfl) rfl (.cons (cT g) (.cons (jC g) .nil)) (by kernel_rfl) fun B Q W hk hh zz hQ=>?_;refine bp (Td hr) fun v hv h1 h2=>?_;walk_at "w";refine aw W.O (iP g hs (.inr (bq r rfl (.tail _ (.head _)))) (aa "Root") v hv) (.inr hh) (.take (.take .nil)) (cN hk rfl) ?_;walk_at "w";cases hq:dn v.tg with|true=>refine um W (PV.tgd _) hq ?_;walk_at "w";exact hQ _ _ _ (cS rfl ⟨by rw[h1 hq];simp only[PV.d],rfl⟩)|false=>refine um W (PV.tgd _) hq ?_;walk_at "w";refine jr (K:=aV) W.O ?_;walk_at "w";exact hQ _ _ _ (cS rfl ⟨by rw[h2 hq];rfl,rfl⟩)
theorem qk(hs:d4 lk tab)(res)(hr:cE lk tr=ac res):mq G 5 (.ref 455) [bg t r] (bz t r tab tr) res (fun k=>.lst (k.map bk.d)):=by
 refine ar (cC.mp hr) ?_;clear hr;intro rl hrl hr;refine ke (ps:=[aa "shelf"]) (rest:=[aa "found",aa "seen",aa "line",aa "value",aa "above",aa "inherited",aa "spot",aa "kid"]) g rfl rfl rfl rfl rfl rfl (gA fun zz=>rfl) rfl (.cons (DC g) (.cons (dW g) (.cons (BQ g) (.cons (DE g) .nil)))) (by kernel_rfl) fun B E Q W w hk hh hm hE hQ=>?_;walk_at "w";refine pB W.O (ie W ?_);walk_at "w";refine⟨by decide,fun fa=>?_⟩;walk_at "w";refine oK (K:=Int) W.O fun sa=>?_;walk_at "w";refine pB W.O (ie W ?_);walk_at "w";refine aw W.O (lT g hs rl hrl) (.inr hh) (.skip (.skip (.take (.take .nil)))) (cN hk rfl) ?_;walk_at "w";refine iU (K:=aV) W (.inl rfl) ?_;walk_at "w";refine oN (K:=aV) (.inl rfl) (rh rl _) ?_;walk_at "w";refine jr (K:=aV) W.O ?_;walk_at "w";refine⟨aj rfl,fun la=>?_⟩;walk_at "w";refine Ie (ρf:=NG t r fa sa la) (Zf:=IB t r fa sa la tab tr) (Yj:=NG t r fa sa la) (Zj:=IB t r fa sa la tab tr) W w hE (S8 lk res) (SZ res) 100 (_,[],[],_,_,_,_,_) (oX hr (aI _) (aI _) (aj rfl)) ?_ ?_
 .refine fun P R E' n=>NH fun stk found seen a1 a2 a3 a4 a5 hI hP hJ hR hE'=>?_
  refine jW hI ?_;clear hI;intro hf b1 b2 b3;walk_at "w";refine Ik (.inr (bq la rfl (.head _))) (by rw[af,eA];exact ae b3 (by decide)) rfl ?_;cases n with|zero=>injection hf|succ n=>
  cases stk with|nil=>walk_at "w";exact hJ ([],found,seen,_,_,_,_,_) (aB hf).symm|cons x rest=>
   obtain⟨v,ab,ih⟩:=x;refine aY (C2 hf) fun m S=>?_;refine oS (by simp) ?_;walk_at "w";refine wb ?_ rfl rfl;walk_at "w";refine LW W (.inr (bq la rfl (.head _))) ?_;walk_at "w";refine Hv (l:=rest.reverse.map q5) (x:=.tup [v.d,.tup (iR ab),.sdic (PV.dS ih)]) (by simp) .head (by rw[af,eA];exact ae S.lr (by decide)) ?_;walk_at "w";refine Ng W.O hh (cH rfl) (cH rfl) (cH rfl) ?_;walk_at "v";refine jz W w hm (uR g hs v ab ih S.li m S.met) hh (.skip (.skip (.skip (.take (.take .nil))))) (cN hk rfl) (fun p hp=>.tail _ (.tail _ (.tail _ hp))) (fun h e s x=>hE' e s ⟨(by rw[S.no h];intro h;injection h),x⟩) fun sp hsp=>?_;refine aZ (S.new sp hsp) fun n1 n2=>?_;walk_at "w";refine qr (K:=Int) (l:=kE seen) (b:=ak) (.inr (bq sa rfl (.tail _ (.head _)))) ((zA _ _).trans (decide_eq_false n1)) ?_;walk_at "w";refine eL W.O (ie W ?_);walk_at "w";refine⟨by decide,?_⟩;walk_at "w";refine De W (b:=found.isEmpty) (.inr (bq fa rfl (.tail _ (.tail _ (.head _))))) (by cases found<;>rfl) ?_;walk_at "w";refine M9 ?_ fun hfe hR=>?_;rotate_left
   .walk_at "w"
    exact iY (n2 hfe) hR
   walk_at "w";refine pb (Bh _ _ n1) (.tail .head) (by unfold kE;rw[af];exact NM b1) ?_;walk_at "w";refine qZ W (.inr (bq fa rfl (.tail _ (.tail _ (.head _))))) ?_;walk_at "w";refine ml (l':=(found++[sp]).map bk.d) (by rw[aA];rfl) (.tail (.tail .head)) (by rw[af];exact NM b2) ?_;walk_at "w";cases hpage:sp.page with|true=>walk_at "w";exact hP n (rest,found++[sp],seen++[sp.n],_,_,_,_,_) (c8 n) (oX (S.page sp hsp hpage) (by rw[aS,bQ];exact ED b1) (by rw[aS,bQ];exact ED b2) (ae S.lr (by decide)))|false=>
    refine bp (S.node sp hsp hpage) fun ks hkd hkl hf2=>?_;walk_at "w";refine aw W.O ((yV g hs sp.head _ hkd).sure rfl) (.inr hh) (.skip (.skip (.skip (.take (.take .nil))))) (cN hk rfl) ?_;walk_at "w";refine xt W.O fun ra=>?_;walk_at "w";refine m8 (ρf:=YS t r fa sa la v ab ih sp) (Zf:=Ql t r fa sa la tab tr ks ab sp rest (found++[sp]) (seen++[sp.n])) W (Je W.O hh) (fun i s=>s.1=i) (0,_) rfl rfl (by simp[Ql,q7]) ?_ ?_
    .intro B' P' R' i d s hd
     refine ar (Hm hd) fun x z2 hx=>?_;subst z2;revert s;refine j3 fun i' a5 e W' zz hk' hh' zz hP' hR'=>?_;subst e;walk_at "w";refine qZ W' (.inr (bq la rfl (.head _))) ?_;walk_at "w";refine qs W'.O (by rw[iR,af];have:=S.la;exact ae (b6 this) (by decide)) ?_;walk_at "w";refine ml (Jc hx) .head (by rw[af,aS,eA,q7,af,List.length_take];exact Tv hkl S.lr eA) ?_;walk_at "w";exact hP' (i'+1,_) rfl
    .refine j3 fun i a5 e=>?_
     subst e;walk_at "w";rw[L9];exact hP n (q7 ab sp ks++rest,found++[sp],seen++[sp.n],_,_,_,_,_) (c8 n) (oX hf2 (by rw[aS,bQ];exact ED b1) (by rw[aS,bQ];exact ED b2) (by rw[aS,q7,af];have:=S.lr;exact Tu hkl this))
 .refine NH fun stk found seen a1 a2 a3 a4 a5 hI=>?_
  walk_at "w";refine hQ _ _ _ (U3 rfl rfl ?_);exact nB (by rw[show res=_ from hI];rfl) _ hI rfl rfl
end
noncomputable def jI(lk:Lk)(s:bk):Bool:=decide (s.head.length<=900)&&eX.all fun k=>(cc lk 30 (dC s.head k)).isSome
noncomputable def eI(lk:Lk)(s:bk):List aV->List (aV×PV)->List (aV×PV)|[],i=>i|k::r,i=>match fM s.inh k with|none=>eI lk s r i|some v=>if((cc lk 30 (dC s.head k)).getD .null).isNull then eI lk s r (eH i k v) else eI lk s r i
noncomputable def Ae(lk:Lk)(s:bk):List (aV×PV):=eI lk s eX s.head
theorem Mw{s:bk}(h:jI lk s=ai):s.head.length<=900/\∀x∈eX,∃fv,cc lk 30 (dC s.head x)=ac fv:=by unfold jI at h;rw[aO,decide_eq_true_eq] at h;exact⟨h.1,fun x hx=>cu.mp (aU.mp h.2 x hx)⟩
theorem goV{s:bk}{r:List aV}{i:List (aV×PV)}(h:cc lk 30 (dC s.head x)=ac fv):(fM s.inh x=aq->eI lk s (x::r) i=eI lk s r i)/\∀vx,fM s.inh x=ac vx->(fv.isNull=ak->eI lk s (x::r) i=eI lk s r i)/\(fv.isNull=ai->eI lk s (x::r) i=eI lk s r (eH i x vx)):=by
 have e:eI lk s (x::r) i=match fM s.inh x with|none=>eI lk s r i|some v=>if((cc lk 30 (dC s.head x)).getD .null).isNull then eI lk s r (eH i x v) else eI lk s r i:=rfl
 rw[h,eE] at e;refine⟨fun hx=>?_,fun vx hx=>?_⟩<;>rw[hx] at e;.exact e
 .exact⟨fun hn=>e.trans (if_neg (by rw[hn];decide)),fun hn=>e.trans (if_pos hn)⟩
noncomputable def Y9(t r a:aW)(sp:bk):List (aV×PV)×DV->aP|(_,key)=>[(aa "shelf",bg t r),(aa "spot",sp.d),(aa "found",.ptr a),(aa "key",key)]
section
variable (g : dK G) {t r : aW} {lk : Lk}
include g
theorem uS(hs:d4 lk tab)(sp)(hok:jI lk sp=ai):ir G 3 (.ref 462) [bg t r,sp.d] (bz t r tab tr) (fun d Z'=>d=.sdic (PV.dS (Ae lk sp))/\Z'=bz t r tab tr):=by
 refine aZ (Mw hok) ?_;clear hok;intro hlen hok;refine ey (ps:=[aa "shelf",aa "spot"]) (rest:=[aa "found",aa "key"]) g rfl rfl rfl rfl rfl rfl (jL fun zz zz=>rfl) rfl (.cons (jC g) (.cons (rq g) .nil)) (by kernel_rfl) fun B Q W hk hh hm hQ=>?_;walk_at "w";refine lF (K:=aV) W.O (.inl rfl) (by rw[jX];exact ae hlen (by decide)) fun a=>?_;walk_at "w";refine m8 (ρf:=Y9 t r a sp) (Zf:=Ux t r tab tr a) W (qw W.O hh) (fun j s=>eI lk sp (eX.drop j) s.1=Ae lk sp/\s.1.length<=sp.head.length+j) (sp.head,_) ⟨rfl,aI _⟩ rfl rfl ?_ ?_
 .intro B' P R j d s hd
  have hj:j<4:=kK hd;refine ar (yS (ks:=eX) hd) fun x z1 hx=>?_;subst z1;refine aY (hok x (El (hx▸bo))) fun fv hfv=>?_;revert s;refine j3 fun i key hI W' zz hk' hh' zz hP hR=>?_;refine aZ (goV (r:=eX.drop (j+1)) (i:=i) hfv) fun h1 h2=>?_;have hgo:=hx▸hI.1;have hl:i.length<=sp.head.length+(j+1):=ae hI.2 (bn (cD j) _);walk_at "w";cases hlx:fM sp.inh x with|none=>refine qr (K:=aV) (l:=PV.dS sp.inh) (b:=ak) (.inl rfl) (by rw[gu,hlx];rfl) ?_;walk_at "w";exact hP (i,_) ⟨(h1 hlx).symm.trans hgo,hl⟩|some vx=>refine qr (K:=aV) (l:=PV.dS sp.inh) (b:=ai) (.inl rfl) (by rw[gu,hlx];rfl) ?_;refine aZ (h2 vx hlx) fun h3 h4=>?_;walk_at "w";refine aw W'.O (iP g hs (.inl rfl) x fv hfv) (.inr (hh'.trans hh)) (.skip (.take (.take .nil))) (cN (hk'.trans hk) rfl) ?_;walk_at "w";refine gZ (fB fv) ?_;cases hn:fv.isNull with|false=>walk_at "w";exact hP (i,_) ⟨(h3 hn).symm.trans hgo,hl⟩|true=>walk_at "w";refine cw (K:=aV) (l:=PV.dS sp.inh) (x:=vx.d) (.inl rfl) (by rw[gu,hlx];rfl) ?_ (fun zz zz=>rfl);walk_at "w";refine iM (mN x vx i) .head (by rw[jX];exact Tt hlen hj hl) ?_;walk_at "w";exact hP (eH i x vx,_) ⟨(h4 hn).symm.trans hgo,ae (lX i x vx) (b6 hI.2)⟩
 .refine j3 fun i key hI=>?_
  walk_at "w";exact hQ _ _ _ (B8 rfl rfl ⟨by rw[show i=_ from hI.1],rfl⟩)
end
theorem qj:∀(n:Nat)stk found seen k,iN lk n stk found seen=ac (ac k)->k.length<=found.length+n
 |0,_,_,_,_,h=>by injection h
 |n+1,[],found,_,k,h=>by(injection h with h;injection h with h;subst h);exact cg _ _
 |n+1,(v,a,i)::rest,found,seen,k,h=>by refine aY (C2 h) fun m S=>?_;cases m with|none=>cases S.no rfl|some s=>cases hp:s.page with|true=>have:=qj n _ _ _ _ (S.page s rfl hp);rw[aS,bQ] at this;exact NL this|false=>refine bp (S.node s rfl hp) fun ks zz zz h=>?_;have:=qj n _ _ _ _ h;rw[aS,bQ] at this;exact NL this
theorem fj(h:cE lk tr=ac (ac k)):k.length<=100:=by refine ar (cC.mp h) ?_;clear h;intro rl zz h;simpa using qj 100 _ _ _ _ h
theorem dJ{l:List α}{i:Nat}(h:(l.map f)[i]?=ac d):∃x,d=f x/\l[i]?=ac x:=by rw[bj] at h;refine ar (aD.mp h) fun x hx e=>?_;exact bq x e.symm hx
theorem yj{k:List bk}{x:bk}(hx:k[i]?=ac x):((k.take (i+1)).filter (·.page)).map bk.d=((k.take i).filter (·.page)).map bk.d++(if x.page then[x.d] else[]):=by rw[ci,hx,ct,rN,aA];cases hp:x.page<;>simp[hp]
theorem nZ{k:List α}:k.take (k.map f).length=k:=bt (by rw[af];exact aI _)
section
variable (g : dK G) {t r : aW} {lk : Lk}
include g
theorem ng(hs:d4 lk tab)(res)(hr:cE lk tr=ac res):mq G 6 (.ref 467) [bg t r] (bz t r tab tr) res (fun k=>.lst ((k.filter (·.page)).map bk.d)):=by
 refine ke (ps:=[aa "shelf"]) (rest:=[]) g rfl rfl rfl rfl rfl rfl (gA fun zz=>rfl) rfl (.cons (vQ g) .nil) (by kernel_rfl) fun B E Q W w hk hh hm hE hQ=>?_;walk_at "w";refine ig (cl:=[]) W ⟨rfl,by decide +kernel,rfl,by decide +kernel⟩ rfl rfl ?_;walk_at "w";refine jz W w hm (qk g hs res hr) hh (.take (.take .nil)) (cN hk rfl) (fun p hp=>hp) (fun h e s x=>hE e s ⟨(by rw[h];intro h;injection h),.fly x⟩) fun k e=>?_;subst e;walk_at "w";refine yN W .nil (by kernel_rfl) (cA W.O) (by rw[af];exact ae (fj hr) (by decide)) (fun i out Z=>out=((k.take i).filter (·.page)).map bk.d/\Z=bz t r tab tr) ⟨rfl,rfl⟩ ?_ ?_
 .intro B' P i d out Z2 hd hI W' zz hk' hh' zz hP
  refine aZ hI ?_;clear hI;intro e1 e2;subst e1;subst e2;refine ar (dJ hd) fun x z1 hx=>?_;subst z1;walk_at "w";cases hp:x.page with|true=>walk_at "w";exact hP _ _ ⟨by rw[yj hx,hp];rfl,rfl⟩|false=>walk_at "w";exact hP _ _ ⟨by rw[yj hx,hp];exact(bR _).symm,rfl⟩
 .intro out Z hI
  refine aZ hI ?_;clear hI;intro e1 e2;subst e1;subst e2;walk_at "w";exact hQ _ _ _ (cS rfl (nB rfl k rfl (by rw[nZ]) rfl))
end
@[reducible] noncomputable def NK(lk:Lk)(s:bk):DV:=IT (ij s.n s.k) (.sdic (PV.dS (Ae lk s)))
theorem iV{k:List α}{f:α->DV}{x:α}(hx:k[i]?=ac x):(k.take i).map f++[f x]=(k.take (i+1)).map f:=by rw[ci,hx,ct,aA];rfl
section
variable (g : dK G) {t r : aW} {lk : Lk}
include g
theorem ql(hs:d4 lk tab)(res)(hr:cE lk tr=ac res)(hf:∀k,res=ac k->∀s∈k,s.page=ai->jI lk s=ai):mq G 7 (.ref 472) [bg t r] (bz t r tab tr) res (fun k=>.lst ((k.filter (·.page)).map (NK lk))):=by
 refine JU (Y0:=[]) (Yc:=[bg t r]) (ps:=[aa "shelf"]) (Z1:=fun L=>(L+1,.cell (bg t r))::bz t r tab tr) g rfl rfl rfl rfl rfl (gA fun zz=>rfl) (.cons (p6 g) .nil) (.inr (by kernel_rfl)) (by decide +kernel) ⟨rfl,fun n x hx=>(by cases ap.mp hx;exact .inr ⟨rfl,rfl⟩),fun p hp=>(by cases hp),fun n p hp=>(by cases ap.mp hp;exact(jR rfl rfl (fun zz=>bo))),by decide⟩ (fun zz=>rfl) fun B E Q W w hk hh hm henv hE hQ=>?_;have hcs:df B.env (aa "shelf") (B.L+1):=by rw[henv];exact⟨rfl,rfl⟩
 walk_at "w";refine ig (cl:=[(aa "shelf",B.L+1)]) W ⟨by rw[henv];rfl,by decide +kernel,rfl,by decide +kernel⟩ rfl rfl ?_;walk_at "w";refine Ag W.O hcs (.head _) (by intro h;injection h) (by decide +kernel) ?_;walk_at "w";refine jz W w hm (ng g hs res hr) hh (.skip (.take (.take .nil))) (cN hk rfl) (fun p hp=>.tail _ hp) (fun h e s x=>hE e s ⟨(by rw[h];intro h;injection h),.fly x⟩) fun k e=>?_;subst e;walk_at "w";refine ft W (.cons (Mr g) (.cons (zU g) .nil)) (by kernel_rfl) (cA W.O) (by rw[af];exact ae (dT _ _) (ae (fj hr) (by decide))) (fun i out Z=>out=((k.filter (·.page)).take i).map (NK lk)/\Z=(B.L+1,.cell (bg t r))::bz t r tab tr) ⟨rfl,rfl⟩ ?_ ?_
 .intro B' P i d out Z2 hd hI W' hec hk' hh' zz hP
  refine aZ hI ?_;clear hI;intro e1 e2;subst e1;subst e2;refine ar (dJ hd) fun x z1 hx=>?_;subst z1;have hcc:df B'.env (aa "shelf") (B.L+1):=by rw[hec,henv];exact⟨rfl,rfl⟩
  clear hec henv;refine aZ (iG.mp (cF hx)) fun hx1 hx2=>?_;walk_at "w";refine Ag W'.O hcc (.head _) (by intro h;injection h) (by decide +kernel) ?_;walk_at "w";refine aw W'.O (uS g hs x (hf k rfl x hx1 hx2)) (.inr (hh'.trans hh)) (.skip (.take (.take .nil))) (cN (hk'.trans hk) rfl) ?_;walk_at "w";refine aw W'.O (F6 g _ _ (by intro h;injection h) (by intro h;injection h)) (.inl rfl) .nil (cN (hk'.trans hk) rfl) ?_;walk_at "w";exact hP _ _ ⟨iV hx,rfl⟩
 .intro out Z hI
  refine aZ hI ?_;clear hI;intro e1 e2;subst e1;subst e2;walk_at "w";exact hQ _ _ _ (kM rfl (nB rfl k rfl (by rw[nZ]) rfl))
end
noncomputable def fU:PV->Bool|.int i=>decide (0<=i)|_=>ak
theorem Qn{v:PV}(h:gt v.tg=ai)(h2:eQ v.tg=ak):∃i,v=.int i:=by cases v<;>first|((first|(injection h;done)|cases h);done)|(cases h2;done)|exact⟨_,rfl⟩
theorem EI(h:gt v.tg=ak\/eQ v.tg=ai):fU v=ak:=by cases v<;>first|rfl|(rcases h with h|h<;>injection h)
section
variable (g : dK G)
include g
theorem pU(v):ir G 1 (.ref 486) [v.d] [] (fun d Z'=>d=.bool (fU v)/\Z'=[]):=by refine ey (ps:=[aa "value"]) (rest:=[]) g rfl rfl rfl rfl rfl rfl (gA fun zz=>rfl) rfl (.cons (cT g) (.cons (vR g) (.cons (un g) .nil))) (by kernel_rfl) fun B Q W hk hh hm hQ=>?_;walk_at "w";cases hq:gt v.tg with|false=>refine Dt W (PV.tgd _) hq ?_;walk_at "w";exact hQ _ _ _ (cS rfl ⟨by rw[EI (.inl hq)],rfl⟩)|true=>refine Dt W (PV.tgd _) hq ?_;walk_at "w";cases hb:eQ v.tg with|true=>refine zL W (PV.tgd _) hb ?_;walk_at "w";exact hQ _ _ _ (cS rfl ⟨by rw[EI (.inr hb)];rfl,rfl⟩)|false=>refine zL W (PV.tgd _) hb ?_;refine aY (Qn hq hb) fun i z1=>?_;subst z1;walk_at "w";exact hQ _ _ _ (cS rfl ⟨rfl,rfl⟩)
end
noncomputable def l4(lk:Lk)(tr:List (aV×PV)):Option (Option bk):=(u6 lk tr).bind fun l=>tX lk (dC l (aa "Pages")) [] []
noncomputable def fe(lk:Lk)(tr:List (aV×PV)):Option (Option Int):=match l4 lk tr with|none=>aq|some aq=>ac aq|some (ac s)=>(cc lk 30 (dC s.head (aa "Count"))).map fun v=>match v with|.int i=>if 0<=i then ac i else aq|_=>aq
theorem Db(h:fe lk tr=ac res):∃rl mr,u6 lk tr=ac rl/\tX lk (dC rl (aa "Pages")) [] []=ac mr/\(mr=aq->res=aq)/\∀s,mr=ac s->∃v,cc lk 30 (dC s.head (aa "Count"))=ac v/\(fU v=ai->∃i,v=.int i/\res=ac i)/\(fU v=ak->res=aq):=by
 unfold fe at h;cases hm:l4 lk tr with|none=>rw[hm] at h;injection h|some mr=>
  refine ar (cC.mp hm) fun rl hrl hmet=>?_;rw[hm] at h;refine(du rl mr hrl hmet (fun e=>?_) (fun s e=>?_))<;>subst e;.exact(aB h).symm
  .refine ar (aD.mp h) fun v hv e=>?_
   refine bq v hv ?_;cases v with|int i=>exact⟨fun hc=>(bq i rfl (e.symm.trans (if_pos (of_decide_eq_true hc)))),fun hc=>e.symm.trans (if_neg (of_decide_eq_false hc))⟩|_=>exact⟨fun hc=>(nomatch hc),fun zz=>e.symm⟩
section
variable (g : dK G) {t r : aW} {lk : Lk}
include g
theorem g7(hs:d4 lk tab)(res)(hr:fe lk tr=ac res):mq G 5 (.ref 479) [bg t r] (bz t r tab tr) res DV.int:=by
 refine ke (ps:=[aa "shelf"]) (rest:=[aa "count"]) g rfl rfl rfl rfl rfl rfl (gA fun zz=>rfl) rfl (.cons (DC g) (.cons (tw g) (.cons (dW g) .nil))) (by kernel_rfl) fun B E Q W w hk hh hm hE hQ=>?_;refine bB (Db hr) fun rl mr hrl hmet h1 h2=>?_;walk_at "w";refine aw W.O (lT g hs rl hrl) (.inr hh) (.take (.take .nil)) (cN hk rfl) ?_;walk_at "w";refine iU (K:=aV) W (.inl rfl) ?_;walk_at "w";refine oN (K:=aV) (.inl rfl) (rh rl _) ?_;walk_at "w";refine jr (K:=aV) W.O ?_;walk_at "w";refine jz W w hm (uR g hs _ [] [] (a7 _) mr hmet) hh (.take (.take .nil)) (cN hk rfl) (fun p hp=>hp) (fun h e s x=>hE e s ⟨(by rw[h1 h];intro h;injection h),.fly x⟩) fun sp hsp=>?_;refine bp (h2 sp hsp) fun v hv h3 h4=>?_;walk_at "w";refine aw W.O (iP g hs (.inl rfl) (aa "Count") v hv) (.inr hh) (.take (.take .nil)) (cN hk rfl) ?_;walk_at "w";refine aw W.O (pU g v) (.inr hh) .nil (cN hk rfl) ?_;cases hc:fU v with
 |true=>walk_at "w";refine ar (h3 hc) fun i e1 e2=>?_;exact hQ _ _ _ (cS rfl (nB (by rw[e2];rfl) i e2 (by rw[e1];simp only[PV.d]) rfl))
 |false=>walk_at "w";exact uh W hE hh rfl (by rw[h4 hc];intro h;injection h) (cN hk rfl) fun p hp=>hp
theorem yU(hs:d4 lk tab)(i)(hr:l4 lk tr=ac aq):jf G 5 (.ref 493) [bg t r,.int i] (bz t r tab tr) (fun zz zz=>True) False:=by refine ar (cC.mp hr) fun rl hrl hmet=>?_;refine ke (ps:=[aa "shelf",aa "at"]) (rest:=[aa "spot",aa "left"]) g rfl rfl rfl rfl rfl rfl (jL fun zz zz=>rfl) rfl (.cons (DC g) .nil) (by kernel_rfl) fun B E Q W w hk hh hm hE hQ=>?_;walk_at "w";refine aw W.O (lT g hs rl hrl) (.inr hh) (.take (.take .nil)) (cN hk rfl) ?_;walk_at "w";refine iU (K:=aV) W (.inl rfl) ?_;walk_at "w";refine oN (K:=aV) (.inl rfl) (rh rl _) ?_;walk_at "w";refine jr (K:=aV) W.O ?_;walk_at "w";exact jz W w hm (uR g hs _ [] [] (a7 _) aq hmet) hh (.take (.take .nil)) (cN hk rfl) (fun p hp=>hp) (fun h e s x=>hE e s ⟨id,.fly x⟩) fun sp hsp=>by injection hsp
end
noncomputable abbrev wP:=List (Int×Int)
noncomputable def pN(l:wP)(k:Int):Option Int:=(l.find? fun kv=>kv.1=k).map (·.2)
noncomputable def sm(l:wP)(k v:Int):wP:=if l.any (fun kv=>kv.1=k) then l.map (fun kv=>if kv.1=k then(kv.1,v) else kv) else l++[(k,v)]
noncomputable def rD(l:wP):List (Int×DV):=l.map fun p=>(p.1,.int p.2)
theorem zC(k):∀l,kr (rD l) k=(pN l k).map DV.int:=by
 intro p0_;induction p0_ with|nil=>exact rfl|cons p_ r ih=>
  rcases p_ with⟨n,v⟩
  have ih:=ih;unfold rD kr pN at *;rw[au,bh,bh];by_cases h:n=k;.simp[h]
  .simp only[h,decide_false];exact ih
theorem zk(k v l):jp (rD l) k (.int v)=rD (sm l k v):=by
 unfold jp sm rD;rw[fk];have e:(l.any ((fun kv:Int×DV=>decide (kv.1=k))∘fun p=>(p.1,DV.int p.2)))=l.any fun kv=>kv.1=k:=rfl;rw[e];split
 .rw[bS,bS]
  refine bM fun p zz=>?_;simp only[ej];split<;>rfl
 .rw[aA];rfl
theorem IR(l k v):(sm l k v).length<=l.length+1:=by
 unfold sm;split;.rw[af];exact cD _
 .rw[aS];exact aI _
theorem Bi{k v w:Int}(h:pN l k=ac w):(sm l k v).length=l.length:=by
 unfold sm;have:(l.any fun kv=>kv.1=k)=ai:=by unfold pN at h;refine ar (aD.mp h) fun p hp zz=>?_;rw[dw];exact bq p (yJ hp) (by simpa using K8 hp)
 rw[if_pos this,af]
theorem wt(l):(rD l).length=l.length:=af ..
noncomputable def An:List bk->wP->wP|[],c=>c|s::r,c=>An r (sm c s.n (if s.page then 1 else 0))
theorem Fh{s r c}:An (s::r) c=(An r (sm c s.n (if s.page then 1 else 0))):=rfl
noncomputable def Ce:List (Int×Int)->wP->Option wP|[],c=>ac c|a::r,c=>match pN c a.1 with|none=>aq|some v=>Ce r (sm c a.1 (v+1))
noncomputable def ub:List bk->wP->Option wP|[],c=>ac c|s::r,c=>if s.page then(Ce s.above c).bind fun c'=>ub r c' else ub r c
theorem Fg{s r c}:ub (s::r) c=(if s.page then(Ce s.above c).bind fun c'=>ub r c' else ub r c):=rfl
noncomputable def fT(k:List bk):Option wP:=ub k (An k [])
theorem mX{l:List α}{x:α}(h:l[i]?=ac x):l.drop i=x::l.drop (i+1):=by obtain⟨hi,rfl⟩:=cq.mp h;exact yK hi
theorem U9{s:bk}(h:ub (s::r) c=ac res):(s.page=ak->ub r c=ac res)/\(s.page=ai->∃c',Ce s.above c=ac c'/\ub r c'=ac res):=⟨fun e=>(if_neg (by rw[e];decide)).symm.trans h,fun e=>cC.mp ((if_pos e).symm.trans h)⟩
theorem U8{a:Int×Int}(h:Ce (a::r) c=ac res):∃v,pN c a.1=ac v/\Ce r (sm c a.1 (v+1))=ac res:=by have h:(match pN c a.1 with|none=>aq|some v=>Ce r (sm c a.1 (v+1)))=ac res:=h;cases e:pN c a.1 with|none=>rw[e] at h;injection h|some v=>rw[e] at h;exact bq v rfl h
noncomputable def M0(k:List bk)(a:aW):wP×DV×DV->aP|(_,x1,x2)=>[(aa "found",.lst (k.map bk.d)),(aa "counts",.ptr a),(aa "spot",x1),(aa "node",x2)]
noncomputable def M1(a:aW):wP×DV×DV->Mu|(c,_,_)=>[(a,.idic (rD c))]
section
variable (g : dK G)
include g
theorem oh(k)(hk9:k.length<=900)(res)(hr:fT k=ac res):ir G 1 (.ref 512) [.lst (k.map bk.d)] [] (fun d Z'=>d=.idic (rD res)/\Z'=[]):=by
 refine ey (ps:=[aa "found"]) (rest:=[aa "counts",aa "spot",aa "node"]) g rfl rfl rfl rfl rfl rfl (gA fun zz=>rfl) rfl .nil (by kernel_rfl) fun B Q W hk hh hm hQ=>?_;walk_at "w";refine oK (K:=Int) W.O fun a=>?_;walk_at "w";refine m8 (ρf:=M0 k a) (Zf:=M1 a) W (cA W.O) (fun i s=>An (k.drop i) s.1=An k []/\s.1.length<=i/\i<=k.length) ([],_,_) (jR rfl (a7 _) (a7 _)) rfl rfl ?_ ?_
 .intro B' P R i d s hd
  refine ar (dJ hd) fun x z1 hx=>?_;subst z1;revert s;refine tf fun c x1 x2 hI W' zz hk' hh' zz hP hR=>?_;have hI1:=mX hx▸hI.1;have hl:c.length<=1000000:=ae hI.2.1 (ae hI.2.2 (ae hk9 (by decide)));have go:∀v:Int,(if x.page then 1 else 0)=v->P (M0 k a (sm c x.n v,x.d,x2)) (M1 a (sm c x.n v,x.d,x2)):=fun v e=>hP _ (jR (by subst e;exact hI1) (ae (IR _ _ _) (b6 hI.2.1)) (kK hx));walk_at "w";cases hp:x.page with|true=>walk_at "w";refine pb (zk _ _ _) .head (by rw[wt];exact hl) ?_;walk_at "w";exact go 1 (if_pos hp)|false=>walk_at "w";refine pb (zk _ _ _) .head (by rw[wt];exact hl) ?_;walk_at "w";exact go 0 (if_neg (by rw[hp];decide))
 .refine tf fun c x1 x2 hI=>?_
  have e:c=An k []:=by have:=hI.1;rw[eG (by rw[af];exact aI _)] at this;exact this
  have hl:c.length<=900:=ae hI.2.1 (by rw[af];exact hk9);walk_at "w";refine m8 (ρf:=M0 k a) (Zf:=M1 a) W (cA W.O) (fun i s=>ub (k.drop i) s.1=ac res/\s.1.length<=900) (c,_,_) ⟨by rw[e];exact hr,hl⟩ rfl rfl ?_ ?_
  .intro B' P R i d s hd
   refine ar (dJ hd) fun x z2 hx=>?_;subst z2;revert s;refine tf fun c x1 x2 hI W' zz hk' hh' zz hP hR=>?_;refine aZ (U9 (mX hx▸hI.1)) fun h1 h2=>?_;walk_at "w";cases hp:x.page with|false=>walk_at "w";exact hP (c,_,_) ⟨h1 hp,hI.2⟩|true=>
    refine ar (h2 hp) fun c' h3 h4=>?_;walk_at "w";refine m8 (ρf:=fun s=>M0 k a (s.1,x.d,s.2.2)) (Zf:=M1 a) W' (qw W'.O (hh'.trans hh)) (fun j s=>Ce (x.above.drop j) s.1=ac c'/\s.1.length<=900) (c,x1,_) ⟨h3,hI.2⟩ rfl rfl ?_ ?_
    .intro B2 P2 R2 j d s hd
     refine ar (dJ hd) fun y z3 hy=>?_;subst z3;revert s;refine tf fun c1 y1 y2 hI2 W2 zz zz zz zz hP2 hR2=>?_;refine ar (U8 (mX hy▸hI2.1)) fun v hv h5=>?_;walk_at "w";refine cw (K:=Int) (l:=rD c1) (x:=.int v) (.inr (bq a rfl (.head _))) (by rw[zC,hv];rfl) ?_ (fun zz zz=>rfl);walk_at "w";refine pb (zk _ _ _) .head (by rw[wt];exact ae hI2.2 (by decide)) ?_;walk_at "w";exact hP2 (_,y1,_) ⟨h5,by rw[Bi hv];exact hI2.2⟩
    .refine tf fun c1 y1 y2 hI2=>?_
     have e:c1=c':=by have:=hI2.1;rw[eG (by rw[iR,af];exact aI _)] at this;exact aB this
     walk_at "w";exact hP (c1,_,y2) ⟨by rw[e];exact h4,hI2.2⟩
  .refine tf fun c x1 x2 hI=>?_
   have e:c=res:=by have:=hI.1;rw[eG (by rw[af];exact aI _)] at this;exact aB this
   walk_at "w";exact hQ _ _ _ (B8 rfl rfl ⟨by rw[e],rfl⟩)
end
noncomputable def iS(lk:Lk)(s:bk):Option Bool:=match s.above.reverse with|[]=>(cc lk 30 (dC s.head (aa "Parent"))).map PV.isNull|a::_=>match dC s.head (aa "Parent") with|.ref n k=>ac (n==a.1&&k==a.2)|_=>ac ak
noncomputable def lA(lk:Lk)(s:bk)(c:Int):Option Bool:=(cc lk 30 (dC s.head (aa "Count"))).map fun v=>s.page||(match v with|.int i=>decide (0<=i)&&i==c|_=>ak)
noncomputable abbrev eK:=List (Int×aV)
noncomputable def gy(p:Int×aV):DV:=.tup [.int p.1,.str p.2]
noncomputable def fC(lk:Lk)(c:wP):List bk->eK->Option eK|[],f=>ac f|s::r,f=>match iS lk s with|none=>aq|some p=>match pN c s.n with|none=>aq|some n=>match lA lk s n with|none=>aq|some q=>fC lk c r (((f++(if p then[] else[(s.n,aa "Parent")]))++(if q then[] else[(s.n,aa "Count")]))++(if s.page&&(fM s.inh (aa "MediaBox")).isNone then[(s.n,aa "MediaBox")] else[]))
theorem BY(lk c){s r f}:fC lk c (s::r) f=(match iS lk s with|none=>aq|some p=>match pN c s.n with|none=>aq|some n=>match lA lk s n with|none=>aq|some q=>fC lk c r (((f++(if p then[] else[(s.n,aa "Parent")]))++(if q then[] else[(s.n,aa "Count")]))++(if s.page&&(fM s.inh (aa "MediaBox")).isNone then[(s.n,aa "MediaBox")] else[]))):=rfl
noncomputable def faultsP(lk:Lk)(tr:List (aV×PV)):Option (Option eK):=match cE lk tr with|none=>aq|some aq=>ac aq|some (ac k)=>match fT k with|none=>aq|some c=>(fC lk c k []).map ac
noncomputable def sJ(b:Bool)(y:Int×aV)(f:eK):eK:=bif b then f++[y] else f
theorem rz(b y f):(sJ b y f).length<=f.length+1:=by cases b with|true=>exact bv (by show(f++[y]).length=_;rw[aS,bQ])|false=>exact cD _
theorem E0(p y f):f++(if p then[] else[y])=sJ (!p) y f:=by cases p with|true=>exact bR _|false=>rfl
theorem v9(p y f):f++(if p then[y] else[])=sJ p y f:=by cases p with|true=>rfl|false=>exact bR _
theorem Mx{s:bk}(h:fC lk c (s::r) f=ac f'):∃p n q,iS lk s=ac p/\pN c s.n=ac n/\lA lk s n=ac q/\fC lk c r (sJ (s.page&&(fM s.inh (aa "MediaBox")).isNone) (s.n,aa "MediaBox") (sJ (!q) (s.n,aa "Count") (sJ (!p) (s.n,aa "Parent") f)))=ac f':=by(first|rw[faultsGo_e0] at h|rw[BY] at h|unfold fC at h);cases h1:iS lk s with|none=>rw[h1] at h;injection h|some p=>rw[h1] at h;dsimp only at h;cases h2:pN c s.n with|none=>rw[h2] at h;injection h|some n=>rw[h2] at h;dsimp only at h;cases h3:lA lk s n with|none=>rw[h3] at h;injection h|some q=>rw[h3] at h;dsimp only at h;rw[E0,E0,v9] at h;exact ez p n q rfl rfl h3 h
inductive Zu (lk:Lk) (s:bk) (res:Bool):Prop
 |root (e:s.above=[]) (v:PV) (h:cc lk 30 (dC s.head (aa "Parent"))=ac v) (er:v.isNull=res)
 |deep (as:List (Int×Int)) (a:Int×Int) (e:s.above=as++[a]) (no:bw (dC s.head (aa "Parent")).tg=ak->res=ak) (yes:∀n k,dC s.head (aa "Parent")=.ref n k->(n==a.1&&k==a.2)=res)
theorem Xo{s:bk}(h:iS lk s=ac res):Zu lk s res:=by
 unfold iS at h;cases hr:s.above.reverse with
 |nil=>rw[hr] at h;refine ar (aD.mp h) fun v hv er=>?_;exact .root (AQ.mp hr) v hv er
 |cons a as=>
  rw[hr] at h;have e:s.above=as.reverse++[a]:=by rw[<-Ej s.above,hr,H6]
  dsimp only at h;refine .deep as.reverse a e (fun hq=>?_) fun n k hp=>?_;.cases hp:dC s.head (aa "Parent")<;>rw[hp] at h hq<;>first|exact(aB h).symm|injection hq
  .rw[hp] at h;exact aB h
theorem Pa{s:bk}{c:Int}(h:lA lk s c=ac res):∃v,cc lk 30 (dC s.head (aa "Count"))=ac v/\(s.page=ai->res=ai)/\(s.page=ak->(fU v=ak->res=ak)/\(fU v=ai->∃i,v=.int i/\(i==c)=res)):=by
 refine ar (aD.mp h) fun v hv er=>?_;refine cB v hv (fun hp=>?_) (fun hp=>?_);.rw[hp] at er;exact er.symm
 .rw[hp,AK] at er
  cases v with
  |int i=>
   refine⟨fun hc=>?_,fun hc=>(bq i rfl ?_)⟩
   .have hc:decide (0<=i)=ak:=hc
    dsimp only at er;rw[hc] at er;exact er.symm
   .have hc:decide (0<=i)=ai:=hc
    dsimp only at er;rw[hc,Oq] at er;exact er
  |_=>exact⟨fun zz=>er.symm,fun hc=>(nomatch hc)⟩
theorem mM(l):(iR l).isEmpty=l.isEmpty:=by cases l<;>rfl
theorem IP(as a):mv (-1) (iR (as++[a])).length=ac as.length:=by rw[iR,af,aS,bQ];unfold mv;simp;exact Yq
theorem Gf(as a):(iR (as++[a]))[as.length]?=ac (ij a.1 a.2):=by rw[iR,aA,xD (by simp)];simp
theorem IS(n k a b):a8 (.tuple [.int n,.int k]) (.tuple [.int a,.int b])=(n==a&&k==b):=by simp[a8,fZ]
section
variable (g : dK G) {t r : aW} {lk : Lk}
include g
theorem og(hs:d4 lk tab)(sp)(hl:sp.above.length<=900)(res)(hr:iS lk sp=ac res):ir G 3 (.ref 519) [bg t r,sp.d] (bz t r tab tr) (fun d Z'=>d=.bool res/\Z'=bz t r tab tr):=by refine ey (ps:=[aa "shelf",aa "spot"]) (rest:=[aa "parent"]) g rfl rfl rfl rfl rfl rfl (jL fun zz zz=>rfl) rfl (.cons (cT g) (.cons (dX g) .nil)) (by kernel_rfl) fun B Q W hk hh hm hQ=>?_;walk_at "w";refine iU (K:=aV) W (.inl rfl) ?_;walk_at "w";refine oN (K:=aV) (x:=(dC sp.head (aa "Parent")).d) (.inl rfl) (rh sp.head _) ?_;walk_at "w";cases Xo hr with|root e v hv er=>refine jB W (b:=ai) (by rw[mM,e];rfl) ?_;walk_at "w";refine aw W.O (kC g hs _ v hv) (.inr hh) (.take (.take .nil)) (cN hk rfl) ?_;walk_at "w";refine gZ (fB v) ?_;walk_at "w";exact hQ _ _ _ (cS rfl ⟨by rw[er],rfl⟩)|deep as a e no yes=>refine jB W (b:=ak) (by rw[mM,e];simp) ?_;walk_at "w";cases hq:bw (dC sp.head (aa "Parent")).tg with|false=>refine xm W (PV.tgd _) hq ?_;walk_at "w";exact hQ _ _ _ (cS rfl ⟨by rw[no hq],rfl⟩)|true=>refine xm W (PV.tgd _) hq ?_;refine g5 (u7 hq) fun n k hp=>?_;have yes:=yes n k hp;generalize dC sp.head (aa "Parent")=pa at hp;subst hp;walk_at "w";refine aw W.O (kn g n k) (.inr hh) .nil (cN hk rfl) ?_;walk_at "w";refine eh (j:=as.length) (x:=ij a.1 a.2) (by decide) (by decide) (by rw[e];exact IP as a) (by rw[e];exact Gf as a) ?_ (fun zz zz=>rfl);walk_at "w";refine aw W.O (kn g a.1 a.2) (.inr hh) .nil (cN hk rfl) ?_;walk_at "w";refine lY W (x:=.tuple [.int n,.int k]) (y:=.tuple [.int a.1,.int a.2]) (.inl rfl) (.inl rfl) rfl rfl ((IS _ _ _ _).trans yes) ?_;walk_at "w";exact hQ _ _ _ (cS rfl ⟨rfl,rfl⟩)
theorem pT(hs:d4 lk tab)(sp c res)(hr:lA lk sp c=ac res):ir G 3 (.ref 526) [bg t r,sp.d,.int c] (bz t r tab tr) (fun d Z'=>d=.bool res/\Z'=bz t r tab tr):=by
 refine ey (ps:=[aa "shelf",aa "spot",aa "count"]) (rest:=[aa "value"]) g rfl rfl rfl rfl rfl rfl (rG fun zz zz zz=>rfl) rfl (.cons (tw g) .nil) (by kernel_rfl) fun B Q W hk hh hm hQ=>?_;refine bp (Pa hr) fun v hv h1 h2=>?_;walk_at "w";refine aw W.O (iP g hs (.inl rfl) (aa "Count") v hv) (.inr hh) (.take (.take .nil)) (cN hk rfl) ?_;walk_at "w";cases hp:sp.page with|true=>walk_at "w";exact hQ _ _ _ (cS rfl ⟨by rw[h1 hp],rfl⟩)|false=>
  refine aZ (h2 hp) fun h3 h4=>?_;walk_at "w";refine aw W.O (pU g v) (.inr hh) .nil (cN hk rfl) ?_;cases hc:fU v with
  |true=>refine ar (h4 hc) fun i e er=>?_;subst e;walk_at "w";exact hQ _ _ _ (cS rfl ⟨congrArg DV.bool er,rfl⟩)
  |false=>walk_at "w";exact hQ _ _ _ (cS rfl ⟨by rw[h3 hc],rfl⟩)
end
theorem mK:∀(n:Nat)stk found seen k,iN lk n stk found seen=ac (ac k)->(∀s∈found,s.above.length<=900)->∀s∈k,s.above.length<=900
 |0,_,_,_,_,h,_=>by injection h
 |n+1,[],found,_,k,h,hf=>by(injection h with h;injection h with h;subst h);exact hf
 |n+1,(v,a,i)::rest,found,seen,k,h,hf=>by
  refine aY (C2 h) fun m S=>?_;cases m with|none=>cases S.no rfl|some s=>
   have hf':∀x∈found++[s],x.above.length<=900:=fun x hx=>(aJ.mp hx).elim (hf x) fun hx=>by rw[ap.mp hx,Dk S.met];exact S.la
   cases hp:s.page with|true=>exact mK n _ _ _ _ (S.page s rfl hp) hf'|false=>refine bp (S.node s rfl hp) fun ks zz zz h=>?_;exact mK n _ _ _ _ h hf'
theorem nv(h:cE lk tr=ac (ac k)):∀s∈k,s.above.length<=900:=by refine ar (cC.mp h) ?_;clear h;intro rl zz h;exact mK 100 _ _ _ _ h (fun zz h=>nomatch h)
theorem Ea(h:faultsP lk tr=ac res):∃m,cE lk tr=ac m/\(m=aq->res=aq)/\∀k,m=ac k->∃c f,fT k=ac c/\fC lk c k []=ac f/\res=ac f:=by
 unfold faultsP at h;cases hm:cE lk tr with|none=>rw[hm] at h;injection h|some m=>
  rw[hm] at h;refine(cB m rfl (fun e=>?_) (fun k e=>?_))<;>subst e;.exact(aB h).symm
  .dsimp only at h
   cases hc:fT k with|none=>rw[hc] at h;injection h|some c=>rw[hc] at h;refine ar (aD.mp h) fun f hf e=>?_;exact bO c f rfl hf e.symm
theorem sI(f n y):f.map gy++[.tup [.int n,.str y]]=(f++[(n,y)]).map gy:=by rw[aA];rfl
noncomputable def Za(t r fa:aW)(k:List bk)(c:wP):eK×DV×DV->aP|(_,x1,x2)=>[(aa "shelf",bg t r),(aa "found",.lst (k.map bk.d)),(aa "counts",.idic (rD c)),(aa "faults",.ptr fa),(aa "spot",x1),(aa "number",x2)]
noncomputable def Qz(t r fa:aW)(tab:dE)(tr:List (aV×PV)):eK×DV×DV->Mu|(f,_,_)=>(fa,.lst (f.map gy))::bz t r tab tr
section
variable (g : dK G) {t r : aW} {lk : Lk}
include g
theorem jo(hs:d4 lk tab)(res)(hr:faultsP lk tr=ac res):mq G 6 (.ref 533) [bg t r] (bz t r tab tr) res (fun f=>.lst (f.map gy)):=by
 refine bp (Ea hr) fun m hsp h1 h2=>?_;refine ke (ps:=[aa "shelf"]) (rest:=[aa "found",aa "counts",aa "faults",aa "spot",aa "number"]) g rfl rfl rfl rfl rfl rfl (gA fun zz=>rfl) rfl (.cons (vQ g) (.cons (rp g) (.cons (ro g) (.cons (lp g) .nil)))) (by kernel_rfl) fun B E Q W w hk hh hm hE hQ=>?_;walk_at "w";refine jz W w hm (qk g hs m hsp) hh (.take (.take .nil)) (cN hk rfl) (fun p hp=>hp) (fun h e s x=>hE e s ⟨(by rw[h1 h];intro h;injection h),.fly x⟩) fun k e=>?_;refine aM (h2 k e) fun c f hc hf er=>?_;subst e;have hkl:=fj hsp;walk_at "w";refine aw W.O (oh g k (ae hkl (by decide)) c hc) (.inr hh) .nil (cN hk rfl) ?_;walk_at "w";refine pB W.O (ie W ?_);walk_at "w";refine⟨by decide,fun fa=>?_⟩;walk_at "w";refine m8 (ρf:=Za t r fa k c) (Zf:=Qz t r fa tab tr) W (cA W.O) (fun i s=>fC lk c (k.drop i) s.1=ac f/\s.1.length<=3*i/\i<=k.length) ([],_,_) (jR hf (a7 _) (a7 _)) rfl rfl ?_ ?_
 .intro B' P R i d s hd
  refine ar (dJ hd) fun x z1 hx=>?_;subst z1;have hxm:x∈k:=cF hx;have hik:=kK hx;revert s;refine tf fun f1 x1 x2 hI W' zz hk' hh' zz hP hR=>?_;refine eB (Mx (mX hx▸hI.1)) fun p n q e1 e2 e3 hgo=>?_;have hh2:=hh'.trans hh;have hk2:=hk'.trans hk;have l1:f1.length<=300:=by have:=hI.2.1;dsimp only at this;exact Yp hkl hik this
  have m1:=hI.2.1;clear hI;dsimp only at m1;walk_at "w";refine aw W'.O (og g hs x (nv hsp x hxm) p e1) (.inr hh2) (.skip (.take (.take .nil))) (cN hk2 rfl) ?_;walk_at "w";refine mn (c:=!p) (fun f=>Qz t r fa tab tr (f,.none,.none)) f1 (f1++[(x.n,aa "Parent")]) ?_ fun Q' zz hz=>?_;rotate_left
  .walk_at "w"
   refine qZ W' (.inr (bq fa rfl (.head _))) ?_;walk_at "w";refine ml (sI f1 _ _) .head (by rw[af];exact ae l1 (by decide)) ?_;walk_at "w";exact hz
  intro f2 e4;have l2:f2.length<=f1.length+1:=by rw[e4];exact rz _ _ _
  walk_at "w";refine cw (K:=Int) (l:=rD c) (x:=.int n) (.inl rfl) (by rw[zC,e2];rfl) ?_ (fun zz zz=>rfl);walk_at "w";refine aw W'.O (pT g hs x n q e3) (.inr hh2) (.skip (.take (.take .nil))) (cN hk2 rfl) ?_;walk_at "w";refine mn (c:=!q) (fun f=>Qz t r fa tab tr (f,.none,.none)) f2 (f2++[(x.n,aa "Count")]) ?_ fun Q' zz hz=>?_;rotate_left
  .walk_at "w"
   refine qZ W' (.inr (bq fa rfl (.head _))) ?_;walk_at "w";refine ml (sI f2 _ _) .head (by rw[af];exact Yo l1 l2) ?_;walk_at "w";exact hz
  intro f3 e5;have l3:f3.length<=f2.length+1:=by rw[e5];exact rz _ _ _
  have fin:∀b,(x.page&&(fM x.inh (aa "MediaBox")).isNone)=b->fC lk c (k.drop (i+1)) (sJ b (x.n,aa "MediaBox") f3)=ac f/\(sJ b (x.n,aa "MediaBox") f3).length<=3*(i+1)/\i+1<=k.length:=fun b eb=>(jR (by rw[<-eb,e5,e4];exact hgo) (by have:=rz b (x.n,aa "MediaBox") f3;exact Yn m1 l2 l3 this) hik)
  walk_at "w";cases hp:x.page with|false=>walk_at "w";exact hP (f3,_,_) (fin ak (by rw[hp];rfl))|true=>walk_at "w";cases hmb:fM x.inh (aa "MediaBox") with|some v=>refine pj (K:=aV) (l:=PV.dS x.inh) (b:=ak) (.inl rfl) (by rw[gu,hmb];rfl) ?_;walk_at "w";exact hP (f3,_,_) (fin ak (by rw[hp,hmb];rfl))|none=>refine pj (K:=aV) (l:=PV.dS x.inh) (b:=ai) (.inl rfl) (by rw[gu,hmb];rfl) ?_;walk_at "w";refine qZ W' (.inr (bq fa rfl (.head _))) ?_;walk_at "w";refine ml (sI f3 _ _) .head (by rw[af];exact Ym l1 l2 l3) ?_;walk_at "w";exact hP (f3++[(x.n,aa "MediaBox")],_,_) (fin ai (by rw[hp,hmb];rfl))
 .refine tf fun f1 x1 x2 hI=>?_
  have e:f1=f:=by have:=hI.1;rw[eG (by rw[af];exact aI _)] at this;exact aB this
  walk_at "w";refine hQ _ _ _ (B8 rfl rfl ?_);exact nB (by rw[er];rfl) _ er (by rw[e]) rfl
end
noncomputable def cQ(tab:dE)(k g:Int)(v:PV):dE:=if tab.any (fun r=>r.1=k) then tab.map (fun r=>if r.1=k then(r.1,g,v) else r) else tab++[(k,g,v)]
theorem qU(tab k g v):jp tab.d k (.tup [.int g,v.d])=(cQ tab k g v).d:=by
 unfold jp cQ dE.d;rw[fk];have e:(tab.any ((fun kv:Int×DV=>decide (kv.1=k))∘LG))=tab.any fun r=>r.1=k:=rfl;rw[e];split
 .rw[bS,bS]
  refine bM fun p zz=>?_;simp only[ej,LG];by_cases hp:p.1=k<;>simp[hp]
 .rw[aA];rfl
theorem kF(tab k g v):(cQ tab k g v).length<=tab.length+1:=by
 unfold cQ;split;.rw[af];exact cD _
 .rw[aS];exact aI _
theorem mO(tab k g v j):(cQ tab k g v).lk j=if j=k then ac (g,v) else tab.lk j:=by
 unfold cQ dE.lk;by_cases h:(tab.any fun r=>decide (r.1=k))=ai
 .rw[if_pos h]
  induction tab with|nil=>injection h|cons p r ih=>
   rw[au,bh,bh];by_cases hp:p.1=k
   .rw[if_pos hp]
    by_cases hj:j=k;.subst hj;simp[hp]
    .have hne:¬p.1=j:=fun e=>hj (e▸hp)
     rw[if_neg hj];simp only[hne,decide_false];have:=fun h'=>ih h';by_cases h':(r.any fun r=>decide (r.1=k))=ai;.have:=ih h';rw[if_neg hj] at this;exact this
     .have:(kR (fun r=>if r.1=k then(r.1,g,v) else r) r)=r:=by
       conv=>rhs;rw[<-lL r]
       refine bM fun x hx=>?_;have:¬x.1=k:=fun e=>h' (dw.mpr (bq x hx (by simpa using e)));rw[if_neg this];rfl
      rw[this]
   .rw[if_neg hp]
    have h':(r.any fun r=>decide (r.1=k))=ai:=by rw[dD,decide_eq_false hp,AK] at h;exact h
    by_cases hpj:p.1=j
    .have hj:¬j=k:=fun e=>hp (hpj.trans e)
     simp[hpj,hj]
    .simp only[hpj,decide_false];exact ih h'
 .rw[if_neg h]
  have hn:∀x∈tab,¬x.1=k:=fun x hx e=>h (dw.mpr (bq x hx (by simpa using e)));rw[sZ];by_cases hj:j=k
  .subst hj
   have:tab.find? (fun kv=>decide (kv.1=j))=aq:=kT.mpr fun x hx=>by simpa using hn x hx
   rw[this];simp
  .rw[if_neg hj]
   have:List.find? (fun kv:Int×Int×PV=>decide (kv.1=j)) [(k,g,v)]=aq:=by simp[oZ hj]
   rw[this,Option.or_none]
noncomputable def sk(l:List (aV×PV))(k:aV):List (aV×PV):=l.filter fun kv=>decide (kv.1≠k)
theorem IM(k):∀l,xd (PV.dS l) k=PV.dS (sk l k):=by
 intro p0_;induction p0_ with|nil=>exact rfl|cons p_ r ih=>
  rcases p_ with⟨x,v⟩
  have ih:=ih;unfold xd sk at *;rw[PV.dS,dZ,dZ];try dsimp only
  by_cases h:x≠k;.rw[decide_eq_true h];simp only[if_true];rw[ih,PV.dS]
  .rw[decide_eq_false h];simp only[rQ,if_false];exact ih
theorem IN(l k):(sk l k).length<=l.length:=dT _ _
noncomputable def eW(ch:List (aV×PV)):List aV->List (aV×PV)->Option (List (aV×PV))|[],f=>ac f|k::r,f=>match fM ch k with|none=>aq|some v=>if v.isNull then eW ch r (sk f k) else eW ch r (eH f k v)
theorem AX(ch){k r f}:eW ch (k::r) f=(match fM ch k with|none=>aq|some v=>if v.isNull then eW ch r (sk f k) else eW ch r (eH f k v)):=rfl
noncomputable def gH(head ch:List (aV×PV)):Option (List (aV×PV)):=eW ch (ch.map (·.1)) head
theorem MY(l):(PV.dS l).map (fun p=>DV.str p.1)=(l.map (·.1)).map DV.str:=by rw[PV.dS_map,bS,bS];rfl
theorem RY(h:eW ch (x::r) f=ac res):∃v,fM ch x=ac v/\(v.isNull=ai->eW ch r (sk f x)=ac res)/\(v.isNull=ak->eW ch r (eH f x v)=ac res):=by have h:(match fM ch x with|none=>aq|some v=>if v.isNull then eW ch r (sk f x) else eW ch r (eH f x v))=ac res:=h;cases e:fM ch x with|none=>rw[e] at h;injection h|some v=>rw[e] at h;exact cB v rfl (fun hn=>(if_pos hn).symm.trans h) (fun hn=>(if_neg (by rw[hn];decide)).symm.trans h)
noncomputable def Xe(head ch:List (aV×PV))(a:aW):List (aV×PV)×DV->aP|(_,key)=>[(aa "head",.sdic (PV.dS head)),(aa "changes",.sdic (PV.dS ch)),(aa "found",.ptr a),(aa "key",key)]
noncomputable def Xf(a:aW):List (aV×PV)×DV->Mu|(f,_)=>[(a,.sdic (PV.dS f))]
section
variable (g : dK G) {t r : aW}
include g
theorem jm(k gen v)(hv:v≠.any)(hl:rows.length<=2000):ir G 1 (.ref 332) [bg t r,.int k,.int gen,v] [(t,.idic rows),(r,mo)] (fun d Z'=>d=.none/\Z'=[(t,.idic (jp rows k (.tup [.int gen,v]))),(r,mo)]):=by refine ey (ps:=[aa "self",aa "number",aa "generation",aa "value"]) (rest:=[]) g rfl rfl rfl rfl rfl rfl (NZ fun zz zz zz zz=>rfl) rfl .nil (by kernel_rfl) fun B Q W hk hh hm hQ=>?_;walk_at "w";refine Iy .head (ae hl (by decide)) ?_;walk_at "w";exact hQ _ _ _ (gM rfl ⟨rfl,rfl⟩)
theorem F7(k gen v)(hv:v≠.any)(hl:rows.length<=2000):ir G 2 (.ref 547) [bg t r,ij k gen,v] [(t,.idic rows),(r,mo)] (fun d Z'=>d=.none/\Z'=[(t,.idic (jp rows k (.tup [.int gen,v]))),(r,mo)]):=by refine ey (ps:=[aa "shelf",aa "reference",aa "head"]) (rest:=[]) g rfl rfl rfl rfl rfl rfl (rG fun zz zz zz=>rfl) rfl .nil (by kernel_rfl) fun B Q W hk hh hm hQ=>?_;walk_at "w";refine aw W.O (jm g k gen v hv hl) (.inr hh) (.take (.take .nil)) (cN hk rfl) ?_;walk_at "w";exact hQ _ _ _ (gM rfl ⟨rfl,rfl⟩)
theorem n8(head ch)(hl:head.length<=900)(hc:ch.length<=900)(res)(hr:gH head ch=ac res):ir G 1 (.ref 420) [.sdic (PV.dS head),.sdic (PV.dS ch)] [] (fun d Z'=>d=.sdic (PV.dS res)/\Z'=[]):=by
 refine ey (ps:=[aa "head",aa "changes"]) (rest:=[aa "found",aa "key"]) g rfl rfl rfl rfl rfl rfl (jL fun zz zz=>rfl) rfl (.cons (jC g) .nil) (by kernel_rfl) fun B Q W hk hh hm hQ=>?_;walk_at "w";refine lF (K:=aV) W.O (.inl rfl) (by rw[jX];exact ae hl (by decide)) fun a=>?_;walk_at "w";refine m8 (ρf:=Xe head ch a) (Zf:=Xf a) W (ya W.O hh) (fun j s=>eW ch ((ch.map (·.1)).drop j) s.1=ac res/\s.1.length<=head.length+j) (head,_) ⟨hr,aI _⟩ rfl rfl ?_ ?_
 .intro B' P R j d s hd
  have hj:j<ch.length:=by have:=kK hd;rwa[af,jX] at this
  rw[MY] at hd;refine ar (yS hd) fun x z1 hx=>?_;subst z1;revert s;refine j3 fun f key hI W' zz hk' hh' zz hP hR=>?_;refine bp (RY (hx▸hI.1)) fun vx hlx h1 h2=>?_;have hf:(PV.dS f).length<=1000000:=by rw[jX];have:=hI.2;dsimp only at this;exact Yl hl hc hj this
  walk_at "w";refine cw (K:=aV) (l:=PV.dS ch) (x:=vx.d) (.inl rfl) (by rw[gu,hlx];rfl) ?_ (fun zz zz=>rfl);walk_at "w";refine gZ (fB vx) ?_;cases hn:vx.isNull with|true=>walk_at "w";refine qt (K:=aV) (l:=PV.dS f) (.inr (bq a rfl (.head _))) Rq Rp (ie W' ?_);walk_at "w";refine QM (K:=aV) (IM x f) .head hf ?_;walk_at "w";exact hP (sk f x,_) ⟨h1 hn,ae (IN f x) (ae hI.2 (cD _))⟩|false=>walk_at "w";refine cw (K:=aV) (l:=PV.dS ch) (x:=vx.d) (.inl rfl) (by rw[gu,hlx];rfl) ?_ (fun zz zz=>rfl);walk_at "w";refine iM (mN x vx f) .head hf ?_;walk_at "w";exact hP (eH f x vx,_) ⟨h2 hn,ae (lX f x vx) (b6 hI.2)⟩
 .refine j3 fun f key hI=>?_
  have e:f=res:=by have:=hI.1;rw[eG (by rw[af,af,jX];exact aI _)] at this;exact aB this
  walk_at "w";exact hQ _ _ _ (B8 rfl rfl ⟨by rw[e],rfl⟩)
end
noncomputable abbrev Wr:=List (Int×Int×PV)
noncomputable def bW(tab:dE)(ws:Wr):dE:=ws.foldl (fun t w=>cQ t w.1 w.2.1 w.2.2) tab
noncomputable def j0(lk:Lk)(k g:Int)(v:PV):Lk:=fun j=>if j=k then ac (ac (g,v)) else lk j
theorem xJ(h:d4 lk tab)(k g v):d4 (j0 lk k g v) (cQ tab k g v):=by
 intro j r e;unfold j0 at e;rw[mO];by_cases hj:j=k;.rw[if_pos hj] at e ⊢;exact aB e
 .rw[if_neg hj] at e ⊢;exact h j r e
theorem vc(tab ws k g v):bW tab (ws++[(k,g,v)])=cQ (bW tab ws) k g v:=by unfold bW;rw[lM];rfl
theorem lW(tab):∀ws,(bW tab ws).length<=tab.length+ws.length:=by intro ws;induction ws generalizing tab with|nil=>exact aI _|cons w r ih=>show(bW (cQ tab w.1 w.2.1 w.2.2) r).length<=_;exact Yk (ih _) (kF tab w.1 w.2.1 w.2.2)
noncomputable def pZ(l:List (Int×Int)):PV:=match l.reverse with|[]=>.null|a::_=>.ref a.1 a.2
noncomputable def fV(s:bk)(p q:Bool)(n:Int):List (aV×PV):=(if p then[] else[(aa "Parent",pZ s.above)])++(if q then[] else[(aa "Count",.int n)])
noncomputable def dO(c:wP):Lk->List bk->Wr->Option Wr|_,[],ws=>ac ws|lk,s::r,ws=>match iS lk s with|none=>aq|some p=>match pN c s.n with|none=>aq|some n=>match lA lk s n with|none=>aq|some q=>match fV s p q n with|[]=>dO c lk r ws|ch=>if 900<s.head.length then aq else match gH s.head ch with|none=>aq|some h=>dO c (j0 lk s.n s.k (.dict h)) r (ws++[(s.n,s.k,.dict h)])
theorem oo(c){q1_ ws}:dO c q1_ [] ws=(ac ws):=rfl
theorem om(c){lk s r ws}:dO c lk (s::r) ws=(match iS lk s with|none=>aq|some p=>match pN c s.n with|none=>aq|some n=>match lA lk s n with|none=>aq|some q=>match fV s p q n with|[]=>dO c lk r ws|ch=>if 900<s.head.length then aq else match gH s.head ch with|none=>aq|some h=>dO c (j0 lk s.n s.k (.dict h)) r (ws++[(s.n,s.k,.dict h)])):=rfl
noncomputable def iQ(lk:Lk)(tr:List (aV×PV)):Option (Option Wr):=match cE lk tr with|none=>aq|some aq=>ac aq|some (ac k)=>match fT k with|none=>aq|some c=>(dO c lk k []).map ac
theorem GN(h:l.isEmpty=ai):pZ l=.null:=by cases l<;>first|rfl|injection h
theorem I5(h:l.isEmpty=ak):∃a b,pZ l=.ref a b/\(iR l)[l.length-1]?=ac (ij a b)/\mv (-1) (iR l).length=ac (l.length-1):=by
 have hp:0<l.length:=by cases l<;>simp_all
 obtain⟨a,as,hra⟩:∃a as,l.reverse=a::as:=by cases e:l.reverse with|nil=>rw[AQ.mp e] at h;injection h|cons a as=>exact⟨a,as,rfl⟩
 have e:l=as.reverse++[a]:=by rw[<-Ej l,hra,H6]
 refine bO a.1 a.2 (by unfold pZ;rw[hra]) ?_ ?_
 .rw[iR,e,aA,xD (by simp)]
  simp
 .rw[iR,af]
  unfold mv;simp;exact Yi hp
noncomputable def Kb(p:Bool)(v:PV):List (aV×PV):=if p then[] else[(aa "Parent",v)]
theorem M3(p v n):jp (PV.dS (Kb p v)) (aa "Count") (.int n)=PV.dS (Kb p v++[(aa "Count",.int n)]):=by
 have:eH (Kb p v) (aa "Count") (.int n)=Kb p v++[(aa "Count",.int n)]:=by cases p with|true=>rfl|false=>unfold Kb eH;simp only[rQ,if_false];rw[if_neg];intro h;simp only[dD,List.any_nil,qM,decide_eq_true_eq] at h;exact absurd h (by decide +kernel)
 rw[<-this,<-mN,PV.d]
theorem Lz{s:bk}(h:dO c lk (s::r) ws=ac res):∃p n q,iS lk s=ac p/\pN c s.n=ac n/\lA lk s n=ac q/\(fV s p q n=[]->dO c lk r ws=ac res)/\(fV s p q n≠[]->s.head.length<=900/\∃h,gH s.head (fV s p q n)=ac h/\dO c (j0 lk s.n s.k (.dict h)) r (ws++[(s.n,s.k,.dict h)])=ac res):=by
 (first|rw[oo] at h|rw[om] at h|unfold dO at h);cases h1:iS lk s with|none=>rw[h1] at h;injection h|some p=>
  rw[h1] at h;dsimp only at h;cases h2:pN c s.n with|none=>rw[h2] at h;injection h|some n=>
   rw[h2] at h;dsimp only at h;cases h3:lA lk s n with|none=>rw[h3] at h;injection h|some q=>
    rw[h3] at h;dsimp only at h;refine cZ p n q rfl rfl h3 (fun e=>?_) (fun e=>?_);.rw[e] at h;exact h
    .cases hc:fV s p q n with
     |nil=>exact absurd hc e|cons c0 cr=>
      rw[hc] at h;by_cases hl:900<s.head.length;.injection (if_pos hl).symm.trans h
      .have h:=(if_neg hl).symm.trans h
       cases ht:gH s.head (c0::cr) with|none=>rw[ht] at h;injection h|some x=>rw[ht] at h;exact⟨b7 hl,x,rfl,h⟩
theorem D9(h:iQ lk tr=ac res):∃m,cE lk tr=ac m/\(m=aq->res=aq)/\∀k,m=ac k->∃c f,fT k=ac c/\dO c lk k []=ac f/\res=ac f:=by
 unfold iQ at h;cases hm:cE lk tr with|none=>rw[hm] at h;injection h|some m=>
  rw[hm] at h;refine(cB m rfl (fun e=>?_) (fun k e=>?_))<;>subst e;.exact(aB h).symm
  .dsimp only at h
   cases hc:fT k with|none=>rw[hc] at h;injection h|some c=>rw[hc] at h;refine ar (aD.mp h) fun f hf e=>?_;exact bO c f rfl hf e.symm
theorem QO(s p q n):(bif !q then Kb p (pZ s.above)++[(aa "Count",.int n)] else Kb p (pZ s.above))=fV s p q n:=by cases q with|true=>exact(bR _).symm|false=>rfl
theorem Vb(s p q n):(fV s p q n).length<=2:=by cases p<;>cases q<;>exact aj rfl
noncomputable def Xj(t r:aW)(k:List bk)(c:wP):Lk×Wr×DV×DV->aP|(_,_,x1,x2)=>[(aa "shelf",bg t r),(aa "found",.lst (k.map bk.d)),(aa "counts",.idic (rD c)),(aa "spot",x1),(aa "changes",x2)]
noncomputable def Xk(t r:aW)(tab:dE)(tr:List (aV×PV)):Lk×Wr×DV×DV->Mu|(_,ws,_,_)=>bz t r (bW tab ws) tr
section
variable (g : dK G) {t r : aW} {lk : Lk}
include g
theorem oa(hs:d4 lk tab)(hl:tab.length<=900)(res)(hr:iQ lk tr=ac res):jf G 6 (.ref 540) [bg t r] (bz t r tab tr) (fun d Z'=>∃ws,d=.none/\res=ac ws/\Z'=bz t r (bW tab ws) tr) (res.isSome=ai):=by
 refine bp (D9 hr) fun m hsp h1 h2=>?_;refine ke (ps:=[aa "shelf"]) (rest:=[aa "found",aa "counts",aa "spot",aa "changes"]) g rfl rfl rfl rfl rfl rfl (gA fun zz=>rfl) rfl (.cons (vQ g) (.cons (rp g) (.cons (ro g) (.cons (lp g) (.cons (Qu g) (.cons (sD g) .nil)))))) (by kernel_rfl) fun B E Q W w hk hh hm hE hQ=>?_;walk_at "w";refine jz W w hm (qk g hs m hsp) hh (.take (.take .nil)) (cN hk rfl) (fun p hp=>hp) (fun h e s x=>hE e s ⟨(by rw[h1 h];intro h;injection h),.fly x⟩) fun k e=>?_;refine aM (h2 k e) fun c wres hc hf er=>?_;subst e;have hkl:=fj hsp;walk_at "w";refine aw W.O (oh g k (ae hkl (by decide)) c hc) (.inr hh) .nil (cN hk rfl) ?_;walk_at "w";refine Ig [341] (ρf:=Xj t r k c) (Zf:=Xk t r tab tr) W (cA W.O) (fun i s=>d4 s.1 (bW tab s.2.1)/\dO c s.1 (k.drop i) s.2.1=ac wres/\s.2.1.length<=i/\i<=k.length) (lk,[],_,_) (oX hs hf (a7 _) (a7 _)) rfl rfl ?_ ?_
 .intro B' P R i d s hd
  refine ar (dJ hd) fun x z1 hx=>?_;subst z1;have hxm:x∈k:=cF hx;have hik:=kK hx;revert s;refine Bj fun lk1 ws x1 x2 hI W' zz hk' hh' hm' hP hR=>?_;refine jW hI ?_;clear hI;intro hs1 hgo hlen zz;refine bU (Lz (mX hx▸hgo)) fun p n q e1 e2 e3 h4 h5=>?_;have hh2:=hh'.trans hh;have hk2:=hk'.trans hk;have htl:(bW tab ws).d.length<=2000:=by have:=lW tab ws;rw[dE.d,af];dsimp only at hlen;exact Yh hl hkl hik hlen this
  clear hgo;walk_at "w";refine oK (K:=aV) W'.O fun ca=>?_;walk_at "w";refine aw W'.O (og g hs1 x (nv hsp x hxm) p e1) (.inr hh2) (.skip (.take (.take .nil))) (cN hk2 rfl) ?_;walk_at "w";refine mn (c:=!p) (fun l=>(ca,.sdic (PV.dS l))::bz t r (bW tab ws) tr) [] [(aa "Parent",pZ x.above)] ?_ fun Q' zz hz=>?_;rotate_left
  .walk_at "w"
   cases hae:x.above.isEmpty with|true=>refine jB W' (b:=ai) (by rw[mM,hae]) ?_;walk_at "w";refine iM (mN _ .null []) .head (a7 _) ?_;walk_at "w";rw[GN hae] at hz;exact hz|false=>refine aM (I5 hae) fun a1 a2 f1 f2 f3=>?_;refine jB W' (b:=ak) (by rw[mM,hae]) ?_;walk_at "w";refine eh (by decide) (by decide) f3 f2 ?_ (fun zz zz=>rfl);walk_at "w";refine iM (mN _ (.ref a1 a2) []) .head (a7 _) ?_;walk_at "w";rw[f1] at hz;exact hz
  intro ch1 e6;have e6:ch1=Kb p (pZ x.above):=by rw[e6];cases p<;>rfl
  subst e6;walk_at "w";refine cw (K:=Int) (l:=rD c) (x:=.int n) (.inl rfl) (by rw[zC,e2];rfl) ?_ (fun zz zz=>rfl);walk_at "w";refine aw W'.O (pT g hs1 x n q e3) (.inr hh2) (.skip (.take (.take .nil))) (cN hk2 rfl) ?_;walk_at "w";refine mn (c:=!q) (fun l=>(ca,.sdic (PV.dS l))::bz t r (bW tab ws) tr) (Kb p (pZ x.above)) (Kb p (pZ x.above)++[(aa "Count",.int n)]) ?_ fun Q' zz hz=>?_;rotate_left
  .walk_at "w"
   refine cw (K:=Int) (l:=rD c) (x:=.int n) (.inl rfl) (by rw[zC,e2];rfl) ?_ (fun zz zz=>rfl);walk_at "w";refine iM (M3 _ _ _) .head (by rw[jX];unfold Kb;cases p<;>exact aj rfl) ?_;walk_at "w";exact hz
  intro ch e7;obtain rfl:ch=fV x p q n:=e7.trans (QO x p q n);have hcl:=Vb x p q n;walk_at "w";refine jr (K:=aV) W'.O ?_;walk_at "w";generalize fV x p q n=ch at h4 h5 hcl ⊢;cases ch with|nil=>refine qW (K:=aV) W' (l:=PV.dS []) (b:=ak) (.inr (bq ca rfl (.head _))) rfl ?_;walk_at "w";exact hP [_] (lk1,ws,_,_) (oX hs1 (h4 rfl) (mw hlen) hik)|cons ch0 chr=>refine qW (K:=aV) W' (l:=PV.dS (ch0::chr)) (b:=ai) (.inr (bq ca rfl (.head _))) rfl ?_;refine sM (h5 (by intro h;injection h)) ?_;(try clear h);intro hhl h ht h6;walk_at "w";refine WP.freeze1 (x:=aa "changes") .head rfl (iD rfl) (cH rfl) 0 (by rw[hm'];rfl) ?_;refine yM W' ?_;walk_at "v";refine aw W'.O (n8 g x.head (ch0::chr) hhl (ae hcl (by decide)) h ht) (.inr hh2) .nil (cN hk2 rfl) ?_;walk_at "w";refine aw W'.O (F7 g x.n x.k (.sdic (PV.dS h)) (by intro h;injection h) htl) (.inr hh2) (.take (.take .nil)) (cN hk2 rfl) ?_;walk_at "w";rw[show jp (bW tab ws).d x.n (.tup [.int x.k,.sdic (PV.dS h)])=(bW tab (ws++[(x.n,x.k,.dict h)])).d from by rw[vc,<-qU,PV.d]];exact hP [] (j0 lk1 x.n x.k (.dict h),ws++[(x.n,x.k,.dict h)],_,_) (oX (by rw[vc];exact xJ hs1 _ _ _) h6 (by rw[aS,bQ];exact b6 hlen) hik)
 .refine Bj fun lk1 ws x1 x2 hI=>?_
  have e:ws=wres:=by have:=hI.2.1;rw[eG (by rw[af];exact aI _)] at this;exact aB this
  walk_at "w";refine hQ _ _ _ (gM rfl ?_);exact nB (by rw[er];rfl) ws rfl (by rw[er,e]) rfl
end
noncomputable def fA(k:List bk):List (Int×Int):=(k.filter (·.page)).map fun s=>(s.n,s.k)
@[reducible] noncomputable def EA(p:Int×Int):DV:=.tup [.int p.1,.int p.2]
noncomputable def kX(p:Int×Int):fy:=.tuple [.int p.1,.int p.2]
noncomputable def YY(l:List (Int×Int))(p:Int×Int):Int:=if p∈l then(l.idxOf p:Nat) else -1
noncomputable def lC(k:List bk)(h:Option (Int×Int)):Int:=match h with|none=>-1|some p=>YY (fA k) p
theorem Bp(a b):a8 (kX a) (kX b)=decide (a=b):=by obtain⟨a1,a2⟩:=a;obtain⟨b1,b2⟩:=b;unfold kX;by_cases h1:a1=b1<;>by_cases h2:a2=b2<;>simp[a8,fZ,h1,h2]
theorem vj:∀l:List (Int×Int),Bn (l.map EA)=ac (l.map kX):=by intro p0_;induction p0_ with|nil=>exact rfl|cons p r ih=>rw[au,Bn,ih];rfl
theorem Ml{l:List (Int×Int)}(h:p∈l):(l.map fun y=>decide (y=p))[l.idxOf p]?=ac ai/\∀m,m<l.idxOf p->(l.map fun y=>decide (y=p))[m]?=ac ak:=by
 induction l with|nil=>cases h|cons x r ih=>
  rw[List.idxOf_cons,au];by_cases e:x=p
  .subst e
   simp
  .have hm:p∈r:=(ao.mp h).resolve_left fun q=>e q.symm
   refine aZ (ih hm) fun h1 h2=>?_;have eb:(x==p)=ak:=by simpa using e
   rw[eb];simp only[cond_false];refine⟨by simpa using h1,fun m hm=>?_⟩;cases m with|zero=>simp[e]|succ m=>simpa using h2 m (Yg hm)
theorem Gi(k):(fA k).length<=k.length:=by unfold fA;rw[af];exact dT _ _
theorem xQ(k p):(((fA k).map kX).any fun y=>a8 y (kX p))=decide (p∈fA k):=by rw[fk];have:(fun y=>a8 y (kX p))∘kX=fun y=>decide (y=p):=funext fun y=>Bp y p;rw[this,wN];simp
theorem xP(k p):((fA k).map kX).map (fun y=>a8 y (kX p))=(fA k).map fun y=>decide (y=p):=by rw[bS];exact bM fun y zz=>Bp y p
theorem vi(k):∀y∈(fA k).map kX,a6 y=ai:=fun y hy=>by refine ar (az.mp hy) fun q zz z1=>?_;subst z1;rfl
theorem Jo(h:p∈fA k):lC k (ac p)=((fA k).idxOf p:Nat):=if_pos h
theorem Jn(h:p∉fA k):lC k (ac p)=-1:=if_neg h
section
variable {ff : Bool}
theorem Ln(W:Wk G B gs ff)(H:mq G k f ds Zc res F)(hh:B.hd=ak)(P:nw Z Zc Zc Z)(hk:k<=B.k)(no:res=aq->∀e s,CE G B Y Z e s->E e s)(q:∀x,res=ac x->Q (F x) Y Z):cI G B E f ds Y Z Q:=by refine ar P.pick fun re a e=>?_;refine wy W.O H hh a hk (fun h=>no (by cases res with|none=>rfl|some x=>exact absurd rfl h)) fun zz d Z' h=>?_;refine bp h ?_;clear h;intro x e1 e2 e3;subst e2;subst e3;rw[e];exact q x e1
theorem vp{x:fy}(W:Wk G B gs ff)(P:pd d=ac x)(L:LS Z d' l)(hl:Bn l=ac xs)(hx:a6 x=ai)(hxs:∀y∈xs,a6 y=ai)(e:(xs.any fun y=>a8 y x)=b)(q:Q (.bool b) Y Z):O2 G B E (Is G.prog G.w) (bi .In) d d' Y Z Q:=Gp W.O P L hl hx hxs (by rw[e];exact q)
theorem RT{P:Prop}{Y':aP}{Z':Mu}{Q:Fl->aP->Mu->Prop}(W:Wk G B gs ff)(w:qb B)(hg:pY gs (aa "TreeFault")=ac d)(h:∀B_1 E_1,Wk G B_1 gs ff->B_1.k=B.k->B_1.hd=B.hd->B_1.m0=Z.map (·.1)->(∀e s,P/\CE G B_1 Y' Z' e s->E_1 e s)->(wI G B_1 E_1 gs ff [] 100).exs body Y Z Q)(hc:P->∀B',Wk G B' gs ak->B'.k=B.k->B'.hd=ai->B'.m0=Z'.map (·.1)->(wI G B' (fun zz zz=>False) gs ak [] 100).exs (b_0::suite) Y' Z' Q):EX G B E (fb (.Try body [.ExceptHandler (ac (.Name (aa "TreeFault") xp)) aq (b_0::suite) hp] [] [] pos) B.env) Y Z Q:=by
 refine My (P:=P) (Y':=Y') (Z':=Z') W.O w (v8 W.g).cls (dW W.g) (by simpa using aU.mp W.hk _ (iD hg).mem) (by decide +kernel) (fun B_1 O_1 he hk hh hm=>?_) fun hP B' O' he hk hh hm=>?_
 .have W_1:Wk G B_1 gs ff:=⟨O_1,fun h=>hh.trans (W.hf h),W.g,W.hg,he▸W.hk⟩
  exact(W_1.ok _).exs (h B_1 _ W_1 hk hh hm fun zz zz h=>h)
 .have W_1:Wk G B' gs ak:=⟨O',fun h=>by(injection h),W.g,W.hg,he▸W.hk⟩
  exact(W_1.ok _).exs (hc hP B' W_1 hk hh hm)
theorem LX(W:Wk G B gs ff)(D:LS Z d l)(h:(wI G B E gs ff [] 100).el pos args Y Z (tG (AC G B E (.builtin "list.index") [d] Q))):ny G B E (aa "index") pl pos args Q d Y Z:=kH D F.slot_list_index F.type_list_index (ie W h)
end
section
variable (g : dK G) {t r : aW} {lk : Lk}
include g
theorem kB(hs:d4 lk tab)(v k)(hk:cE lk tr=ac (ac k))(hres)(hh:fO lk 64 [] v=ac hres):ir G 7 (.ref 505) [bg t r,v.d] (bz t r tab tr) (fun d Z'=>d=.int (lC k hres)/\Z'=bz t r tab tr):=by
 refine mq.sure (res:=ac (lC k hres)) (F:=DV.int) ?_ rfl;have hkl:=fj hk;refine JS (ps:=[aa "shelf",aa "reference"]) (rest:=[aa "pairs",aa "pair"]) g rfl rfl rfl rfl rfl rfl (jL fun zz zz=>rfl) rfl (.cons (p6 g) (.cons (vS g) (.cons (dW g) .nil))) (by kernel_rfl) fun B E Q W w hkk hh0 hm henv hE hQ=>?_;walk_at "w";refine o6 (cl:=[]) W ⟨rfl,by decide +kernel,rfl,by decide +kernel⟩ rfl rfl (by rw[henv];kernel_rfl) ?_;clear henv;walk_at "w";refine aw W.O ((ng g hs (ac k) hk).sure rfl) (.inr hh0) (.take (.take .nil)) (cN hkk rfl) ?_;walk_at "w";refine ft W .nil (by kernel_rfl) (cA W.O) (by rw[af];exact ae (dT _ _) (ae hkl (by decide))) (fun i out Z=>out=((fA k).take i).map EA/\Z=bz t r tab tr) ⟨rfl,rfl⟩ ?_ ?_
 .intro B' P i d out Z2 hd hI W' hec hk' hh' zz hP
  refine aZ hI ?_;clear hI;intro e1 e2;subst e1;subst e2;refine ar (dJ hd) fun x z2 hx=>?_;subst z2;walk_at "w";refine aw W'.O (kn g x.n x.k) (.inr (hh'.trans hh0)) .nil (cN (hk'.trans hkk) rfl) ?_;walk_at "w";exact hP _ _ ⟨iV (k:=fA k) (f:=EA) (x:=(x.n,x.k)) (by unfold fA;rw[bj,hx];rfl),rfl⟩
 .intro out Z hI
  refine aZ hI ?_;clear hI;intro e1 e2;subst e1;subst e2;walk_at "w";rw[show(fA k).take ((k.filter (·.page)).map bk.d).length=fA k from bt (by unfold fA;rw[af,af];exact aI _)];refine RT (P:=hres=aq) (Y':=(aa "shelf",bg t r)::(aa "reference",v.d)::(aa "pairs",.lst ((fA k).map EA))::[(aa "pair",.any)]) (Z':=bz t r tab tr) W w rfl ?_ ?_
  .intro B1 E1 W1 hk1 hh1 hm1 hE1
   have hh2:=hh1.trans hh0;walk_at "w";refine Ln W1 (j6 g hs v hres hh) hh2 (.take (.take .nil)) (cN (hk1.trans hkk) rfl) (fun h e s x=>hE1 e s ⟨h,x⟩) fun p hp=>?_;obtain⟨n,m⟩:=p;subst hp;walk_at "w";refine aw W1.O (kn g n m) (.inr hh2) .nil (cN (hk1.trans hkk) rfl) ?_;walk_at "w";by_cases hmem:(n,m)∈fA k
   .refine vp W (x:=kX (n,m)) rfl (.inl rfl) (vj _) rfl (vi k) ((xQ k (n,m)).trans (decide_eq_true hmem)) ?_
    walk_at "w";refine LX W (.inl rfl) ?_;walk_at "w";refine aZ (Ml hmem) fun h1 h2=>?_;refine D1 W.O (.inl rfl) (x:=kX (n,m)) rfl (vj _) rfl (vi k) (j:=(fA k).idxOf (n,m)) (Ye hkl (List.idxOf_lt_length_of_mem hmem) (Gi k)) (by rw[xP];exact h1) (fun i hi=>by rw[xP];exact h2 i hi) ?_;walk_at "w";refine hQ _ _ _ (cS rfl ?_);exact nB rfl _ rfl (by rw[Jo hmem]) rfl
   .refine vp W (x:=kX (n,m)) rfl (.inl rfl) (vj _) rfl (vi k) ((xQ k (n,m)).trans (decide_eq_false hmem)) ?_
    walk_at "w";refine hQ _ _ _ (cS rfl ?_);exact nB rfl _ rfl (by rw[Jn hmem]) rfl
  .intro e B1 W1 hk1 hh1 hm1
   subst e;walk_at "w";refine hQ _ _ _ (cS rfl ?_);exact nB rfl _ rfl rfl rfl
end
noncomputable def l8:PV->aV|.null=>aa "null"|.bool _=>aa "truth"|.int _=>aa "int"|.name _=>aa "name"|.ref _ _=>aa "ref"|.arr _=>aa "array"|.dict _=>aa "dict"|.stream _=>aa "stream"
noncomputable def UF:Tg->aV|.none=>aa "null"|.bool=>aa "truth"|.int=>aa "int"|.name=>aa "name"|.ref=>aa "ref"|.lst=>aa "array"|.dic=>aa "dict"|.stream=>aa "stream"|_=>aa "null"
theorem mQ(v):l8 v=UF v.tg:=by cases v<;>rfl
theorem Gz(v:PV):mH v.tg=ak:=by cases v<;>rfl
theorem IW(v:PV):nY v.tg=ak:=by cases v<;>rfl
theorem Ir(h:eQ t=ai):t=.bool:=by cases t<;>first|rfl|injection h
theorem Lr(h:gt t=ai)(h0:eQ t=ak):t=.int:=by cases t<;>first|rfl|((first|(injection h;done)|cases h);done)|injection h0
theorem It(h:gI t=ai):t=.name:=by cases t<;>first|rfl|injection h
theorem Ip(h:fW t=ai):t=.lst:=by cases t<;>first|rfl|injection h
theorem Iq(h:dn t=ai):t=.dic:=by cases t<;>first|rfl|injection h
theorem CZ(h:iB t=ai):t=.stream:=by cases t<;>first|rfl|injection h
theorem w7(h:bw t=ai):t=.ref:=by cases t<;>first|rfl|injection h
theorem Io{v:PV}(h0:eQ v.tg=ak)(h1:gt v.tg=ak)(h3:gI v.tg=ak)(h5:fW v.tg=ak)(h6:dn v.tg=ak)(h7:iB v.tg=ak)(h8:bw v.tg=ak):¬v.isNull=ak:=by cases v<;>first|(intro h;cases h;done)|(cases h0;done)|(cases h1;done)|(cases h3;done)|(cases h5;done)|(cases h6;done)|(cases h7;done)|(injection h8;done)
noncomputable def iq(tab:dE):Nat->Int->Option Int|0,_=>aq|n+1,k=>if(tab.lk k).isSome then iq tab n (k+1) else ac k
theorem UU{k m:Int}(h:iq tab (n+1) k=ac m):((tab.lk k).isSome=ai->iq tab n (k+1)=ac m)/\((tab.lk k).isSome=ak->k=m):=⟨fun e=>(if_pos e).symm.trans h,fun e=>aB ((if_neg (by rw[e];decide)).symm.trans h)⟩
noncomputable def Vm(t r:aW)(v:PV)(k:Int):aP:=[(aa "self",bg t r),(aa "value",v.d),(aa "number",.int k)]
section
variable {ff : Bool}
theorem q8{b:Bool}(W:Wk G B gs ff)(h:yR d=ac t)(hc:(c=.type "bool"/\eQ t=b)\/(c=.type "int"/\gt t=b)\/(c=.ref 155/\mH t=b)\/(c=.ref 183/\gI t=b)\/(c=.ref 205/\nY t=b)\/(c=.type "list"/\fW t=b)\/(c=.type "dict"/\dn t=b)\/(c=.ref 226/\iB t=b)\/(c=.ref 254/\bw t=b))(q:Q (.bool b) Y Z):cI G B E (.builtin "isinstance") [d,.raw c] Y Z Q:=by
 rcases hc with⟨rfl,e⟩|⟨rfl,e⟩|⟨rfl,e⟩|⟨rfl,e⟩|⟨rfl,e⟩|⟨rfl,e⟩|⟨rfl,e⟩|⟨rfl,e⟩|⟨rfl,e⟩;.exact yc W.g W.O h e q
 .exact BI W.g W.O h e q
 .exact zJ W.g W.O h e q
 .exact yd W.g W.O h e q
 .exact BJ W.g W.O h e q
 .exact yb W.g W.O h e q
 .exact sB W.g W.O h e q
 .exact BK W.g W.O h e q
 .exact oE W.g W.O h e q
end
section
variable (g : dK G)
include g
theorem iO(v):g6 G 1 (.ref 265) [v.d] [] (fun d Z'=>d=.str (l8 v)/\Z'=[]):=by refine ey (ps:=[aa "value"]) (rest:=[]) g rfl rfl rfl rfl rfl rfl (gA fun zz=>rfl) rfl (.cons (cT g) (.cons (un g) (.cons (vR g) (.cons (vV g) (.cons (mU g) (.cons (yi g) (.cons (zT g) (.cons (jC g) (.cons (sH g) (.cons (dX g) .nil)))))))))) (by kernel_rfl) fun B Q W hk hh hm hQ=>?_;walk_at "w";refine gZ (fB v) ?_;cases hn:v.isNull with|true=>walk_at "w";exact hQ _ _ _ (cS rfl ⟨by rw[to hn];rfl,rfl⟩)|false=>walk_at "w";refine q8 W (PV.tgd v) (b:=eQ v.tg) (.inl ⟨rfl,rfl⟩) ?_;cases h0:eQ v.tg with|true=>walk_at "w";exact hQ _ _ _ (cS rfl ⟨by rw[mQ,Ir h0];rfl,rfl⟩)|false=>walk_at "w";refine q8 W (PV.tgd v) (b:=gt v.tg) (.inr (.inl ⟨rfl,rfl⟩)) ?_;cases h1:gt v.tg with|true=>walk_at "w";exact hQ _ _ _ (cS rfl ⟨by rw[mQ,Lr h1 h0];rfl,rfl⟩)|false=>walk_at "w";refine q8 W (PV.tgd v) (b:=ak) (.inr (.inr (.inl ⟨rfl,Gz v⟩))) ?_;walk_at "w";refine q8 W (PV.tgd v) (b:=gI v.tg) (.inr (.inr (.inr (.inl ⟨rfl,rfl⟩)))) ?_;cases h3:gI v.tg with|true=>walk_at "w";exact hQ _ _ _ (cS rfl ⟨by rw[mQ,It h3];rfl,rfl⟩)|false=>walk_at "w";refine q8 W (PV.tgd v) (b:=ak) (.inr (.inr (.inr (.inr (.inl ⟨rfl,IW v⟩))))) ?_;walk_at "w";refine q8 W (PV.tgd v) (b:=fW v.tg) (.inr (.inr (.inr (.inr (.inr (.inl ⟨rfl,rfl⟩)))))) ?_;cases h5:fW v.tg with|true=>walk_at "w";exact hQ _ _ _ (cS rfl ⟨by rw[mQ,Ip h5];rfl,rfl⟩)|false=>walk_at "w";refine q8 W (PV.tgd v) (b:=dn v.tg) (.inr (.inr (.inr (.inr (.inr (.inr (.inl ⟨rfl,rfl⟩))))))) ?_;cases h6:dn v.tg with|true=>walk_at "w";exact hQ _ _ _ (cS rfl ⟨by rw[mQ,Iq h6];rfl,rfl⟩)|false=>walk_at "w";refine q8 W (PV.tgd v) (b:=iB v.tg) (.inr (.inr (.inr (.inr (.inr (.inr (.inr (.inl ⟨rfl,rfl⟩)))))))) ?_;cases h7:iB v.tg with|true=>walk_at "w";exact hQ _ _ _ (cS rfl ⟨by rw[mQ,CZ h7];rfl,rfl⟩)|false=>walk_at "w";refine q8 W (PV.tgd v) (b:=bw v.tg) (.inr (.inr (.inr (.inr (.inr (.inr (.inr (.inr (⟨rfl,rfl⟩))))))))) ?_;cases h8:bw v.tg with|true=>walk_at "w";exact hQ _ _ _ (cS rfl ⟨by rw[mQ,w7 h8];rfl,rfl⟩)|false=>exact absurd hn (Io h0 h1 h3 h5 h6 h7 h8)
theorem qP(v n)(hn:iq tab 64 1=ac n)(hl:tab.length<=900):ir G 3 (.ref 339) [bg t r,v.d] (bz t r tab tr) (fun d Z'=>d=ij n 0/\Z'=bz t r (cQ tab n 0 v) tr):=by
 refine ey (ps:=[aa "self",aa "value"]) (rest:=[aa "number"]) g rfl rfl rfl rfl rfl rfl (jL fun zz zz=>rfl) rfl (.cons (dX g) .nil) (by kernel_rfl) fun B Q W hk hh hm hQ=>?_;walk_at "w";refine yL (ρf:=Vm t r v) (Zf:=fun zz=>bz t r tab tr) (Yj:=Vm t r v) (Zj:=fun zz=>bz t r tab tr) W (fun m k=>iq tab m k=ac n) (fun k=>k=n) 64 1 hn ?_ ?_
 .intro P R m k hf hP hJ hR
  cases m with|zero=>injection hf|succ m=>refine aZ (UU hf) fun h1 h2=>?_;walk_at "w";refine qr (K:=Int) (l:=tab.d) (b:=(tab.lk k).isSome) (.inr (bq t rfl (.head _))) (by rw[dE.lkD,FF]) ?_;cases hc:(tab.lk k).isSome with|true=>walk_at "w";exact hP m (k+1) (c8 _) (h1 hc)|false=>walk_at "w";exact hJ k (h2 hc)
 .intro k e
  subst e;walk_at "w";refine pb (qU tab k 0 v) .head (by rw[dE.d,af];exact ae hl (by decide)) ?_;walk_at "w";refine aw W.O (dN g k 0) (.inl rfl) .nil (cN hk rfl) ?_;walk_at "w";exact hQ _ _ _ (cS rfl ⟨rfl,rfl⟩)
end
noncomputable def xZ:PV->Bool|.arr _=>ak|.dict _=>ak|.stream _=>ak|_=>ai
theorem dp{a b:aV}(O:B.Ok G)(ha:a6 (.str a)=ai)(hb:a6 (.str b)=ai)(r)(hr:decide (a=b)=r)(q:Q (.bool r) Y Z):O2 G B E (Is G.prog G.w) (bi .Eq) (.str a) (.str b) Y Z Q:=by
 refine Bs O (x:=.str a) (y:=.str b) (.inl rfl) (.inl rfl) ha hb ?_;have e:a8 (.str a) (.str b)=decide (a=b):=by
  by_cases h:a=b;.simp[a8,h]
  .simp[a8,h]
 rw[e,hr];exact q
theorem cR(v):a6 (.str (l8 v))=ai:=by cases v<;>(dsimp only[l8];decide +kernel)
theorem zE(v):decide (l8 v=aa "array")=(match v with|.arr _=>ai|_=>ak)/\decide (l8 v=aa "dict")=(match v with|.dict _=>ai|_=>ak)/\decide (l8 v=aa "stream")=(match v with|.stream _=>ai|_=>ak):=by
 cases v;.exact(by decide +kernel:decide (aa "null" = aa "array")=ak/\decide (aa "null" = aa "dict")=ak/\decide (aa "null" = aa "stream")=ak)
 .exact(by decide +kernel:decide (aa "truth" = aa "array")=ak/\decide (aa "truth" = aa "dict")=ak/\decide (aa "truth" = aa "stream")=ak)
 .exact(by decide +kernel:decide (aa "int" = aa "array")=ak/\decide (aa "int" = aa "dict")=ak/\decide (aa "int" = aa "stream")=ak)
 .exact(by decide +kernel:decide (aa "name" = aa "array")=ak/\decide (aa "name" = aa "dict")=ak/\decide (aa "name" = aa "stream")=ak)
 .exact(by decide +kernel:decide (aa "ref" = aa "array")=ak/\decide (aa "ref" = aa "dict")=ak/\decide (aa "ref" = aa "stream")=ak)
 .exact(by decide +kernel:decide (aa "array" = aa "array")=ai/\decide (aa "array" = aa "dict")=ak/\decide (aa "array" = aa "stream")=ak)
 .exact(by decide +kernel:decide (aa "dict" = aa "array")=ak/\decide (aa "dict" = aa "dict")=ai/\decide (aa "dict" = aa "stream")=ak)
 .exact(by decide +kernel:decide (aa "stream" = aa "array")=ak/\decide (aa "stream" = aa "dict")=ak/\decide (aa "stream" = aa "stream")=ai)
theorem R1{x d:α}(h:[x][i]?=ac d):i=0/\d=x:=by cases i with|zero=>(injection h with h;subst h);exact⟨rfl,rfl⟩|succ n=>injection h
theorem L6(h:xZ v=ai):decide (l8 v=aa "array")=ak/\decide (l8 v=aa "dict")=ak/\decide (l8 v=aa "stream")=ak:=by refine jK (zE v) fun h1 h2 h3=>?_;rw[h1,h2,h3];cases v<;>first|exact(jR rfl rfl rfl)|injection h
section
variable (g : dK G)
include g
theorem r9(v)(h:xZ v=ai):ir G 2 (.ref 282) [v.d] [] (fun d Z'=>d=v.d/\Z'=[]):=by
 refine iW (Y0:=[(aa "kind",.any)]) (Yc:=[v.d]) (ps:=[aa "value"]) (Z1:=fun L=>[(L+1,.cell (v.d))]) g rfl rfl rfl rfl rfl (gA fun zz=>rfl) (.cons (kL g) (.cons (jC g) .nil)) (.inr (by kernel_rfl)) (by decide +kernel) ⟨rfl,fun n x hx=>(by cases ap.mp hx;exact .inr ⟨rfl,rfl⟩),fun p hp=>(by cases ap.mp hp;exact⟨rfl,fun h=>absurd rfl h⟩),fun n p hp=>(by cases ap.mp hp;exact(jR rfl rfl (fun zz=>bo))),by decide⟩ (fun zz=>rfl) fun B Q W hk hh hm henv hQ=>?_;have hcs:df B.env (aa "value") (B.L+1):=by rw[henv];exact⟨rfl,rfl⟩
 walk_at "w";refine bD W hcs (.head _) (PV.d_any _) (by decide +kernel) ?_;walk_at "w";refine aw W.O (iO g (v)) (.inl rfl) .nil (cN hk rfl) ?_;walk_at "w";refine jK (L6 h) fun h1 h2 h3=>?_;refine dp W.O (cR _) (by decide +kernel) ak h1 ?_;walk_at "w";refine dp W.O (cR _) (by decide +kernel) ak h2 ?_;walk_at "w";refine dp W.O (cR _) (by decide +kernel) ak h3 ?_;walk_at "w";refine bD W hcs (.head _) (PV.d_any _) (by decide +kernel) ?_;walk_at "w";exact hQ _ _ _ (kM rfl ⟨rfl,rfl⟩)
theorem tS(l)(h:l.all xZ=ai)(hl:l.length<=900):ir G 3 (.ref 282) [(PV.arr l).d] [] (fun d Z'=>d=(PV.arr l).d/\Z'=[]):=by
 refine iW (Y0:=[(aa "kind",.any)]) (Yc:=[PV.d (.arr l)]) (ps:=[aa "value"]) (Z1:=fun L=>[(L+1,.cell (PV.d (.arr l)))]) g rfl rfl rfl rfl rfl (gA fun zz=>rfl) (.cons (kL g) (.cons (jC g) .nil)) (.inr (by kernel_rfl)) (by decide +kernel) ⟨rfl,fun n x hx=>(by cases ap.mp hx;exact .inr ⟨rfl,rfl⟩),fun p hp=>(by cases ap.mp hp;exact⟨rfl,fun h=>absurd rfl h⟩),fun n p hp=>(by cases ap.mp hp;exact(jR rfl rfl (fun zz=>bo))),by decide⟩ (fun zz=>rfl) fun B Q W hk hh hm henv hQ=>?_;have hcs:df B.env (aa "value") (B.L+1):=by rw[henv];exact⟨rfl,rfl⟩
 walk_at "w";refine bD W hcs (.head _) (PV.d_any _) (by decide +kernel) ?_;walk_at "w";refine aw W.O (iO g (.arr l)) (.inl rfl) .nil (cN hk rfl) ?_;walk_at "w";refine dp W.O (cR _) (by decide +kernel) ai (zE (.arr l)).1 ?_;walk_at "w";refine ig (cl:=[]) W ⟨by rw[henv];rfl,by decide +kernel,rfl,by decide +kernel⟩ rfl rfl ?_;clear henv;walk_at "w";refine bD W hcs (.head _) (PV.d_any _) (by decide +kernel) ?_;walk_at "w";have e:PV.d (.arr l)=.lst (l.map PV.d):=by rw[PV.d,oO]
 refine ft W (ds:=l.map PV.d) (.cons (sG g) .nil) (by kernel_rfl) (by rw[e];exact cA W.O) (by rw[af];exact ae hl (by decide)) (fun i out Z=>out=(l.take i).map PV.d/\Z=[(B.L+1,.cell (PV.d (.arr l)))]) ⟨rfl,rfl⟩ ?_ ?_
 .intro B' P i d out Z2 hd hI W' hec hk' hh' zz hP
  refine aZ hI ?_;clear hI;intro e1 e2;subst e1;subst e2;refine ar (dJ hd) fun x z1 hx=>?_;subst z1;walk_at "w";refine aw W'.O (r9 g x (aU.mp h x (cF hx))) (.inr (hh'.trans hh)) .nil (cN (hk'.trans hk) rfl) ?_;walk_at "w";exact hP _ _ ⟨iV hx,rfl⟩
 .intro out Z hI
  refine aZ hI ?_;clear hI;intro e1 e2;subst e1;subst e2;walk_at "w";exact hQ _ _ _ (kM rfl ⟨by rw[nZ,e],rfl⟩)
theorem sb(key l)(h:l.all xZ=ai)(hl:l.length<=900):ir G 4 (.ref 282) [(PV.dict [(key,.arr l)]).d] [] (fun d Z'=>d=(PV.dict [(key,.arr l)]).d/\Z'=[]):=by
 refine iW (Y0:=[(aa "kind",.any)]) (Yc:=[PV.d (.dict [(key,.arr l)])]) (ps:=[aa "value"]) (Z1:=fun L=>[(L+1,.cell (PV.d (.dict [(key,.arr l)])))]) g rfl rfl rfl rfl rfl (gA fun zz=>rfl) (.cons (kL g) (.cons (jC g) .nil)) (.inr (by kernel_rfl)) (by decide +kernel) ⟨rfl,fun n x hx=>(by cases ap.mp hx;exact .inr ⟨rfl,rfl⟩),fun p hp=>(by cases ap.mp hp;exact⟨rfl,fun h=>absurd rfl h⟩),fun n p hp=>(by cases ap.mp hp;exact(jR rfl rfl (fun zz=>bo))),by decide⟩ (fun zz=>rfl) fun B Q W hk hh hm henv hQ=>?_;have hcs:df B.env (aa "value") (B.L+1):=by rw[henv];exact⟨rfl,rfl⟩
 walk_at "w";refine bD W hcs (.head _) (PV.d_any _) (by decide +kernel) ?_;walk_at "w";refine aw W.O (iO g (.dict [(key,.arr l)])) (.inl rfl) .nil (cN hk rfl) ?_;walk_at "w";refine jK (zE (.dict [(key,.arr l)])) fun k1 k2 zz=>?_;refine dp W.O (cR _) (by decide +kernel) ak k1 ?_;walk_at "w";refine dp W.O (cR _) (by decide +kernel) ai k2 ?_;walk_at "w";refine ig (cl:=[(aa "value",B.L+1)]) W ⟨by rw[henv];rfl,by decide +kernel,rfl,by decide +kernel⟩ rfl rfl ?_;walk_at "w";refine bD W hcs (.head _) (PV.d_any _) (by decide +kernel) ?_;walk_at "w";have e:PV.d (.dict [(key,.arr l)])=.sdic [(key,PV.d (.arr l))]:=by simp only[PV.d,PV.dS]
 refine ft W (ds:=[.str key]) (.cons (sG g) .nil) (by kernel_rfl) (by rw[e];exact ya W.O hh) (aj rfl) (fun i out Z=>out=[DV.tup [.str key,PV.d (.arr l)]].take i/\Z=[(B.L+1,.cell (PV.d (.dict [(key,.arr l)])))]) ⟨rfl,rfl⟩ ?_ ?_
 .intro B' P i d out Z2 hd hI W' hec hk' hh' zz hP
  refine aZ hI ?_;clear hI;intro e1 e2;subst e1;subst e2;refine aZ (R1 hd) fun z2 z3=>?_;subst z2;subst z3;have hcc:df B'.env (aa "value") (B.L+1):=by rw[hec,henv];exact⟨rfl,rfl⟩
  clear hec henv;walk_at "w";refine bD W' hcc (.head _) (PV.d_any _) (by decide +kernel) ?_;walk_at "w";refine cw (K:=aV) (l:=[(key,PV.d (.arr l))]) (x:=PV.d (.arr l)) (.inl e) (by unfold kr;simp) ?_ (fun zz zz=>rfl);walk_at "w";refine aw W'.O (tS g l h hl) (.inr (hh'.trans hh)) .nil (cN (hk'.trans hk) rfl) ?_;walk_at "w";exact hP _ _ ⟨rfl,rfl⟩
 .intro out Z hI
  refine aZ hI ?_;clear hI;intro e1 e2;subst e1;subst e2;walk_at "w";refine ue W.O hh ?_;walk_at "w";exact hQ _ _ _ (kM rfl ⟨e.symm,rfl⟩)
end
noncomputable def Mo(l:List DV)(width:Int):List DV:=(dF (((l.length:Int)+width-1).fdiv width).toNat).map fun(i:Nat)=>.lst (Bl l (ac (((i:Int)*l.length).fdiv (((l.length:Int)+width-1).fdiv width))) (ac ((((i:Int)+1)*l.length).fdiv (((l.length:Int)+width-1).fdiv width))))
section
variable (g : dK G)
include g
theorem yY(l width)(hl:l.length<=900)(h0:0<width)(h1:width<=900)(hm0:0<((l.length:Int)+width-1).fdiv width)(hm1:((l.length:Int)+width-1).fdiv width<=900):ir G 1 (.ref 552) [.lst l,.int width] [] (fun d Z'=>d=.lst (Mo l width)/\Z'=[]):=by
 unfold Mo;generalize hmm:((l.length:Int)+width-1).fdiv width=many at hm0 hm1 ⊢;refine iW (Y0:=[(aa "width",.int width)]) (Yc:=[.any,.lst l]) (ps:=[aa "parts",aa "width"]) (Z1:=fun L=>[(L+1+1,.cell .any),(L+1,.cell (.lst l))]) g rfl rfl rfl rfl rfl (jL fun zz zz=>rfl) (.cons (qy g) (.cons (ri g) .nil)) (.inr (by kernel_rfl)) (by decide +kernel)
  ⟨rfl,fun n x hx=>(by
   rcases ao.mp hx with rfl|hx;.exact .inr ⟨rfl,rfl⟩
   .cases ap.mp hx
    exact .inl rfl),fun p hp=>(by cases ap.mp hp;exact⟨rfl,fun h=>.tail _ (.head _)⟩),fun n p hp=>(by
   rcases ao.mp hp with rfl|hp;.exact jR rfl rfl (fun h=>absurd rfl h)
   .cases ap.mp hp
    exact(jR rfl rfl (fun zz=>bo))),av.mpr ⟨cf,xB⟩⟩ (fun zz=>rfl) fun B Q W hk hh hm henv hQ=>?_
 have hc1:df B.env (aa "parts") (B.L+1):=by rw[henv];exact⟨rfl,rfl⟩
 have hc2:df B.env (aa "many") (B.L+1+1):=by rw[henv];exact⟨rfl,rfl⟩
 walk_at "w";refine oJ (c:=B.L+1+1) W.O ?_ rfl;walk_at "w";refine bD W hc1 (.tail _ (.head _)) (by intro h;injection h) (by decide +kernel) ?_;walk_at "w";refine oR (.inl rfl) (ae hl (by decide)) ?_;walk_at "w";refine pn (xg h0) (Pf h0 h1) ?_;rw[hmm];walk_at "w";refine bO _ _ hc2 .head ?_;walk_at "w";refine ig (cl:=[(aa "parts",B.L+1),(aa "many",B.L+1+1)]) W ⟨by rw[henv];rfl,by decide +kernel,rfl,by decide +kernel⟩ rfl rfl ?_;walk_at "w";refine bD W hc2 (.head _) (by intro h;injection h) (by decide +kernel) ?_;walk_at "w";refine mY W.O fun ra=>?_;walk_at "w";refine ft W (.cons (qy g) .nil) (by kernel_rfl) (mR W.O hh (Qp hm1 rfl) (Yd hm0)) (by rw[af,dG];exact Yb hm1) (fun i out Z=>out=(dF i).map (fun(i:Nat)=>DV.lst (Bl l (ac (((i:Int)*l.length).fdiv many)) (ac ((((i:Int)+1)*l.length).fdiv many))))/\i<=many.toNat/\Z=[(B.L+1+1,.cell (.int many)),(B.L+1,.cell (.lst l))]) (jR rfl (a7 _) rfl) ?_ ?_
 .intro B' P i d out Z2 hd hI W' hec hk' hh' zz hP
  refine jK hI ?_;clear hI;intro e1 hi e2;subst e1;subst e2;refine ar (dJ hd) fun x z1 hx=>?_;subst z1;have hi2:i<many.toNat:=by simpa using kK hx
  obtain rfl:x=i:=by rw[FL hi2] at hx;exact(aB hx).symm
  have hcp:df B'.env (aa "parts") (B.L+1):=by rw[hec,henv];exact⟨rfl,rfl⟩
  have hcm:df B'.env (aa "many") (B.L+1+1):=by rw[hec,henv];exact⟨rfl,rfl⟩
  clear hec henv;have hsm:∀y:Int,0<=y->y<=901->W7 y (l.length:Int):=fun y a b=>jH (X9 a b);walk_at "w";refine bD W' hcp (.tail _ (.head _)) (by intro h;injection h) (by decide +kernel) ?_;walk_at "w";refine BZ W'.O ?_;walk_at "w";refine bD W' hcp (.tail _ (.head _)) (by intro h;injection h) (by decide +kernel) ?_;walk_at "w";refine oR (.inl rfl) (ae hl (by decide)) ?_;walk_at "w";refine so (hsm _ (cb _) (X8 hm1 hi)) ?_;walk_at "w";refine bD W' hcm (.head _) (by intro h;injection h) (by decide +kernel) ?_;walk_at "w";refine pn (xg hm0) (Pf hm0 hm1) ?_;walk_at "w";refine bq _ rfl ?_;walk_at "w";refine bD W' hcp (.tail _ (.head _)) (by intro h;injection h) (by decide +kernel) ?_;walk_at "w";refine oR (.inl rfl) (ae hl (by decide)) ?_;walk_at "w";refine so (hsm _ (X7) (X6 hm1 hi)) ?_;walk_at "w";refine bD W' hcm (.head _) (by intro h;injection h) (by decide +kernel) ?_;walk_at "w";refine pn (xg hm0) (Pf hm0 hm1) ?_;walk_at "w";refine bq _ rfl (fun sa=>?_);walk_at "w";refine qi W'.O (.inl rfl) (ae hl (by decide)) ?_ (fun zz zz=>⟨_,rfl⟩);walk_at "w";exact hP _ _ (jR (by rw[K6,aA];rfl) hi2 rfl)
 .intro out Z hI
  refine jK hI ?_;clear hI;intro e1 hi e2;subst e1;subst e2;walk_at "w";exact hQ _ _ _ (U2 rfl ⟨by rw[af,dG],rfl⟩)
end
noncomputable def xN(l:List α)(lo hi:Option Int):List α:=(uw (fG lo hi aq l.length).1 (fG lo hi aq l.length).2.1 (fG lo hi aq l.length).2.2).filterMap (l[·]?)
theorem sn(f)(l:List α)(lo hi):Bl (l.map f) lo hi=(xN l lo hi).map f:=by
 unfold Bl xN;rw[af,List.map_filterMap];congr 1
 funext j
 rw[bj]
@[reducible] noncomputable def sq(n:Int):DV:=ij n 0
noncomputable def Dr(l:List Int):PV:=.arr (l.map fun n=>.ref n 0)
theorem BF(l):(Dr l).d=.lst (l.map sq):=by unfold Dr;rw[PV.d,oO,bS];congr 1
noncomputable def Ih(x:String):aV×PV:=(aa "Type",.name (aa x))
noncomputable def gY(l:List Int):List (aV×PV):=[Ih "Pages",(aa "Kids",Dr l)]
noncomputable def pW(n:Nat)(w:Int):Int:=((n:Int)+w-1).fdiv w
noncomputable def lh(l:List Int)(w:Int):List (List Int):=(dF (pW l.length w).toNat).map fun(i:Nat)=>xN l (ac (((i:Int)*l.length).fdiv (pW l.length w))) (ac ((((i:Int)+1)*l.length).fdiv (pW l.length w)))
theorem Jv(l w):Mo (l.map sq) w=(lh l w).map fun x=>.lst (x.map sq):=by unfold Mo lh pW;rw[af,bS];refine bM fun i zz=>?_;simp only[ej];rw[sn]
noncomputable def eM:dE->List PV->Option (dE×List Int)|tab,[]=>ac (tab,[])|tab,v::r=>if 800<tab.length then aq else match iq tab 64 1 with|none=>aq|some n=>(eM (cQ tab n 0 v) r).map fun p=>(p.1,n::p.2)
theorem wC{tab}:eM tab []=(ac (tab,[])):=rfl
theorem wB{tab v r}:eM tab (v::r)=(if 800<tab.length then aq else match iq tab 64 1 with|none=>aq|some n=>(eM (cQ tab n 0 v) r).map fun p=>(p.1,n::p.2)):=rfl
noncomputable def k8:Nat->dE->List Int->Int->Option (dE×List Int)
 |0,_,_,_=>aq|n+1,tab,l,w=>if(l.length:Int)>w then if 900<l.length\/pW l.length w<=0\/900<pW l.length w then aq else match eM tab ((lh l w).map fun x=>.dict (gY x)) with
   |none=>aq|some (t',l')=>k8 n t' l' w
  else ac (tab,l)
noncomputable def l6(tab:dE):Lk:=fun k=>ac (tab.lk k)
theorem jq(tab):d4 (l6 tab) tab:=fun k r e=>aB e
noncomputable def th(at_:Int):List (aV×PV):=[(aa "MediaBox",.arr [.int 0,.int 0,.int 9,.int at_])]
noncomputable def zm:List (aV×PV):=[Ih "Page",(aa "Parent",.null)]
noncomputable def Fk(root:Int):List (aV×PV):=[Ih "Catalog",(aa "Pages",.ref root 0)]
noncomputable def fh(f:α->Option β):List α->Option (List β)|[]=>ac []|x::r=>match f x with|none=>aq|some y=>(fh f r).map fun l=>y::l
theorem q0(f:α->Option β){x r}:fh f (x::r)=(match f x with|none=>aq|some y=>(fh f r).map fun l=>y::l):=rfl
noncomputable def eJ(ats:List Int)(w:Int):Option (dE×List (aV×PV)×Int):=match fh (fun a=>gH (th a) zm) ats with|none=>aq|some vs=>match eM [] (vs.map .dict) with|none=>aq|some (t1,l1)=>match k8 20 t1 l1 w with|none=>aq|some (t2,l2)=>if 800<t2.length then aq else match iq t2 64 1 with|none=>aq|some root=>match gH [] (Fk root) with|none=>aq|some h=>match iq (cQ t2 root 0 (.dict (gY l2))) 64 1 with|none=>aq|some c=>match iQ (l6 (cQ (cQ t2 root 0 (.dict (gY l2))) c 0 (.dict h))) (eH [] (aa "Root") (.ref c 0)) with|some (ac ws)=>ac (bW (cQ (cQ t2 root 0 (.dict (gY l2))) c 0 (.dict h)) ws,eH [] (aa "Root") (.ref c 0),root)|_=>aq
theorem pp:∀{l:List α}{r:List β},fh f l=ac r->∀{i:Nat}{x:α},l[i]?=ac x->∃y,f x=ac y/\r[i]?=ac y:=by
 intro p0_;induction p0_ with
 |nil=>intro r h i x hx;simp at hx
 |cons a l ih=>intro r h i x hx;(first|rw[mapO_e0] at h|rw[q0] at h|unfold fh at h);cases hf:f a with|none=>rw[hf] at h;injection h|some y=>rw[hf] at h;refine ar (aD.mp h) fun q hq z1=>?_;subst z1;cases i with|zero=>(injection hx with hx;subst hx);exact bq y hf rfl|succ i=>exact ih hq hx
theorem l5:∀{l:List α}{r:List β},fh f l=ac r->r.length=l.length:=by
 intro p0_;induction p0_ with
 |nil=>intro r h;(injection h with h;subst h);rfl
 |cons a l ih=>intro r h;(first|rw[mapO_e0] at h|rw[q0] at h|unfold fh at h);cases hf:f a with|none=>rw[hf] at h;injection h|some y=>rw[hf] at h;refine ar (aD.mp h) fun q hq z2=>?_;subst z2;rw[cK,cK,ih hq]
theorem rJ{vs:List PV}{ns:List Int}{v:PV}(h:eM tab (vs.drop i)=ac (tabF,ns.drop i))(hv:vs[i]?=ac v):∃n,tab.length<=800/\iq tab 64 1=ac n/\ns[i]?=ac n/\eM (cQ tab n 0 v) (vs.drop (i+1))=ac (tabF,ns.drop (i+1)):=by
 rw[mX hv] at h;(first|rw[wC] at h|rw[wB] at h|unfold eM at h);by_cases hl:800<tab.length;.rw[if_pos hl] at h;injection h
 rw[if_neg hl] at h;cases hf:iq tab 64 1 with|none=>rw[hf] at h;injection h|some n=>
  rw[hf] at h;refine ar (aD.mp h) fun p hp e=>?_;injection e with e1 e2;subst e1;have hn:ns[i]?=ac n:=by
   have:(ns.drop i)[0]?=ac n:=by rw[<-e2];rfl
   rwa[List.getElem?_drop,Nat.add_zero] at this
  refine qc n (b7 hl) rfl hn ?_;rw[mX hn] at e2;injection e2 with _ e2;rw[hp,<-e2]
theorem Cp{ns:List Int}{vs:List PV}(h:eM tab (vs.drop vs.length)=ac (tabF,ns.drop vs.length)):tab=tabF/\ns.length<=vs.length:=by rw[List.drop_length] at h;(first|rw[wC] at h|rw[wB] at h|unfold eM at h);injection h with h;injection h with h1 h2;exact⟨h1,List.drop_eq_nil_iff.mp h2.symm⟩
theorem gf.sureOf{ok:Prop}(hok:ok)(h:jf G k f ds Z R ok):ir G k f ds Z R:=fun A V s vs a b c d e f=>dP (h A V s vs a b c d e f) (oY.mono (fun r s' z3=>bl z3 fun d Z' V' x y z=>(i0 d Z' V' x y z.2)) fun e s' x=>x.1 hok)
structure Q9 (ats:List Int) (w:Int) (tabF:dE) (trF:List (aV×PV)) (root:Int) (vs:List (List (aV×PV))) (t1 t2:dE) (l1 l2:List Int) (h:List (aV×PV)) (c:Int) (ws:Wr):Prop where
 turn:fh (fun a=>gH (th a) zm) ats=ac vs
 add:eM [] (vs.map .dict)=ac (t1,l1)
 lev:k8 20 t1 l1 w=ac (t2,l2)
 len:t2.length<=800
 rt:iq t2 64 1=ac root
 cat:gH [] (Fk root)=ac h
 free:iq (cQ t2 root 0 (.dict (gY l2))) 64 1=ac c
 set:iQ (l6 (cQ (cQ t2 root 0 (.dict (gY l2))) c 0 (.dict h))) (eH [] (aa "Root") (.ref c 0))=ac (ac ws)
 tab:tabF=bW (cQ (cQ t2 root 0 (.dict (gY l2))) c 0 (.dict h)) ws
 tr:trF=eH [] (aa "Root") (.ref c 0)
theorem QQ{w root:Int}(hb:eJ ats w=ac (tabF,trF,root)):∃vs t1 t2 l1 l2 h c ws,Q9 ats w tabF trF root vs t1 t2 l1 l2 h c ws:=by
 unfold eJ at hb;cases hvs:fh (fun a=>gH (th a) zm) ats with|none=>rw[hvs] at hb;injection hb|some vs=>
 rw[hvs] at hb;dsimp only at hb;cases ha:eM [] (vs.map .dict) with|none=>rw[ha] at hb;injection hb|some p1=>
 obtain⟨t1,l1⟩:=p1;rw[ha] at hb;dsimp only at hb;cases hlv:k8 20 t1 l1 w with|none=>rw[hlv] at hb;injection hb|some p2=>
 obtain⟨t2,l2⟩:=p2;rw[hlv] at hb;dsimp only at hb;by_cases ht2:800<t2.length;.rw[if_pos ht2] at hb;injection hb
 rw[if_neg ht2] at hb;cases hf1:iq t2 64 1 with|none=>rw[hf1] at hb;injection hb|some n1=>
 rw[hf1] at hb;dsimp only at hb;cases hth:gH [] (Fk n1) with|none=>rw[hth] at hb;injection hb|some h=>
 rw[hth] at hb;dsimp only at hb;cases hf2:iq (cQ t2 n1 0 (.dict (gY l2))) 64 1 with|none=>rw[hf2] at hb;injection hb|some c=>
 rw[hf2] at hb;dsimp only at hb;cases hse:iQ (l6 (cQ (cQ t2 n1 0 (.dict (gY l2))) c 0 (.dict h))) (eH [] (aa "Root") (.ref c 0)) with|none=>rw[hse] at hb;injection hb|some sr=>
 rw[hse] at hb;cases sr with|none=>injection hb|some ws=>
 dsimp only at hb;injection hb with hb;injection hb with e1 hb;injection hb with e2 e3;subst e3;exact⟨vs,t1,t2,l1,l2,h,c,ws,hvs,ha,hlv,b7 ht2,hf1,hth,hf2,hse,e1.symm,e2.symm⟩
theorem Pu{w:Int}(h:k8 (n+1) tab l w=ac (t2,l2)):((l.length:Int)>w->l.length<=900/\0<pW l.length w/\pW l.length w<=900/\∃t' l',eM tab ((lh l w).map fun x=>.dict (gY x))=ac (t',l')/\k8 n t' l' w=ac (t2,l2))/\(¬(l.length:Int)>w->tab=t2/\l=l2):=by
 refine⟨fun hc=>?_,fun hc=>?_⟩
 .have h:=(if_pos hc).symm.trans h
  by_cases hbad:900<l.length\/pW l.length w<=0\/900<pW l.length w;.cases(if_pos hbad).symm.trans h
  .have h:=(if_neg hbad).symm.trans h
   refine oX (by exact X5 hbad) (by exact X4 hbad) (by exact X3 hbad) ?_;cases ha:eM tab ((lh l w).map fun x=>.dict (gY x)) with|none=>rw[ha] at h;cases h|some q=>obtain⟨t',l'⟩:=q;rw[ha] at h;exact jN t' l' rfl h
 .cases(if_neg hc).symm.trans h;exact⟨rfl,rfl⟩
theorem Kr{ns:List Int}{l:List α}(h:eM tab ((l.map f).drop n)=ac (tabF,ns.drop n))(e:n=l.length):tab=tabF/\ns.length<=l.length/\ns.take n=ns:=by subst e;rw[<-af (f:=f) (as:=l)] at h;refine aZ (Cp h) fun e hl=>?_;rw[af] at hl;exact jR e hl (bt hl)
noncomputable def Vd(ats:List Int)(w:Int):dE×List Int->aP|(_,l)=>[(aa "page_dicts",.lst (ats.map fun a=>(PV.dict (th a)).d)),(aa "width",.int w),(aa "home",.none),(aa "level",.lst (l.map sq)),(aa "root",.any),(aa "head",.any)]
noncomputable def Ve(t r L:aW):dE×List Int->Mu|(tab,_)=>(L+1,.cell (bg t r))::bz t r tab []
section
variable (g : dK G) {t r : aW}
include g
theorem sd(ats w)(hal:ats.length<=800)(h2:2<=w)(h9:w<=900)(tabF trF root)(hb:eJ ats w=ac (tabF,trF,root)):ir G 8 (.ref 557) [bg t r,.lst (ats.map fun a=>(PV.dict (th a)).d),.int w] (bz t r [] []) (fun d Z'=>d=sq root/\Z'=bz t r tabF trF):=by
 refine ei (QQ hb) fun vs t1 t2 l1 l2 y53=>sL y53 fun h c ws V=>?_;refine iW (Y0:=[(aa "page_dicts",.lst (ats.map fun a=>(PV.dict (th a)).d)),(aa "width",.int w),(aa "home",.any),(aa "level",.any),(aa "root",.any),(aa "head",.any)]) (Yc:=[bg t r]) (ps:=[aa "shelf",aa "page_dicts",aa "width"]) (Z1:=fun L=>(L+1,.cell (bg t r))::bz t r [] []) g rfl rfl rfl rfl rfl (rG fun zz zz zz=>rfl) (.cons (qy g) (.cons (sD g) (.cons (mU g) (.cons (sF g) (.cons (DG g) .nil))))) (.inr (by kernel_rfl)) (by decide +kernel) ⟨rfl,fun n=>dH (.inr ⟨rfl,rfl⟩) (dH (.inl rfl) (dH (.inl rfl) wO)),dH ⟨rfl,fun zz=>.tail _ (.head _)⟩ (dH ⟨rfl,fun zz=>.tail _ (.tail _ (.head _))⟩ (dH ⟨rfl,fun h=>absurd rfl h⟩ (dH ⟨rfl,fun h=>absurd rfl h⟩ (dH ⟨rfl,fun h=>absurd rfl h⟩ (dH ⟨rfl,fun h=>absurd rfl h⟩ wO))))),fun n p hp=>(by cases ap.mp hp;exact(jR rfl rfl (fun zz=>bo))),by simp only[au,bI];decide +kernel⟩ (fun zz=>rfl) fun B Q W hk hh hm henv hQ=>?_;have hcs:df B.env (aa "shelf") (B.L+1):=by rw[henv];exact⟨rfl,rfl⟩
 walk_at "w";refine iY (decide_eq_false (X2 h2)) ?_;walk_at "w";refine bD W hcs (.head _) (by intro h;cases h) (by decide +kernel) ?_;walk_at "w";refine aw W.O (lT g (lk:=l6 []) (jq []) [] rfl) (.inr hh) (.skip (.take (.take .nil))) (cN hk rfl) ?_;walk_at "w";refine jr (K:=aV) W.O ?_;walk_at "w";refine zq (K:=aV) (l:=[]) W (.inl rfl) rfl ?_;walk_at "w";refine o6 (cl:=[(aa "shelf",B.L+1)]) W ⟨by rw[henv];rfl,by decide +kernel,rfl,by decide +kernel⟩ rfl rfl (by rw[henv];kernel_rfl) ?_;walk_at "w";refine ft W (.cons (sD g) (.cons (sG g) (.cons (mU g) .nil))) (by kernel_rfl) (cA W.O) (by rw[af];exact ae hal (by decide)) (fun i out Z=>∃tab,eM tab ((vs.map PV.dict).drop i)=ac (t1,l1.drop i)/\out=(l1.take i).map sq/\i<=ats.length/\Z=(B.L+1,.cell (bg t r))::bz t r tab []) (qc [] V.add rfl (a7 _) rfl) ?_ ?_
 .intro B' P i d out Z2 hd hI W' hec hk' hh' zz hP
  refine jD hI ?_;clear hI;intro tab hadd e1 hi e2;subst e1;subst e2;refine ar (dJ hd) fun x z4 hx=>?_;subst z4;have hcc:df B'.env (aa "shelf") (B.L+1):=by rw[hec,henv];exact⟨rfl,rfl⟩
  have hh2:=hh'.trans hh;have hk2:=hk'.trans hk;clear hec henv hcs hk' hh';refine ar (pp V.turn hx) fun y hy hyv=>?_;refine jD (rJ (v:=.dict y) hadd (by rw[bj,hyv];rfl)) fun n htl hfr hn hadd'=>?_;walk_at "w";refine bD W' hcc (.head _) (by intro h;cases h) (by decide +kernel) ?_;walk_at "w";refine aw W'.O (sb g (aa "MediaBox") [.int 0,.int 0,.int 9,.int x] rfl (aj rfl)) (.inr hh2) .nil (cN hk2 rfl) ?_;walk_at "w";refine jF W' rfl rfl (by simp) (by decide) fun da=>?_;walk_at "v";refine aw W'.O (ko g (aa "Page")) (.inl rfl) .nil (cN hk2 rfl) ?_;walk_at "w";refine cB _ (by simp only[au,bI];decide +kernel) .head ?_;walk_at "w";refine aw W'.O (n8 g (th x) zm (aj rfl) (aj rfl) y hy) (.inr hh2) .nil (cN hk2 rfl) ?_;walk_at "w";refine aw W'.O (qP g (.dict y) n hfr (ae htl (by decide))) (.inr hh2) (.skip (.take (.take .nil))) (cN hk2 rfl) ?_;walk_at "w";exact hP _ _ (qc _ hadd' (iV hn) (kK hx) rfl)
 .intro out Z hI
  refine jD hI ?_;clear hI;intro tab hadd e1 hi e2;subst e1;subst e2;have hvl:=l5 V.turn;refine jK (Kr hadd (by rw[af,hvl])) fun e3 hl1 e4=>?_;subst e3;rw[e4];walk_at "w";refine yL (ρf:=Vd ats w) (Zf:=Ve t r B.L) (Yj:=Vd ats w) (Zj:=Ve t r B.L) W (fun n s=>k8 n s.1 s.2 w=ac (t2,l2)/\s.2.length<=900) (fun s=>s=(t2,l2)) 20 (tab,l1) ⟨V.lev,by show l1.length<=900;exact X1 hal hvl hl1⟩ ?_ ?_
  .refine fun P R n=>j3 fun tab l hI hP hJ hR=>?_
   refine aZ hI ?_;clear hI;intro hl hl9;have hl9:l.length<=900:=hl9;have hl:k8 n tab l w=ac (t2,l2):=hl;cases n with|zero=>cases hl|succ n=>
    refine aZ (Pu hl) fun f1 f2=>?_;walk_at "w";refine oR (.inl rfl) (by rw[af];exact ae hl9 (by decide)) ?_;walk_at "w";by_cases hc:(l.length:Int)>w
    .refine oS (decide_eq_true (by rw[af];exact hc)) ?_
     refine Hi (f1 hc) fun hb0 hb1 hb2 t' l' hadd hl'=>?_;walk_at "w";refine o6 (cl:=[(aa "shelf",B.L+1)]) W ⟨by rw[henv];rfl,by decide +kernel,rfl,by decide +kernel⟩ rfl rfl (by rw[henv];kernel_rfl) ?_;walk_at "w";refine aw W.O (yY g (l.map sq) w (by rw[af];exact hl9) (X0 h2) h9 (by rw[af];exact hb1) (by rw[af];exact hb2)) (.inr hh) .nil (cN hk rfl) ?_;walk_at "w";have hgl:(lh l w).length<=900:=by unfold lh;rw[af,dG];omega
     rw[Jv];refine ft W (.cons (mU g) .nil) (by kernel_rfl) (cA W.O) (by rw[af];exact ae hgl (by decide)) (fun i out Z=>∃tab,eM tab (((lh l w).map fun x=>PV.dict (gY x)).drop i)=ac (t',l'.drop i)/\out=(l'.take i).map sq/\Z=(B.L+1,.cell (bg t r))::bz t r tab []) (cB tab hadd rfl rfl) ?_ ?_
     .intro B' P' i d out Z2 hd hI W' hec hk' hh' zz hP'
      refine bp hI ?_;clear hI;intro tab hadd e1 e2;subst e1;subst e2;refine ar (dJ hd) fun x z5 hx=>?_;subst z5;have hcc:df B'.env (aa "shelf") (B.L+1):=by rw[hec,henv];exact⟨rfl,rfl⟩
      have hh2:=hh'.trans hh;have hk2:=hk'.trans hk;clear hec henv hcs hk' hh';refine jD (rJ (v:=.dict (gY x)) hadd (by rw[bj,hx];rfl)) fun n htl hfr hn hadd'=>?_;walk_at "w";refine bD W' hcc (.head _) (by intro h;cases h) (by decide +kernel) ?_;walk_at "w";refine jF W' rfl rfl (by simp) (by decide) fun da=>?_;walk_at "v";refine aw W'.O (ko g (aa "Pages")) (.inl rfl) .nil (cN hk2 rfl) ?_;walk_at "w";refine cB _ (by simp only[au,bI];decide +kernel) .head ?_;walk_at "w";refine aw W'.O (νc:=bz t r (cQ tab n 0 (.dict (gY x))) []) (by rw[<-BF x];exact qP g (.dict (gY x)) n hfr (ae htl (by decide))) (.inr hh2) (.skip (.take (.take .nil))) (cN hk2 rfl) ?_;walk_at "w";exact hP' _ _ (cB _ hadd' (iV hn) rfl)
     .intro out Z hI
      refine bp hI ?_;clear hI;intro tab hadd e1 e2;subst e1;subst e2;refine jK (Kr hadd (af _)) fun e3 hl1 e4=>?_;subst e3;rw[e4];walk_at "w";exact hP n (tab,l') (c8 n) ⟨hl',ae hl1 hgl⟩
    .refine iY (decide_eq_false (by rw[af];exact hc)) ?_
     refine aZ (f2 hc) fun e1 e2=>?_;walk_at "w";exact hJ (tab,l) (by rw[e1,e2])
  .refine j3 fun tab l e=>?_
   cases e;walk_at "w";refine bD W hcs (.head _) (by intro h;cases h) (by decide +kernel) ?_;walk_at "w";refine jF W rfl rfl (by simp) (by decide) fun da=>?_;walk_at "v";refine aw W.O (ko g (aa "Pages")) (.inl rfl) .nil (cN hk rfl) ?_;walk_at "w";refine cB _ (by simp only[au,bI];decide +kernel) .head ?_;walk_at "w";have ht3:=kF t2 root 0 (.dict (gY l2));have htl:=V.len;have hf2:=V.free;have hse:=V.set;have htF:=V.tab;refine aw W.O (νc:=bz t r (cQ t2 root 0 (.dict (gY l2))) []) (by rw[<-BF l2];exact qP g (.dict (gY l2)) root V.rt (ae V.len (by decide))) (.inr hh) (.skip (.take (.take .nil))) (cN hk rfl) ?_;generalize cQ t2 root 0 (.dict (gY l2))=t3 at ht3 hf2 hse htF ⊢;walk_at "w";refine bD W hcs (.head _) (by intro h;cases h) (by decide +kernel) ?_;walk_at "w";refine aw W.O (lT g (lk:=l6 t3) (jq t3) [] rfl) (.inr hh) (.skip (.take (.take .nil))) (cN hk rfl) ?_;walk_at "w";refine jF W rfl rfl (by simp) (by decide) fun da=>?_;walk_at "v";refine aw W.O (ko g (aa "Catalog")) (.inl rfl) .nil (cN hk rfl) ?_;walk_at "w";refine cB _ (by simp only[au,bI];decide +kernel) .head ?_;walk_at "w";refine aw W.O (n8 g [] (Fk root) (aj rfl) (aj rfl) h V.cat) (.inr hh) .nil (cN hk rfl) ?_;walk_at "w";refine gZ rfl ?_;walk_at "w";refine bD W hcs (.head _) (by intro h;cases h) (by decide +kernel) ?_;walk_at "w";have ht4:=kF t3 c 0 (.dict h);refine aw W.O (qP g (.dict h) c hf2 (XZ htl ht3)) (.inr hh) (.skip (.take (.take .nil))) (cN hk rfl) ?_;walk_at "w";refine bD W hcs (.head _) (by intro h;cases h) (by decide +kernel) ?_;walk_at "w";refine iM (mN (aa "Root") (.ref c 0) []) (.tail (.tail .head)) (a7 _) ?_;walk_at "w";refine bD W hcs (.head _) (by intro h;cases h) (by decide +kernel) ?_;walk_at "w";refine eT W.O (gf.sureOf (ok:=(ac ws).isSome=ai) rfl (oa g (jq _) (XY htl ht3 ht4) (ac ws) hse)) (.inr hh) (.skip (.take (.take .nil))) (cN hk rfl) ?_;intro d Z' hd;refine bp hd ?_;clear hd;intro ws' z6 e z7;subst z6;subst z7;cases e;walk_at "w";exact hQ _ _ _ (kM rfl ⟨rfl,by rw[htF,V.tr]⟩)
end
theorem t0(l:List α):∀m,(dF m).filterMap (l[·]?)=l.take m:=by intro p0_;induction p0_ with|zero=>simp|succ m ih=>rw[K6,CS,ih,ci];congr 1
theorem xb(m:Nat):uw 0 (m:Int) 1=dF m:=by
 unfold uw;have e:(if(1:Int)>0 then(if(0:Int)<(m:Int) then((m:Int)-0+1-1) / 1 else 0) else(if(0:Int)>(m:Int) then(0-(m:Int)-1-1) / (-1) else 0)).toNat=m:=by
  rw[if_pos (by decide)];by_cases h:(0:Int)<m;.rw[if_pos h];simp
  .rw[if_neg h];exact XX h
 try dsimp only
 rw[e];conv=>rhs;rw[<-lL (dF m)]
 refine bM fun k zz=>?_;simp
theorem vg(l:List α)(b:Nat):xN l aq (ac (b:Int))=l.take b:=by
 unfold xN;have e:fG aq (ac (b:Int)) aq l.length=(0,((min b l.length:Nat):Int),1):=by
  have key:max 0 (min (if(b:Int)<0 then(b:Int)+(l.length:Int) else(b:Int)) (l.length:Int))=((min b l.length:Nat):Int):=by
   rw[if_neg (nU.mpr (cb b))];rcases RK b l.length with h|h;.rw[Nw h,Int.min_eq_left (gX.mpr h),K9 (cb _)]
   .rw[K4 h,Int.min_eq_right (gX.mpr h),K9 (cb _)]
  unfold fG;simp;exact key
 rw[e];try dsimp only
 rw[xb,t0];rcases RK b l.length with h|h;.rw[Nw h]
 .rw[K4 h,bt (aI _),bt h]
theorem zZ{a b:Int}(h:0<b):0<=a.fmod b:=Int.fmod_nonneg_of_pos a h
theorem z0{a b:Int}(h:0<b):a.fmod b<b:=Int.fmod_lt_of_pos a h
@[reducible] noncomputable def im(cells:List Int)(turn left:Int):List (aV×DV):=[(aa "cells",.lst (cells.map DV.int)),(aa "turn",.int turn),(aa "left",.int left)]
def NJ(k:aW)(cells:List Int)(turn many:Int):DV->Mu->Prop:=fun d Z'=>∃r turn' left',d=.int r/\0<=r/\r<many/\turn<=turn'/\turn'<=turn+1/\0<=left'/\Z'=[(k,.sdic (im cells turn' left'))]
theorem qV{turn left many:Int}(x:Int)(hm0:0<many)(hl:0<=left)(h:Z0.map (·.1)=[k]):ki Z0 (NJ k cells turn many) (.ret (.int (x.fmod many))) Y [(k,.sdic (im cells (turn+1) left))]:=cS h.symm ⟨_,turn+1,left,rfl,zZ hm0,z0 hm0,by exact To,mz _,hl,rfl⟩
section
variable {ff : Bool}
theorem vB{tt ll:Int}{x:DV}(hm:(k,MO.sdic (im cells tt ll))∈Z)(e:kr (im cells tt ll) key=ac x)(hs:∀o i,rT sl ak o i=HS [o,i] (HW o i))(q:Q x Y Z):O2 G B E (Is G.prog G.w) (i5 vl sl) (.ptr k) (.str key) Y Z Q:=cw (K:=aV) (.inr (bq k rfl hm)) e q hs
theorem I3{n:Int}(L:LS Z d l)(hl:l.length<=1000000)(e:(l.length:Int)=n)(q:Q (.int n) Y Z):cI G B E (.builtin "len") [d] Y Z Q:=by subst e;exact oR L hl q
theorem qq{b:Bool}(W:Wk G B gs ff)(L:LS Z d l)(e:(!l.isEmpty)=b)(q:Q (.bool b) Y Z):O2 G B E (Is G.prog G.w) (bi .NotEq) d (.lst []) Y Z Q:=Gk W.O L (by rw[e];exact q)
theorem Er{R:DV->Mu->Mu->Prop}(W:Wk G B gs ff)(H:qa G hd k f ds Zc R)(hh:hd=ai\/B.hd=ak)(P:iZ Z Zc re)(hk:k<=B.k)(q:∀d new Zc',R d new Zc'->Q d Y (new++re Zc')):cI G B E f ds Y Z Q:=DY W.O H hh P hk q
end
section
variable (g : dK G)
include g
theorem IE(ns:List Int)(hl:ns.length<=900):qa G ak 1 (.ref 562) [.lst (ns.map DV.int)] [] (fun d new Z'=>∃a cells,cells.length<=63/\d=.ptr a/\new=[(a,.sdic (im cells 0 0))]/\Z'=[]):=by
 refine MS (ps:=[aa "script"]) (rest:=[]) g rfl rfl rfl rfl rfl rfl (gA fun zz=>rfl) rfl .nil (by kernel_rfl) fun B Q W hk hh hm hQ=>?_;walk_at "w";refine AV W rfl rfl (by simp) (by decide) fun da=>?_;walk_at "v";refine ig (cl:=[]) W ⟨rfl,by decide +kernel,rfl,by decide +kernel⟩ rfl rfl ?_;walk_at "w";refine tB W.O ?_;walk_at "w";refine bq _ rfl (fun sa=>?_);walk_at "w";refine qi W.O (.inl rfl) (by rw[af];exact ae hl (by decide)) ?_ (fun zz zz=>⟨_,rfl⟩);walk_at "w";rw[sn,show(63:Int)=((63:Nat):Int) from rfl,vg];have hl2:(ns.take 63).length<=63:=qI _ _;generalize ns.take 63=cells at hl2 ⊢;refine ft W (.cons (vR g) .nil) (by kernel_rfl) (cA W.O) (by rw[af];exact ae hl2 (by decide)) (fun i out Z=>out=(cells.take i).map DV.int/\Z=[(da,.sdic [])]) ⟨rfl,rfl⟩ ?_ ?_
 .intro B' P i d out Z2 hd hI W' hec hk' hh' zz hP
  refine aZ hI ?_;clear hI;intro e1 e2;subst e1;subst e2;refine ar (dJ hd) fun x z1 hx=>?_;subst z1;walk_at "w";refine Kf ?_;walk_at "w";exact hP _ _ ⟨iV hx,rfl⟩
 .intro out Z hI
  refine aZ hI ?_;clear hI;intro e1 e2;subst e1;subst e2;rw[nZ];walk_at "w";refine cB _ (by simp only[au,bI];decide +kernel) .head ?_;walk_at "w";exact hQ _ _ _ (fF _ [] [] (.ptr da) (.refl _) rfl (du da cells hl2 rfl rfl rfl) (.inl rfl))
theorem jn(k cells turn left many)(hc:cells.length<=63)(ht0:0<=turn)(ht1:turn<=1000)(hl:0<=left)(hm0:0<many)(hm1:many<=1000):ir G 1 (.ref 569) [.ptr k,.int many] [(k,.sdic (im cells turn left))] (NJ k cells turn many):=by
 refine E6 (ps:=[aa "keg",aa "many"]) (rest:=[aa "found",aa "cells",aa "turn",aa "great"]) g rfl rfl rfl rfl rfl rfl (jL fun zz zz=>rfl) rfl (.cons (qy g) (.cons (Qv g) .nil)) (by kernel_rfl) fun B Q W hk hh hm henv hQ=>?_;walk_at "w";refine vB (.head _) rfl (fun zz zz=>rfl) ?_;walk_at "w";by_cases hleft:left>0
 .refine oS (decide_eq_true hleft) ?_
  clear henv;walk_at "w";refine vB (.head _) rfl (fun zz zz=>rfl) ?_;walk_at "w";refine kY (xg hm0) ?_;walk_at "w";refine vB (.head _) rfl (fun zz zz=>rfl) ?_;walk_at "w";refine pn (xg hm0) (Tn hm0 hm1) ?_;walk_at "w";refine Ix .head (aj rfl) ?_;walk_at "w";refine hQ _ _ _ (cS rfl ?_);exact⟨_,turn,left.fdiv many,rfl,zZ hm0,z0 hm0,mz _,by exact To,NA hl (tM hm0),rfl⟩
 .refine iY (decide_eq_false hleft) ?_
  walk_at "w";refine g8 W.O hh ?_ rfl (by rw[henv];kernel_rfl);clear henv;walk_at "w";refine vB (.head _) rfl (fun zz zz=>rfl) ?_;walk_at "w";refine vB (.head _) rfl (fun zz zz=>rfl) ?_;walk_at "w";refine Ev (cH rfl) (cH rfl) ?_;walk_at "w";refine iM (l':=im cells (turn+1) left) rfl .head (aj rfl) ?_;walk_at "w";refine I3 (.inl rfl) (by rw[af];exact ae hc (by decide)) (by rw[af]) ?_;walk_at "w";by_cases hge:turn>=(cells.length:Int)
  .refine oS (decide_eq_true hge) ?_
   walk_at "w";refine so (jH (by decide)) ?_;walk_at "w";refine so (jH (XW ht0 ht1)) ?_;walk_at "w";refine pn (by decide) (by decide) ?_;walk_at "w";refine eL W.O (ie W ?_);walk_at "w";refine⟨a7 _,?_⟩;walk_at "w";by_cases hn:cells=[]
   .refine qq W (b:=ak) (.inl rfl) (by rw[hn];rfl) ?_
    walk_at "w";refine kY (xg hm0) ?_;walk_at "w";exact hQ _ _ _ (qV _ hm0 hl rfl)
   .have hpos:(0:Int)<(cells.length:Int):=by have:=FK.mpr hn;exact ip this
    refine qq W (b:=ai) (.inl rfl) (by cases cells<;>first|exact absurd rfl hn|rfl) ?_;walk_at "w";refine I3 (.inl rfl) (by rw[af];exact ae hc (by decide)) (by rw[af]) ?_;walk_at "w";refine kY (XV hpos) ?_;have hj0:=zZ (a:=turn) hpos;have hj1:=z0 (a:=turn) hpos;obtain⟨cv,hcv⟩:∃cv,cells[(turn.fmod (cells.length:Int)).toNat]?=ac cv:=⟨_,cM (XU hpos hj1)⟩
    walk_at "w";refine lR (x:=.int cv) (.inl rfl) hj0 (XS hc hj1) (by rw[bj,hcv];rfl) ?_ (fun zz zz=>rfl);walk_at "w";refine kY (xg hm0) ?_;walk_at "w";exact hQ _ _ _ (qV _ hm0 hl rfl)
  .refine iY (decide_eq_false hge) ?_
   obtain⟨cv,hcv⟩:∃cv,cells[turn.toNat]?=ac cv:=⟨_,cM (XR ht0 hge)⟩
   walk_at "w";refine lR (x:=.int cv) (.inl rfl) ht0 (Tm ht1) (by rw[bj,hcv];rfl) ?_ (fun zz zz=>rfl);walk_at "w";refine Kg ?_;walk_at "w";refine Pc (by decide) (by decide) (by decide) ?_;walk_at "w";generalize(if cv<0 then -cv else cv)-(10:Int) ^ (18:Int).toNat=great;by_cases hgr:great<0
   .refine oS (decide_eq_true hgr) ?_
    walk_at "w";refine lR (x:=.int cv) (.inl rfl) ht0 (Tm ht1) (by rw[bj,hcv];rfl) ?_ (fun zz zz=>rfl);walk_at "w";refine kY (xg hm0) ?_;walk_at "w";exact hQ _ _ _ (qV _ hm0 hl rfl)
   .refine iY (decide_eq_false hgr) ?_
    walk_at "w";refine pn (xg hm0) (Tn hm0 hm1) ?_;walk_at "w";refine iM (l':=im cells (turn+1) (great.fdiv many)) rfl .head (aj rfl) ?_;walk_at "w";refine kY (xg hm0) ?_;walk_at "w";exact hQ _ _ _ (qV _ hm0 (NA (XQ hgr) (tM hm0)) rfl)
end
def KN(Z:Mu)(d:DV)(v:PV):Prop:=d=v.d\/∃a l,v=.dict l/\d=.ptr a/\(a,MO.sdic (PV.dS l))∈Z
inductive pO (Z:Mu):List (Int×DV)->dE->Prop
 |nil:pO Z [] []
 |cons {k g:Int} {d:DV} {v:PV} {r:List (Int×DV)} {t:dE}:KN Z d v->pO Z r t->pO Z ((k,.tup [.int g,d])::r) ((k,g,v)::t)
theorem pO.self(Z):∀t,pO Z t.d t:=by
 intro p0_;induction p0_ with|nil=>exact .nil|cons p_ r ih=>
  rcases p_ with⟨k,g,v⟩
  exact .cons (.inl rfl) (ih)
theorem pO.keys(h:pO Z r t):r.map (·.1)=t.map (·.1):=by induction h with|nil=>rfl|cons _ _ ih=>rw[au,au,ih]
theorem pO.len(h:pO Z r t):r.length=t.length:=by have:=congrArg RM h.keys;simpa using this
theorem pO.lk(h:pO Z r t){k g:Int}(e:t.lk k=ac (g,v)):∃d,kr r k=ac (.tup [.int g,d])/\KN Z d v:=by
 induction h with|nil=>injection e|@cons k' g' d' v' r t hr _ ih=>
  unfold dE.lk at e ih;unfold kr at ih ⊢;rw[bh] at e ⊢;by_cases hk:k'=k
  .simp only[hk,decide_true] at e ⊢
   (injection e with e;injection e with q1 q2;subst q1;subst q2);exact bq d' rfl hr
  .simp only[hk,decide_false] at e ⊢
   exact ih e
theorem KN.mono{Z Z':Mu}(h:KN Z d v)(k:∀p∈Z,p∈Z'):KN Z' d v:=h.imp id fun z1=>aM z1 fun a l x y z=>(bO a l x y (k _ z))
theorem KN.dict(h:KN Z d (.dict l)):DS Z d (PV.dS l):=by
 rcases h with rfl|⟨a,l',e,rfl,hm⟩;.exact .inl rfl
 ·(injection e with e;subst e);exact .inr (bq a rfl hm)
theorem KN.any(h:KN Z d v):d≠.any:=by
 rcases h with rfl|⟨a,l',e,rfl,hm⟩;.exact PV.d_any _
 .intro q;injection q
noncomputable def zR:PV->Bool|.dict l=>(fM l (aa "Kids")).isSome|_=>ak
noncomputable def lB(t:dE)(n:Int):Bool:=match t.lk n with|some (_,v)=>zR v|none=>ak
noncomputable def fg(t:dE):List Int:=(kW (t.map (·.1))).filter (lB t)
theorem sx{t:dE}{k:Int}(h:k∈t.map (·.1)):∃g v,t.lk k=ac (g,v):=by refine ar (az.mp h) fun p hp z2=>?_;subst z2;unfold dE.lk;cases e:t.find? (fun kv=>decide (kv.1=p.1)) with|none=>exact absurd (kT.mp e p hp) (by simp)|some q=>exact⟨_,_,rfl⟩
theorem Gy{n g:Int}(h:t.lk n=ac (g,v)):lB t n=zR v:=by unfold lB;rw[h]
theorem L7(h:dn v.tg=ak):zR v=ak:=by cases v<;>first|rfl|injection h
theorem Mv{l:List Int}{f:Int->Bool}{x:Int}(hx:l[i]?=ac x):((l.take (i+1)).filter f).map DV.int=((l.take i).filter f).map DV.int++(if f x then[DV.int x] else[]):=by rw[ci,hx,ct,rN,aA];congr 1;rw[dZ];cases f x<;>rfl
section
variable (g : dK G) {t r : aW}
include g
theorem Mc(W:Wk G B gs ff)(h:KN Z d v)(q:Q (.bool (dn v.tg)) Y Z):cI G B E (.builtin "isinstance") [d,.raw (.type "dict")] Y Z Q:=by
 rcases h with rfl|⟨a,l,rfl,rfl,hm⟩;.exact sB g W.O (PV.tgd _) rfl q
 .exact eZ W.O hm (by kernel_rfl) (fun zz=>rfl) (Hr (.inr (by kernel_rfl)) (by kernel_rfl)) q
theorem qO(hl:rows.length<64):g6 G 1 (.ref 353) [bg t r] [(t,.idic rows),(r,mo)] (fun d Z'=>d=.lst ((kW (rows.map (·.1))).map DV.int)/\Z'=[(t,.idic rows),(r,mo)]):=by refine ey (ps:=[aa "self"]) (rest:=[]) g rfl rfl rfl rfl rfl rfl (gA fun zz=>rfl) rfl (.cons (sE g) .nil) (by kernel_rfl) fun B Q W hk hh hm hQ=>?_;walk_at "w";refine ud W.O (.inr (bq t rfl (.head _))) hl ?_;walk_at "w";exact hQ _ _ _ (cS rfl ⟨rfl,rfl⟩)
theorem uP{hs:Mu}{tab:dE}(hl:rows.length<64)(hR:pO ((t,.idic rows)::(r,mo)::hs) rows tab):ir G 2 (.ref 574) [bg t r] ((t,.idic rows)::(r,mo)::hs) (fun d Z'=>d=.lst ((fg tab).map DV.int)/\Z'=(t,.idic rows)::(r,mo)::hs):=by
 refine iW (Y0:=[]) (Yc:=[bg t r]) (ps:=[aa "shelf"]) (Z1:=fun L=>(L+1,.cell (bg t r))::(t,.idic rows)::(r,mo)::hs) g rfl rfl rfl rfl rfl (gA fun zz=>rfl) .nil (.inr (by kernel_rfl)) (by decide +kernel) ⟨rfl,fun n x hx=>(by cases ap.mp hx;exact .inr ⟨rfl,rfl⟩),fun p hp=>(by cases hp),fun n p hp=>(by cases ap.mp hp;exact(jR rfl rfl (fun zz=>bo))),by decide⟩ (fun zz=>rfl) fun B Q W hk hh hm henv hQ=>?_;have hcs:df B.env (aa "shelf") (B.L+1):=by rw[henv];exact⟨rfl,rfl⟩
 walk_at "w";refine ig (cl:=[(aa "shelf",B.L+1)]) W ⟨by rw[henv];rfl,by decide +kernel,rfl,by decide +kernel⟩ rfl rfl ?_;walk_at "w";refine bD W hcs (.head _) (by intro h;injection h) (by decide +kernel) ?_;walk_at "w";refine aw W.O (qO g hl) (.inl rfl) (.skip (.take (.take .nil))) (cN hk rfl) ?_;walk_at "w";rw[hR.keys];refine yN W (.cons (cT g) (.cons (jC g) .nil)) (by kernel_rfl) (cA W.O) (by rw[af,(ii _).length_eq,af,<-hR.len];exact xh hl rfl) (fun i out Z=>out=(((kW (tab.map (·.1))).take i).filter (lB tab)).map DV.int/\Z=(B.L+1,.cell (bg t r))::(t,.idic rows)::(r,mo)::hs) ⟨rfl,rfl⟩ ?_ ?_
 .intro B' P i d0 out Z2 hd hI W' hec hk' hh' zz hP
  refine aZ hI ?_;clear hI;intro e1 e2;subst e1;subst e2;refine ar (dJ hd) fun x z3 hx=>?_;subst z3;have hcc:df B'.env (aa "shelf") (B.L+1):=by rw[hec,henv];exact⟨rfl,rfl⟩
  clear hec henv hcs;refine g5 (sx ((ii _).mem_iff.mp (cF hx))) fun gn v hlk=>?_;refine ar (hR.lk hlk) fun d hld hrep=>?_;have hrep:=hrep.mono (Z':=(B.L+1,.cell (bg t r))::(t,.idic rows)::(r,mo)::hs) fun p hp=>.tail _ hp;have hfl:=Mv (f:=lB tab) hx;rw[Gy hlk] at hfl;walk_at "w";refine bD W' hcc (.head _) (by intro h;injection h) (by decide +kernel) ?_;walk_at "w";refine cw (K:=Int) (l:=rows) (x:=.tup [.int gn,d]) (.inr (bq t rfl (.tail _ (.head _)))) hld ?_ (fun zz zz=>rfl);walk_at "w";refine eh (j:=1) (x:=d) (by decide) (by decide) rfl rfl ?_ (fun zz zz=>rfl);walk_at "w";refine Mc g W' hrep ?_;cases hq:dn v.tg with|false=>walk_at "w";exact hP _ _ ⟨by rw[hfl,L7 hq];exact(bR _).symm,rfl⟩|true=>refine aY (ut hq) fun l z4=>?_;subst z4;have hfl:_=_++(if(fM l (aa "Kids")).isSome then _ else _):=hfl;walk_at "w";refine bD W' hcc (.head _) (by intro h;injection h) (by decide +kernel) ?_;walk_at "w";refine cw (K:=Int) (l:=rows) (x:=.tup [.int gn,d]) (.inr (bq t rfl (.tail _ (.head _)))) hld ?_ (fun zz zz=>rfl);walk_at "w";refine eh (j:=1) (x:=d) (by decide) (by decide) rfl rfl ?_ (fun zz zz=>rfl);walk_at "w";refine qr (K:=aV) (b:=(fM l (aa "Kids")).isSome) hrep.dict (by rw[gu,FF]) ?_;cases hks:(fM l (aa "Kids")).isSome with|false=>walk_at "w";exact hP _ _ ⟨by rw[hfl,hks];exact(bR _).symm,rfl⟩|true=>walk_at "w";exact hP _ _ ⟨by rw[hfl,hks];rfl,rfl⟩
 .intro out Z hI
  refine aZ hI ?_;clear hI;intro e1 e2;subst e1;subst e2;rw[nZ];walk_at "w";exact hQ _ _ _ (kM rfl ⟨rfl,rfl⟩)
end
noncomputable def gC(lk:Lk):Nat->Int->Option Int
 |0,_=>aq|f+1,n=>match lk n with
  |some (ac (_,.dict l))=>match fM l (aa "Kids") with
   |none=>ac 1|some (.arr ks)=>if 900<ks.length then aq else(fh (fun k=>match k with|.ref m _=>gC lk f m|_=>aq) ks).map AY
   |some _=>aq
  |_=>aq
theorem Hy(lk){f n}:gC lk (f+1) n=(match lk n with
  |some (ac (_,.dict l))=>match fM l (aa "Kids") with
   |none=>ac 1|some (.arr ks)=>if 900<ks.length then aq else(fh (fun k=>match k with|.ref m _=>gC lk f m|_=>aq) ks).map AY
   |some _=>aq
  |_=>aq):=rfl
noncomputable def gc(lk:Lk):Nat->Int->Option (List Int)
 |0,_=>aq|f+1,n=>match lk n with
  |some (ac (_,.dict l))=>match fM l (aa "Kids") with
   |none=>ac [n]|some (.arr ks)=>match fh (fun k=>match k with|.ref m _=>gc lk f m|_=>aq) ks with|none=>aq|some ls=>if 900<(n::ls.flatten).length then aq else ac (n::ls.flatten)
   |some _=>aq
  |_=>aq
theorem AU(lk){f n}:gc lk (f+1) n=(match lk n with
  |some (ac (_,.dict l))=>match fM l (aa "Kids") with
   |none=>ac [n]|some (.arr ks)=>match fh (fun k=>match k with|.ref m _=>gc lk f m|_=>aq) ks with|none=>aq|some ls=>if 900<(n::ls.flatten).length then aq else ac (n::ls.flatten)
   |some _=>aq
  |_=>aq):=rfl
theorem G6(l:List (List α))(i):(l.take i).flatten.length<=l.flatten.length:=by
 conv=>rhs;rw[<-List.take_append_drop i l,qJ,aS]
 exact cg _ _
noncomputable def GQ(F:Int->Option α):PV->Option α|.ref m _=>F m|_=>aq
theorem EN{x:PV}{y:α}(h:GQ F x=ac y):∃m g,x=.ref m g/\F m=ac y:=by cases x<;>first|((first|(injection h;done)|cases h);done)|exact jN _ _ rfl h
set_option tactic.hygienic true in
theorem QU{n res:Int}(h:gC lk (f+1) n=ac res):∃gn l,lk n=ac (ac (gn,.dict l))/\((fM l (aa "Kids")=aq/\res=1)\/∃ks ns,fM l (aa "Kids")=ac (.arr ks)/\ks.length<=900/\fh (GQ (gC lk f)) ks=ac ns/\res=AY ns):=by
 (first|rw[belowP_e0] at h|rw[Hy] at h|unfold gC at h);split at h
 .next gn l e=>
  refine jN gn l e ?_;cases hk:fM l (aa "Kids") with|none=>rw[hk] at h;exact .inl ⟨rfl,(aB h).symm⟩|some kv=>
   rw[hk] at h;cases kv with
   |arr ks=>
    by_cases hl:900<ks.length;.injection (if_pos hl).symm.trans h
    .refine ar (aD.mp ((if_neg hl).symm.trans h)) fun ns hns e=>?_
     refine .inr (du ks ns rfl (b7 hl) ?_ e.symm);have:(fun k=>match k with|PV.ref m _=>gC lk f m|_=>aq)=GQ (gC lk f):=funext fun k=>by cases k<;>rfl
     rw[<-this];exact hns
   |_=>injection h
 .injection h
set_option tactic.hygienic true in
theorem NC{n:Int}(h:gc lk (f+1) n=ac res):∃gn l ks ls,lk n=ac (ac (gn,.dict l))/\fh (GQ (gc lk f)) ks=ac ls/\(n::ls.flatten).length<=900/\(kr (PV.dS l) (aa "Kids")).getD (.lst [])=.lst (ks.map PV.d)/\res=n::ls.flatten:=by
 (first|rw[walkP_e0] at h|rw[AU] at h|unfold gc at h);split at h
 .next gn l e=>
  have hL:=gu (aa "Kids") l;cases hk:fM l (aa "Kids") with|none=>rw[hk] at h;exact jv gn l [] [] e rfl (by simp) (by rw[hL,hk];rfl) ((aB h).symm)|some kv=>
   rw[hk] at h;cases kv with
   |arr ks=>
    have e0:(fun k=>match k with|PV.ref m _=>gc lk f m|_=>aq)=GQ (gc lk f):=funext fun k=>by cases k<;>rfl
    have h:(match fh (fun k=>match k with|PV.ref m _=>gc lk f m|_=>aq) ks with|none=>aq|some ls=>if 900<(n::ls.flatten).length then aq else ac (n::ls.flatten))=ac res:=h;rw[e0] at h;cases hm:fh (GQ (gc lk f)) ks with|none=>rw[hm] at h;injection h|some ls=>
     rw[hm] at h;by_cases hl:900<(n::ls.flatten).length;.injection (if_pos hl).symm.trans h
     .exact jv gn l ks ls e hm (b7 hl) (by rw[hL,hk,hO,eE,PV.d,oO]) ((aB ((if_neg hl).symm.trans h)).symm)
   |_=>injection h
 .injection h
theorem AT:∀{f:Nat}{n:Int}{res:List Int},gc lk f n=ac res->res.length<=900
 |0,_,_,h=>by injection h
 |f+1,_,_,h=>by refine iE (NC h) fun zz zz zz zz zz zz hl zz z1=>?_;subst z1;exact hl
theorem G7{ls:List (List Int)}{y:List Int}{n:Int}(h:ls[i]?=ac y):(n::(ls.take i).flatten).map DV.int++y.map DV.int=(n::(ls.take (i+1)).flatten).map DV.int:=by rw[ci,h,ct,qJ,<-aA];simp only[H7,List.flatten_nil,bR,KG]
theorem Jy{ls:List (List Int)}{y:List Int}{n:Int}(h:(n::ls.flatten).length<=900)(hy:y.length<=900):((n::(ls.take i).flatten).map DV.int).length+(y.map DV.int).length<=1000000:=by have hfl:=G6 ls i;rw[cK] at h;rw[af,af,cK];exact XO h hy hfl
noncomputable def Xb(t r:aW)(n:Int)(ls:List (List Int)):Nat×DV->aP|(i,x)=>[(aa "shelf",bg t r),(aa "number",.int n),(aa "found",.lst ((n::(ls.take i).flatten).map DV.int)),(aa "kid",x)]
section
variable (g : dK G) {t r : aW}
include g
theorem C4{hs:Mu}(hs0:d4 lk tab)(hR:pO ((t,.idic rows)::(r,mo)::hs) rows tab):∀(f:Nat)(n res:Int),gC lk f n=ac res->ir G f (.ref 579) [bg t r,.int n] ((t,.idic rows)::(r,mo)::hs) (fun d Z'=>d=.int res/\Z'=(t,.idic rows)::(r,mo)::hs):=by
 intro f;induction f with
 |zero=>intro n res h;injection h
 |succ f ih=>
 intro n res h;refine cX (QU h) fun gn l hlk V=>?_;refine ar (hR.lk (hs0 _ _ hlk)) fun d hld hrep=>?_;refine iW (Y0:=[(aa "number",.int n),(aa "head",.any)]) (Yc:=[bg t r]) (ps:=[aa "shelf",aa "number"]) (Z1:=fun L=>(L+1,.cell (bg t r))::(t,.idic rows)::(r,mo)::hs) g rfl rfl rfl rfl rfl (jL fun zz zz=>rfl) (.cons (Qt g) .nil) (.inr (by kernel_rfl)) (by decide +kernel) ⟨rfl,fun n=>dH (.inr ⟨rfl,rfl⟩) (dH (.inl rfl) wO),dH ⟨rfl,fun zz=>.tail _ (.head _)⟩ (dH ⟨rfl,fun h=>absurd rfl h⟩ wO),fun n p hp=>(by cases ap.mp hp;exact(jR rfl rfl (fun zz=>bo))),by simp only[au,bI];decide +kernel⟩ (fun zz=>rfl) fun B Q W hk hh hm henv hQ=>?_;have hcs:df B.env (aa "shelf") (B.L+1):=by rw[henv];exact⟨rfl,rfl⟩
 have hrep:=hrep.mono (Z':=(B.L+1,.cell (bg t r))::(t,.idic rows)::(r,mo)::hs) fun p hp=>.tail _ hp;have hda:=hrep.any;walk_at "w";refine bD W hcs (.head _) (by intro h;injection h) (by decide +kernel) ?_;walk_at "w";refine cw (K:=Int) (l:=rows) (x:=.tup [.int gn,d]) (.inr (bq t rfl (.tail _ (.head _)))) hld ?_ (fun zz zz=>rfl);walk_at "w";refine eh (j:=1) (x:=d) (by decide) (by decide) rfl rfl ?_ (fun zz zz=>rfl);walk_at "w";rcases V with⟨hks,rfl⟩|⟨ks,ns,hks,hl9,hns,rfl⟩
 .refine qr (K:=aV) (b:=ak) hrep.dict (by rw[gu,hks];rfl) ?_
  walk_at "w";exact hQ _ _ _ (kM rfl ⟨rfl,rfl⟩)
 .refine qr (K:=aV) (b:=ai) hrep.dict (by rw[gu,hks];rfl) ?_
  walk_at "w";refine ig (cl:=[(aa "shelf",B.L+1)]) W ⟨by rw[henv];rfl,by decide +kernel,rfl,by decide +kernel⟩ rfl rfl ?_;walk_at "w";refine cw (K:=aV) (l:=PV.dS l) (x:=.lst (ks.map PV.d)) hrep.dict (by rw[gu,hks,hO,PV.d,oO]) ?_ (fun zz zz=>rfl);walk_at "w";refine ft W (.cons (rn g) .nil) (by kernel_rfl) (cA W.O) (by rw[af];exact ae hl9 (by decide)) (fun i out Z=>out=(ns.take i).map DV.int/\Z=(B.L+1,.cell (bg t r))::(t,.idic rows)::(r,mo)::hs) ⟨rfl,rfl⟩ ?_ ?_
  .intro B' P i d' out Z2 hd hI W' hec hk' hh' zz hP
   refine aZ hI ?_;clear hI;intro e1 e2;subst e1;subst e2;refine ar (dJ hd) fun x z2 hx=>?_;subst z2;have hcc:df B'.env (aa "shelf") (B.L+1):=by rw[hec,henv];exact⟨rfl,rfl⟩
   clear hec henv hcs;refine ar (pp hns hx) fun y hy hyn=>?_;refine cX (EN hy) ?_;clear hy;intro m gm z3 hy;subst z3;walk_at "w";refine bD W' hcc (.head _) (by intro h;injection h) (by decide +kernel) ?_;walk_at "w";refine aw W'.O (ih m y hy) (.inr (hh'.trans hh)) (.skip (.id _)) (cN (hk'.trans hk) (by simp)) ?_;walk_at "w";exact hP _ _ ⟨iV hyn,rfl⟩
  .intro out Z hI
   refine aZ hI ?_;clear hI;intro e1 e2;subst e1;subst e2;rw[af,bt (by rw[l5 hns];exact aI _)];walk_at "w";refine Kc W.O hh (.inl rfl) ?_;walk_at "w";exact hQ _ _ _ (kM rfl ⟨rfl,rfl⟩)
theorem F4(hs0:d4 lk tab)(hR:pO ((t,.idic rows)::(r,mo)::hs) rows tab):∀(f:Nat)(n:Int)res,gc lk f n=ac res->ir G f (.ref 600) [bg t r,.int n] ((t,.idic rows)::(r,mo)::hs) (fun d Z'=>d=.lst (res.map DV.int)/\Z'=(t,.idic rows)::(r,mo)::hs):=by
 intro f;induction f with
 |zero=>intro n res h;injection h
 |succ f ih=>
 intro n res h;refine iE (NC h) fun gn l ks ls hlk hmap hlen hget z4=>?_;subst z4;refine ar (hR.lk (hs0 _ _ hlk)) fun d hld hrep=>?_;have hda:=hrep.any;refine ey (ps:=[aa "shelf",aa "number"]) (rest:=[aa "found",aa "kid"]) g rfl rfl rfl rfl rfl rfl (jL fun zz zz=>rfl) rfl (.cons (tu g) .nil) (by kernel_rfl) fun B Q W hk hh hm hQ=>?_;walk_at "w";refine eL W.O (ie W ?_);walk_at "w";refine⟨aj rfl,?_⟩;walk_at "w";refine cw (K:=Int) (l:=rows) (x:=.tup [.int gn,d]) (.inr (bq t rfl (.head _))) hld ?_ (fun zz zz=>rfl);walk_at "w";refine eh (j:=1) (x:=d) (by decide) (by decide) rfl rfl ?_ (fun zz zz=>rfl);walk_at "w";refine EG (hrep.dict.notInst fun zz zz h=>by injection h) ?_;walk_at "v";refine iU (K:=aV) W hrep.dict ?_;walk_at "w";refine eL W.O (ie W ?_);walk_at "w";refine⟨a7 _,?_⟩;walk_at "w";refine DQ (K:=aV) hrep.dict hget ?_;walk_at "w";refine m8 (ρf:=Xb t r n ls) (Zf:=fun zz=>(t,.idic rows)::(r,mo)::hs) W (cA W.O) (fun i s=>s.1=i) (0,_) rfl rfl rfl ?_ ?_
 .intro B' P R i d' s hd
  refine ar (dJ hd) fun x z5 hx=>?_;subst z5;refine ar (pp hmap hx) fun y hy hyn=>?_;refine cX (EN hy) ?_;clear hy;intro m gm z6 hy;subst z6;revert s;refine j3 fun i' x1 e W' zz hk' hh' zz hP hR=>?_;subst e;walk_at "w";refine aw W'.O (ih m y hy) (.inr (hh'.trans hh)) (.id _) (cN (hk'.trans hk) (by simp)) ?_;walk_at "w";refine vq W'.O (.inl rfl) (.inl rfl) (Jy hlen (AT hy)) ?_;rw[G7 hyn];walk_at "w";exact hP (i'+1,_) rfl
 .refine j3 fun i x1 e=>?_
  subst e;walk_at "w";refine hQ _ _ _ (cS rfl ?_);exact⟨by rw[af,bt (by rw[l5 hmap];exact aI _)],rfl⟩
end
noncomputable abbrev Al:=Int->Option aW
noncomputable def nu(α:Al)(p:Int×Int×PV):DV:=match α p.1 with|some a=>.ptr a|none=>p.2.2.d
noncomputable def de(α:Al)(tab:dE):List (Int×DV):=tab.map fun p=>(p.1,.tup [.int p.2.1,nu α p])
noncomputable def md(α:Al)(p:Int×Int×PV):Option (aW×MO):=match α p.1,p.2.2 with|some a,.dict l=>ac (a,.sdic (PV.dS l))|_,_=>aq
noncomputable def j4(α:Al)(tab:dE):Mu:=tab.filterMap (md α)
def qG(α:Al)(tab:dE):Prop:=∀p∈tab,α p.1≠aq->∃l,p.2.2=.dict l
def ga(tab:dE):Prop:=(tab.map (·.1)).Nodup
theorem si{α:Al}{k:Int}(h:α k=aq)(tab g v):jp (de α tab) k (.tup [.int g,v.d])=de α (cQ tab k g v):=by
 unfold jp cQ de;rw[fk];have e:(tab.any ((fun kv:Int×DV=>decide (kv.1=k))∘fun p=>(p.1,DV.tup [.int p.2.1,nu α p])))=tab.any fun r=>r.1=k:=rfl;rw[e];split
 .rw[bS,bS]
  refine bM fun p zz=>?_;simp only[ej];by_cases hp:p.1=k;.simp only[hp,if_true];unfold nu;dsimp only;rw[h]
  .simp only[hp,if_false]
 .rw[aA,au,bI];unfold nu;dsimp only;rw[h]
theorem zQ{α:Al}{k:Int}(h:α k=aq)(tab g v):j4 α (cQ tab k g v)=j4 α tab:=by
 unfold cQ j4;split
 .rw[List.filterMap_map]
  refine congrArg (fun f=>Nz f tab) (funext fun p=>?_);simp only[ej];by_cases hp:p.1=k;.simp only[hp,if_true];unfold md;dsimp only;rw[hp,h]
  .simp only[hp,if_false]
 .rw[CS]
  have:Nz (md α) [(k,g,v)]=[]:=by simp[md,h]
  rw[this,bR]
theorem l9(tab k g v)(h:ga tab):ga (cQ tab k g v):=by
 unfold ga cQ at *;split
 .rename_i ha
  have:(tab.map (fun r=>if r.1=k then(r.1,g,v) else r)).map (·.1)=tab.map (·.1):=by rw[bS];refine bM fun p zz=>?_;simp only[ej];split<;>rfl
  rw[this];exact h
 .rename_i ha
  rw[aA,au,bI,bC];refine jR h (by simp) (fun a hx b hb e=>?_);rw[ap.mp hb] at e;refine ar (az.mp hx) fun p hp z1=>?_;subst z1;exact ha (dw.mpr (bq p hp (by simpa using e)))
theorem sS{α:Al}{k g:Int}(h:qG α tab)(hv:α k≠aq->∃l,v=.dict l):qG α (cQ tab k g v):=by
 intro p hp ha;unfold cQ at hp;split at hp
 .refine ar (az.mp hp) fun q hq e=>?_
  by_cases hk:q.1=k;.rw[if_pos hk] at e;subst e;exact hv (hk▸ha)
  .rw[if_neg hk] at e;subst e;exact h _ hq ha
 .rcases aJ.mp hp with hp|hp
  .exact h _ hp ha
  .cases ap.mp hp;exact hv ha
theorem sy{k g:Int}(h:tab.lk k=ac (g,v)):(k,g,v)∈tab:=by
 unfold dE.lk at h;refine ar (aD.mp h) fun p hp e=>?_;have h1:=yJ hp;have h2:p.1=k:=by simpa using K8 hp
 obtain⟨a,b⟩:=p;subst e;subst h2;exact h1
theorem zd{k g:Int}(hn:ga tab)(h:tab.lk k=ac (g,v0)):∀p∈tab,p.1=k->p=(k,g,v0):=by
 intro p hp e;have h2:=sy h;unfold ga at hn;clear h;induction tab with|nil=>cases hp|cons q r ih=>
  rw[au,av] at hn;rcases ao.mp hp with rfl|hp
  .rcases ao.mp h2 with h2|h2
   .exact h2.symm
   .exact absurd (az.mpr ⟨_,h2,e.symm⟩) hn.1
  .rcases ao.mp h2 with rfl|h2
   .exact absurd (show k∈r.map (·.1) from az.mpr (bq p (by assumption) e)) hn.1
   .exact ih hn.2 (by assumption) h2
theorem Kn{k g:Int}(h:tab.lk k=ac (g,v)):(tab.any fun r=>r.1=k)=ai:=dw.mpr (bq _ (sy h) (by simp))
theorem xL{α:Al}{k g:Int}(ha:α k=ac a)(hn:ga tab)(h:tab.lk k=ac (g,v0)):de α (cQ tab k g v)=de α tab:=by
 unfold cQ de;rw[if_pos (Kn h),bS];refine bM fun p hp=>?_;simp only[ej];by_cases hk:p.1=k
 .have:=zd hn h p hp hk
  subst this;simp only[if_true];unfold nu;dsimp only;rw[ha]
 .simp only[hk,if_false]
theorem Mm{α:Al}{k g:Int}{l l':List (aV×PV)}(ha:α k=ac a):∀{tab:dE},ga tab->tab.lk k=ac (g,.dict l)->fE a (.sdic (PV.dS l)) (.sdic (PV.dS l')) (j4 α tab) (j4 α (tab.map fun r=>if r.1=k then(r.1,g,.dict l') else r)):=by
 intro p0_;induction p0_ with
 |nil=>intro zz h;injection h
 |cons p r ih=>
  intro hn0 h;have hn:=hn0;unfold ga at hn;rw[au,av] at hn;rw[au];by_cases hk:p.1=k
  .rw[if_pos hk]
   have e:=zd hn0 h p (.head _) hk;have er:(r.map fun x=>if x.1=k then(x.1,g,PV.dict l') else x)=r:=by
    conv=>rhs;rw[<-lL r]
    refine bM fun x hx=>?_;have:¬x.1=k:=fun q=>hn.1 (az.mpr (bq x hx (q.trans hk.symm)));rw[if_neg this];rfl
   rw[er];subst e;unfold j4;rw[iz (b:=(a,.sdic (PV.dS l))) (by unfold md;dsimp only;rw[ha]),iz (b:=(a,.sdic (PV.dS l'))) (by unfold md;dsimp only;rw[ha])];exact .head
  .rw[if_neg hk]
   have h':dE.lk r k=ac (g,.dict l):=by unfold dE.lk at h ⊢;rw[bh] at h;simp only[hk,decide_false] at h;exact h
   have ih:=ih hn.2 h';unfold j4 at ih ⊢;rw[fK,fK];cases md α p with|none=>exact ih|some q=>exact .tail ih
theorem rg{α:Al}{k g:Int}{l l':List (aV×PV)}(ha:α k=ac a)(hn:ga tab)(h:tab.lk k=ac (g,.dict l)):fE a (.sdic (PV.dS l)) (.sdic (PV.dS l')) (j4 α tab) (j4 α (cQ tab k g (.dict l'))):=by have:=Mm (l':=l') ha hn h;unfold cQ;rw[if_pos (Kn h)];exact this
theorem zh{α:Al}:∀{tab:dE},qG α tab->(∀p∈j4 α tab,p∈Z)->pO Z (de α tab) tab:=by
 intro p0_;induction p0_ with
 |nil=>intro zz zz;exact .nil
 |cons p_ r ih=>
  rcases p_ with⟨k,g,v⟩
  intro h hm;refine .cons ?_ (ih (fun p hp=>h p (.tail _ hp)) fun p hp=>hm p ?_)
  .unfold nu
   try dsimp only
   cases ha:α k with|none=>exact .inl rfl|some a=>refine aY (h (k,g,v) (.head _) (by dsimp only;rw[ha];simp)) fun l e=>?_;dsimp only at e;subst e;refine .inr (bO a l rfl rfl (hm _ ?_));unfold j4;rw[iz (b:=(a,.sdic (PV.dS l))) (by unfold md;dsimp only;rw[ha])];exact .head _
  .unfold j4 at hp ⊢
   rw[fK];cases md α (k,g,v) with|none=>exact hp|some q=>exact .tail _ hp
noncomputable def bN(lk:Lk)(ws:Wr):Lk:=ws.foldl (fun lk w=>j0 lk w.1 w.2.1 w.2.2) lk
theorem kD(h:d4 lk tab)(ws):d4 (bN lk ws) (bW tab ws):=by unfold bN bW;induction ws generalizing lk tab with|nil=>exact h|cons w r ih=>exact ih (xJ h _ _ _)
noncomputable def wr(right:Int):List PV:=[.bool (right==1),.int right,.ref 900 0,.ref 901 0,.int (right-9),.int (right+1),.null]
noncomputable def uj(root:Int):List PV:=[.ref 990 0,.ref 902 0,.int 5,.ref 900 0,.ref root 0]
noncomputable def je(l:List (aV×PV))(way:Nat)(right:Int):List (aV×PV):=if way=6 then sk (eH l (aa "Count") ((wr right).getD way .null)) (aa "Count") else eH l (aa "Count") ((wr right).getD way .null)
noncomputable def lE(root n:Int)(way other:Nat)(one:Int):eK:=(if(one==root&&decide (2<other))=ai then[(one,aa "Parent")] else[])++(if(one==n&&!(way==1||way==2))=ai then[(one,aa "Count")] else[])
noncomputable def rC(w:List Int)(root n:Int)(way other:Nat):eK:=w.flatMap (lE root n way other)
noncomputable def gB(g n gr root:Int)(l lt:List (aV×PV))(right:Int)(way other:Nat):Wr:=[(900,0,.int right),(901,0,.bool (right==1)),(902,0,.null),(n,g,.dict (je l way right))]++(if other=0 then[] else[(root,gr,.dict (eH lt (aa "Parent") ((uj root).getD (other-1) .null)))])
noncomputable def rH(lk:Lk)(root n:Int)(way other:Nat):Option (Wr×eK):=
 match lk n with
 |some (ac (g,.dict l))=>if 800<l.length then aq else match gC lk 20 n with
  |none=>aq|some right=>match bN lk [(900,0,.int right),(901,0,.bool (right==1)),(902,0,.null),(n,g,.dict (je l way right))] root with
   |some (ac (gr,.dict lt))=>if 800<lt.length then aq else match gc (bN lk (gB g n gr root l lt right way other)) 20 root with|none=>aq|some w=>ac (gB g n gr root l lt right way other,rC w root n way other)
   |_=>aq
 |_=>aq
theorem Be{α:Al}{k g:Int}(ha:α k=ac a):∀{tab:dE},tab.lk k=ac (g,v)->kr (de α tab) k=ac (.tup [.int g,.ptr a]):=by
 intro p0_;induction p0_ with
 |nil=>intro h;injection h
 |cons p_ r ih=>
  rcases p_ with⟨pk,pg,pv⟩
  intro h;unfold dE.lk at h;unfold kr de;rw[bh] at h;rw[au,bh];dsimp only at h ⊢;by_cases hk:pk=k
  .simp only[hk,decide_true] at h ⊢
   (injection h with h;injection h with q1 q2;subst q1;subst q2);unfold nu;try dsimp only
   rw[ha];rfl
  .simp only[hk,decide_false] at h ⊢
   exact ih h
theorem Gg(tab k g v w):cQ (cQ tab k g v) k g w=cQ tab k g w:=by
 unfold cQ;by_cases h:(tab.any fun r=>decide (r.1=k))=ai
 .rw[if_pos h,if_pos h]
  have:((tab.map fun r=>if r.1=k then(r.1,g,v) else r).any fun r=>decide (r.1=k))=ai:=by
   rw[fk];refine ar (dw.mp h) fun p hp e=>?_;refine dw.mpr (bq p hp ?_);have e:p.1=k:=by simpa using e
   simp[e]
  rw[if_pos this,bS];refine bM fun p zz=>?_;simp only[ej];by_cases hp:p.1=k<;>simp[hp]
 .rw[if_neg h,if_neg h]
  have:((tab++[(k,g,v)]).any fun r=>decide (r.1=k))=ai:=by simp
  rw[if_pos this,aA];have hn:∀x∈tab,¬x.1=k:=fun x hx e=>h (dw.mpr (bq x hx (by simpa using e)));congr 1
  .conv=>rhs;rw[<-lL tab]
   refine bM fun x hx=>?_;rw[if_neg (hn x hx)];rfl
  .simp
theorem I2(l k v):fM (eH l k v) k=ac v:=by
 unfold fM eH;split
 .rename_i h
  induction l with|nil=>injection h|cons p r ih=>
   rw[au,bh];by_cases hp:p.1=k;.simp[hp]
   .simp only[hp,if_false,decide_false]
    rw[dD] at h;exact ih (by simpa[hp] using h)
 .rename_i h
  have:l.find? (fun kv=>decide (kv.1=k))=aq:=kT.mpr fun x hx e=>h (dw.mpr (bq x hx e));rw[sZ,this];simp
theorem fE.keys(h:fE a mo mo' Z Z'):Z'.map (·.1)=Z.map (·.1):=by induction h with|head=>rfl|tail _ ih=>rw[au,au,ih]
theorem NR{l:List PV}(h:i<l.length):(l.map PV.d)[i]?=ac (l.getD i .null).d:=by rw[bj,kS,cM h];rfl
theorem RV{n:Nat}{st:jU}{Q:Fl->aP->Mu->Prop}(m:β->aP×Mu)(C:β->Prop)(h1:∀Q',(∀z,C z->Q' .next (m z).1 (m z).2)->(wI G B E gs ff [] n).ex st Y Z Q')(h2:∀z,C z->(wI G B E gs ff [] n).exs rest (m z).1 (m z).2 Q):(wI G B E gs ff [] (n+1)).exs (st::rest) Y Z Q:=h1 (Kw (wI G B E gs ff [] n) rest Q) h2
noncomputable def KM(right:Int)(way:Nat):PV:=(wr right).getD way .null
noncomputable def Te(root:Int)(other:Nat):PV:=(uj root).getD (other-1) .null
structure VN (α:Al) (tab:dE) (lk lk2:Lk) (root n:Int) (way other:Nat) (ws:Wr) (due:eK) (gn:Int) (l:List (aV×PV)) (right gr:Int) (lt:List (aV×PV)) (w:List Int) (a a2:aW) (rows1 rows2 rows0:List (Int×DV)) (H1 H2 H3:Mu):Prop where
 bel:gC lk 20 n=ac right
 row:kr (de α tab) n=ac (.tup [.int gn,.ptr a])
 p0:jp (de α tab) 900 (.tup [.int 0,.int right])=rows1
 p1:jp rows1 901 (.tup [.int 0,.bool (right==1)])=rows2
 p2:jp rows2 902 (.tup [.int 0,.none])=rows0
 e1:rows1.length<=2000
 e2:rows2.length<=2000
 f1:(PV.dS l).length<=1000000
 f2:(PV.dS (eH l (aa "Count") (KM right way))).length<=1000000
 f3:(PV.dS lt).length<=1000000
 r1:fE a (.sdic (PV.dS l)) (.sdic (PV.dS (eH l (aa "Count") (KM right way)))) (j4 α tab) H1
 lk1:kr (PV.dS (eH l (aa "Count") (KM right way))) (aa "Count")=ac (KM right way).d
 r2:way=6->fE a (.sdic (PV.dS (eH l (aa "Count") (KM right way)))) (.sdic (xd (PV.dS (eH l (aa "Count") (KM right way))) (aa "Count"))) H1 H2
 n2:way≠6->H1=H2
 top:kr rows0 root=ac (.tup [.int gr,.ptr a2])
 r3:other≠0->fE a2 (.sdic (PV.dS lt)) (.sdic (PV.dS (eH lt (aa "Parent") (Te root other)))) H2 H3
 n3:other=0->H2=H3
 rowF:rows0=de α (bW tab ws)
 hF:H3=j4 α (bW tab ws)
 keys:H3.map (·.1)=(j4 α tab).map (·.1)
 walk:gc lk2 20 root=ac w
 sound:d4 lk2 (bW tab ws)
 al:qG α (bW tab ws)
 due:due=rC w root n way other
theorem Vj{α:Al}{root n:Int}(hs:d4 lk tab)(htl:tab.length<60)(hal:qG α tab)(hkeys:ga tab)(a900:α 900=aq)(a901:α 901=aq)(a902:α 902=aq)(hroot:(α root).isSome=ai)(hn:(α n).isSome=ai)(hb:rH lk root n way other=ac (ws,due)):∃lk2 gn l right gr lt w a a2 rows1 rows2 rows0 H1 H2 H3,VN α tab lk lk2 root n way other ws due gn l right gr lt w a a2 rows1 rows2 rows0 H1 H2 H3:=by
 unfold rH at hb;obtain⟨gn,l,hlkn,hb⟩:∃gn l,lk n=ac (ac (gn,.dict l))/\(if 800<l.length then aq else match gC lk 20 n with
   |none=>aq|some right=>match bN lk [(900,0,.int right),(901,0,.bool (right==1)),(902,0,.null),(n,gn,.dict (je l way right))] root with
    |some (ac (gr,.dict lt))=>if 800<lt.length then aq else match gc (bN lk (gB gn n gr root l lt right way other)) 20 root with|none=>aq|some w=>ac (gB gn n gr root l lt right way other,rC w root n way other)
    |_=>aq)=ac (ws,due):=by
  split at hb;.exact jN _ _ (by assumption) hb
  .injection hb
 by_cases hl8:800<l.length;.injection (if_pos hl8).symm.trans hb
 have hb:=(if_neg hl8).symm.trans hb;cases hbel:gC lk 20 n with|none=>rw[hbel] at hb;injection hb|some right=>
 rw[hbel] at hb;dsimp only at hb;obtain⟨gr,lt,hlkr,hb⟩:∃gr lt,bN lk [(900,0,.int right),(901,0,.bool (right==1)),(902,0,.null),(n,gn,.dict (je l way right))] root=ac (ac (gr,.dict lt))/\(if 800<lt.length then aq else match gc (bN lk (gB gn n gr root l lt right way other)) 20 root with
     |none=>aq|some w=>ac (gB gn n gr root l lt right way other,rC w root n way other))=ac (ws,due):=by
  split at hb;.exact jN _ _ (by assumption) hb
  .injection hb
 by_cases hlt8:800<lt.length;.injection (if_pos hlt8).symm.trans hb
 have hb:=(if_neg hlt8).symm.trans hb;cases hwk:gc (bN lk (gB gn n gr root l lt right way other)) 20 root with|none=>rw[hwk] at hb;injection hb|some w=>
 rw[hwk] at hb;dsimp only at hb;injection hb with hb;injection hb with ew ed;have htn:=hs n _ hlkn;refine aY (cu.mp hn) fun a ha=>?_;refine aY (cu.mp hroot) fun a2 ha2=>?_;have n900:n≠900:=fun q=>by rw[q,a900] at ha;injection ha
 have n901:n≠901:=fun q=>by rw[q,a901] at ha;injection ha
 have n902:n≠902:=fun q=>by rw[q,a902] at ha;injection ha
 let t1:=cQ tab 900 0 (.int right);let t2:=cQ t1 901 0 (.bool (right==1));let tab0:=cQ t2 902 0 .null;have g1:t1.length<=61:=ae (kF _ _ _ _) (IY htl rfl);have g2:t2.length<=62:=ae (kF _ _ _ _) (GA g1 rfl);have htn0:tab0.lk n=ac (gn,.dict l):=by show(cQ t2 902 0 .null).lk n=_;rw[mO,if_neg n902,mO,if_neg n901,mO,if_neg n900];exact htn
 have hk0:ga tab0:=l9 _ _ _ _ (l9 _ _ _ _ (l9 _ _ _ _ hkeys));have hal0:qG α tab0:=sS (sS (sS hal fun h=>absurd a900 h) fun h=>absurd a901 h) fun h=>absurd a902 h;have ehs:j4 α tab0=j4 α tab:=by show j4 α (cQ t2 902 0 .null)=_;rw[zQ a902,zQ a901,zQ a900]
 let l1:=eH l (aa "Count") (KM right way);have hR1:=rg (l':=l1) ha hk0 htn0;rw[ehs] at hR1;let tab1:=cQ tab0 n gn (.dict (je l way right));have hs1:=kD hs [(900,0,.int right),(901,0,.bool (right==1)),(902,0,.null),(n,gn,.dict (je l way right))];have htr1:tab1.lk root=ac (gr,.dict lt):=hs1 root _ hlkr;have hk1:ga tab1:=l9 _ _ _ _ hk0;have hal1:qG α tab1:=sS hal0 fun zz=>⟨_,rfl⟩
 have er1:de α tab1=de α tab0:=xL ha hk0 htn0;have hs2:=kD hs (gB gn n gr root l lt right way other);have et2:bW tab (gB gn n gr root l lt right way other)=if other=0 then tab1 else cQ tab1 root gr (.dict (eH lt (aa "Parent") (Te root other))):=by
  unfold gB;by_cases h0:other=0;.rw[if_pos h0,if_pos h0];rfl
  .rw[if_neg h0,if_neg h0];rfl
 have hR2:=rg (l':=eH lt (aa "Parent") (Te root other)) ha2 hk1 htr1;have hb6:way=6->je l way right=sk l1 (aa "Count"):=fun h=>if_pos h;have hb5:way≠6->je l way right=l1:=fun h=>if_neg h;rw[ew] at et2 hs2 hwk;have eF:j4 α (bW tab ws)=if other=0 then j4 α tab1 else j4 α (cQ tab1 root gr (.dict (eH lt (aa "Parent") (Te root other)))):=by rw[et2];split<;>rfl
 refine⟨_,gn,l,right,gr,lt,w,a,a2,de α t1,de α t2,de α tab0,j4 α (cQ tab0 n gn (.dict l1)),j4 α tab1,_,hbel,Be ha htn,?_,?_,?_,?_,?_,?_,?_,?_,hR1,?_,fun h6=>?_,fun h6=>?_,?_,fun h0=>?_,fun h0=>?_,?_,rfl,?_,hwk,hs2,?_,ed.symm⟩;.rw[show DV.int right=PV.d (.int right) from by rw[PV.d],si a900]
 .rw[show DV.bool (right==1)=PV.d (.bool (right==1)) from by rw[PV.d],si a901]
 .rw[show(DV.none)=PV.d .null from by rw[PV.d],si a902]
 .unfold de;rw[af];exact jd g1 rfl
 .unfold de;rw[af];exact jd g2 rfl
 .rw[jX];exact Ph hl8 rfl
 .rw[jX];have:=lX l (aa "Count") (KM right way);exact XN hl8 this
 .rw[jX];exact Ph hlt8 rfl
 .rw[gu,I2];rfl
 .have htn1:(cQ tab0 n gn (.dict l1)).lk n=ac (gn,.dict l1):=by rw[mO,if_pos rfl]
  have:=rg (l':=sk l1 (aa "Count")) ha (l9 _ n gn (.dict l1) hk0) htn1;rw[Gg] at this;rw[IM];show fE a _ _ _ (j4 α (cQ tab0 n gn (.dict (je l way right))));rw[hb6 h6];exact this
 .show _=j4 α (cQ tab0 n gn (.dict (je l way right)));rw[hb5 h6]
 .rw[<-er1];exact Be ha2 htr1
 .rw[eF,if_neg h0];exact hR2
 .rw[eF,if_pos h0]
 .rw[et2,<-er1];split
  .rfl
  .exact(xL ha2 hk1 htr1).symm
 .have k1:=(rg (l':=je l way right) ha hk0 htn0).keys
  rw[ehs] at k1;rw[eF,<-k1];split;.rfl
  .exact hR2.keys
 .rw[et2];split
  .exact hal1
  .exact sS hal1 fun zz=>⟨_,rfl⟩
theorem MX{w:List Int}{root n:Int}{way other:Nat}:∀i,((w.take i).flatMap (lE root n way other)).length<=2*i:=by
 intro p0_;induction p0_ with|zero=>exact aI _|succ i ih=>
  have ih:=ih;rw[ci,FM,aS];have:((w[i]?.toList).flatMap (lE root n way other)).length<=2:=by cases w[i]? with|none=>exact a7 _|some x=>simp only[ct,H8,KF,bR];unfold lE;split<;>split<;>exact aj rfl
  exact XM ih this
theorem J3{w:List Int}{root n:Int}{way other i:Nat}{x:Int}(hx:w[i]?=ac x):(w.take (i+1)).flatMap (lE root n way other)=sJ (x==n&&!(way==1||way==2)) (x,aa "Count") (sJ (x==root&&decide (2<other)) (x,aa "Parent") ((w.take i).flatMap (lE root n way other))):=by rw[ci,FM,hx];simp only[ct,H8,KF,bR,lE];rw[<-gq,v9,v9]
theorem Ot(way:Nat):([iw 1,.int 2].any fun y=>a8 y (.int way))=(way==1||way==2):=by
 rcases way with _|_|_|w;.rfl
 .rfl
 .rfl
 .simp[a8];exact XK
theorem DR(right):([DV.bool (right==1),.int right,ij 900 0,ij 901 0,.int (right-9),.int (right+1),.none]:List DV)=(wr right).map PV.d:=by simp only[wr,au,bI,PV.d]
theorem Bo(root):([ij 990 0,ij 902 0,.int 5,ij 900 0,sq root]:List DV)=(uj root).map PV.d:=by simp only[uj,au,bI,PV.d]
noncomputable def QR(t r k:aW)(root n right:Int)(l:List Int)(way other:Nat)(a a2 da:aW)(x1:DV):aP:=[(aa "keg",.ptr k),(aa "shelf",bg t r),(aa "root",sq root),(aa "nodes",.lst (l.map DV.int)),(aa "way",.int way),(aa "other",.int other),(aa "number",.int n),(aa "head",.ptr a),(aa "right",.int right),(aa "top",.ptr a2),(aa "is_right",.bool (way==1||way==2)),(aa "due",.ptr da),(aa "one",x1)]
noncomputable def Vf(t r k:aW)(root n right:Int)(l:List Int)(way other:Nat)(a a2 da:aW)(w:List Int):Nat×DV->aP|(_,x1)=>QR t r k root n right l way other a a2 da x1
noncomputable def Vg(da:aW)(root n:Int)(way other:Nat)(w:List Int)(Z:Mu):Nat×DV->Mu|(i,_)=>(da,.lst (((w.take i).flatMap (lE root n way other)).map gy))::Z
theorem RU{Y Y':aP}(e:oq Y x d=ac Y')(h:P Y'):w6 x d Y P:=by unfold w6;rw[e];exact h
theorem ku(e:l++l'=l2)(R:fE a (.lst l) (.lst l2) Z Z')(D:LS Z d l')(hl:l.length+l'.length<=1000000)(q:Q .none Y Z'):cI G B E (.builtin "list.extend") ([.ptr a]++[d]) Y Z Q:=by subst e;exact Ck R D hl q
theorem gt2(other:Nat):decide ((other:Int)>2)=decide (2<other):=by
 by_cases h:2<other;.rw[decide_eq_true h];exact decide_eq_true (XJ h)
 .rw[decide_eq_false h];exact decide_eq_false (XI h)
theorem sK{D:eK}{l:List DV}(h:D.length<=m)(h2:m<=2000)(h3:l.length<=1):(D.map gy).length+l.length<=1000000:=by rw[af];exact XH h h2 h3
theorem ry{b:Bool}(h:b=ak)(y D):D.map gy++[]=(sJ b y D).map gy:=by subst h;exact bR _
theorem ym{b:Bool}(h:b=ai)(y D):D.map gy++[gy y]=(sJ b y D).map gy:=by subst h;show _=(D++[y]).map gy;rw[aA];rfl
section
variable (g : dK G) {t r : aW}
include g
theorem F8{α:Al}(k cells turn left root)(hc:cells.length<=63)(ht0:0<=turn)(ht1:turn<=500)(hl0:0<=left)(hs:d4 lk tab)(htl:tab.length<60)(hal:qG α tab)(hkeys:ga tab)(a900:α 900=aq)(a901:α 901=aq)(a902:α 902=aq)(hroot:(α root).isSome=ai)(hnn:0<(fg tab).length)(hn60:(fg tab).length<=60)(hna:∀n∈fg tab,(α n).isSome=ai)(hbent:∀n∈fg tab,∀way,way<7->∀other,other<6->(rH lk root n way other).isSome=ai):ir G 22 (.ref 593) [.ptr k,bg t r,sq root] ((t,.idic (de α tab))::(r,mo)::(k,.sdic (im cells turn left))::j4 α tab) (fun d Z'=>∃n way other ws due turn' left',n∈fg tab/\way<7/\other<6/\rH lk root n way other=ac (ws,due)/\turn<=turn'/\turn'<=turn+3/\0<=left'/\d=.lst (due.map gy)/\Z'=(t,.idic (de α (bW tab ws)))::(r,mo)::(k,.sdic (im cells turn' left'))::j4 α (bW tab ws)):=by
 have hrl:(de α tab).length=tab.length:=af ..;have hna0:fg tab≠[]:=FK.mp hnn;refine E6 (ps:=[aa "keg",aa "shelf",aa "root"]) (rest:=[aa "nodes",aa "way",aa "other",aa "number",aa "head",aa "right",aa "top",aa "is_right",aa "due",aa "one"]) g rfl rfl rfl rfl rfl rfl (rG fun zz zz zz=>rfl) rfl (.cons (rk g) (.cons (lj g) (.cons (qy g) (.cons (rn g) (.cons (dX g) (.cons (tu g) .nil)))))) (by kernel_rfl) fun B Q W hk hh hm henv hQ=>?_;walk_at "w";refine t9 W.O hh ?_ rfl (by rw[henv];kernel_rfl);walk_at "w";refine aw W.O (uP g (hs:=j4 α tab) (tab:=tab) (by rw[hrl];exact IY htl rfl) (zh hal fun p hp=>.tail _ (.tail _ hp))) (.inr hh) (.take (.take (.skip (.id _)))) (cN hk rfl) ?_;walk_at "w";refine eT W.O (jn g k cells turn left 7 hc ht0 (EY ht1 rfl) hl0 (by decide) (by decide)) (.inr hh) (.skip (.skip (.take .nil))) (cN hk rfl) ?_;intro d Z' h;refine eY h ?_;clear h;intro wayI turn1 left1 z1 hw0 hw7 ht10 ht11 hl1 z2;subst z1;subst z2;walk_at "w";refine eT W.O (jn g k cells turn1 left1 6 hc (ba ht0 ht10) (XG ht1 ht11) hl1 (by decide) (by decide)) (.inr hh) (.skip (.skip (.take .nil))) (cN hk rfl) ?_;intro d Z' h;refine eY h ?_;clear h;intro otherI turn2 left2 z3 ho0 ho6 ht20 ht21 hl2 z4;subst z3;subst z4;walk_at "w";refine SY (cH rfl) (cH rfl) (cH rfl) ?_;walk_at "w";refine I3 (.inl rfl) (by rw[af];exact jd hn60 rfl) (by rw[af]) ?_;walk_at "w";refine eT W.O (jn g k cells turn2 left2 _ hc (ba (ba ht0 ht10) ht20) (XD ht1 ht11 ht21) hl2 (ip hnn) (GZ hn60 rfl)) (.inr hh) (.skip (.skip (.take .nil))) (cN hk rfl) ?_;intro d Z' h;refine eY h ?_;clear h;intro pickI turn3 left3 z5 hp0 hp1 ht30 ht31 hl3 z6;subst z5;subst z6;obtain⟨n,hn⟩:∃n,(fg tab)[pickI.toNat]?=ac n:=⟨_,cM (XC hnn hp1)⟩
 have hnm:n∈fg tab:=cF hn;walk_at "w";refine lR (x:=.int n) (.inl rfl) hp0 (XB hn60 hp1) (by rw[bj,hn];rfl) ?_ (fun zz zz=>rfl);walk_at "w";obtain⟨way,rfl,hway⟩:∃w:Nat,wayI=(w:Int)/\w<7:=(bq wayI.toNat (by exact Pe hw0) (by exact XA hw7))
 obtain⟨other,rfl,hother⟩:∃w:Nat,otherI=(w:Int)/\w<6:=(bq otherI.toNat (by exact Pe ho0) (by exact Tl ho6))
 refine aY (cu.mp (hbent n hnm way hway other hother)) fun z7 hb=>?_;obtain⟨ws,due⟩:=z7;refine ei (Vj hs htl hal hkeys a900 a901 a902 hroot (hna n hnm) hb) fun lk2 gn l right gr y38=>ei y38 fun lt w a a2 rows1 y39=>ei y39 fun rows2 rows0 H1 H2 H3 V=>?_;refine g8 W.O hh ?_ rfl (by rw[henv];kernel_rfl);walk_at "w";refine cw (K:=Int) (l:=de α tab) (x:=.tup [.int gn,.ptr a]) (.inr (bq t rfl (.head _))) V.row ?_ (fun zz zz=>rfl);walk_at "w";refine eh (j:=1) (x:=.ptr a) (by decide) (by decide) rfl rfl ?_ (fun zz zz=>rfl);walk_at "w";refine aw W.O (C4 g hs (hs:=j4 α tab) (zh hal fun p hp=>.tail _ (.tail _ hp)) 20 n right V.bel) (.inr hh) (.take (.take (.skip (.id _)))) (cN hk rfl) ?_;walk_at "w";refine Ev (cH rfl) (cH rfl) ?_;walk_at "w";refine aw W.O (jm g 900 0 (.int right) (by intro h;injection h) (by rw[hrl];exact xh htl rfl)) (.inr hh) (.take (.take .nil)) (cN hk rfl) ?_;rw[V.p0];walk_at "w";refine aw W.O (jm g 901 0 (.bool (right==1)) (by intro h;injection h) V.e1) (.inr hh) (.take (.take .nil)) (cN hk rfl) ?_;rw[V.p1];walk_at "w";refine aw W.O (jm g 902 0 .none (by intro h;injection h) V.e2) (.inr hh) (.take (.take .nil)) (cN hk rfl) ?_;rw[V.p2];walk_at "w";refine aw W.O (dN g 900 0) (.inl rfl) .nil (cN hk rfl) ?_;walk_at "w";refine aw W.O (dN g 901 0) (.inl rfl) .nil (cN hk rfl) ?_;walk_at "w";refine eh (j:=way) (x:=(KM right way).d) (Xz) (Xy hway) (C7 (cb _) (d5.mpr hway) rfl) (by rw[DR];exact NR hway) ?_ (fun zz zz=>rfl);walk_at "w";refine iM (mN _ _ _) (.tail (.tail (.tail V.r1))) V.f1 ?_;walk_at "w";refine mn (fun H=>(t,.idic rows0)::(r,mo)::(k,.sdic (im cells turn3 left3))::H) H1 H2 ?_ fun Q' h6 hz=>?_;rotate_left
 .have h6:(way:Int)=6:=RF h6
  walk_at "w";refine qt (K:=aV) (l:=PV.dS (eH l (aa "Count") (KM right way))) (.inr (bq a rfl (.tail _ (.tail _ (.tail _ (V.r2 (Tk h6)).mem))))) Rq Rp (ie W ?_);walk_at "w";refine D4 (K:=aV) (.tail (.tail (.tail (V.r2 (Tk h6))))) V.f2 V.lk1 ?_;walk_at "w";exact hz
 intro H e;obtain rfl:H=H2:=by
  by_cases h6:way=6;.rw[e,h6];rfl
  .have:((way:Int)==6)=ak:=by rw[beq_eq_false_iff_ne];exact Xx h6
   rw[e,show((fun i j:Int=>i==j) (way:Int) 6)=ak from this];exact V.n2 h6
 clear e;walk_at "w";refine cw (K:=Int) (l:=rows0) (x:=.tup [.int gr,.ptr a2]) (.inr (bq t rfl (.head _))) V.top ?_ (fun zz zz=>rfl);walk_at "w";refine eh (j:=1) (x:=.ptr a2) (by decide) (by decide) rfl rfl ?_ (fun zz zz=>rfl);walk_at "w";refine mn (fun H=>(t,.idic rows0)::(r,mo)::(k,.sdic (im cells turn3 left3))::H) H H3 ?_ fun Q' h0 hz=>?_;rotate_left
 .have h0:(other:Int)>0:=of_decide_eq_true h0
  walk_at "w";refine aw W.O (dN g 990 0) (.inl rfl) .nil (cN hk rfl) ?_;walk_at "w";refine aw W.O (dN g 902 0) (.inl rfl) .nil (cN hk rfl) ?_;walk_at "w";refine aw W.O (dN g 900 0) (.inl rfl) .nil (cN hk rfl) ?_;walk_at "w";refine eh (j:=other-1) (x:=(Te root other).d) (Xw) (Xv hother) (by show mv ((other:Int)-((1:Nat):Int)) _=_;rw[<-w0 (show 1<=other by omega)];exact C7 (cb _) (d5.mpr (Tj hother)) rfl) (by rw[Bo];exact NR (by show other-1<5;exact Tj hother)) ?_ (fun zz zz=>rfl);walk_at "w";refine iM (mN _ _ _) (.tail (.tail (.tail (V.r3 (Xu h0))))) V.f3 ?_;walk_at "w";exact hz
 intro H' e;obtain rfl:H'=H3:=by
  by_cases h0:other=0;.rw[e,h0];exact V.n3 h0
  .rw[e,show((fun i j:Int=>decide (i>j)) (other:Int) 0)=ai from decide_eq_true (Xs h0)];rfl
 clear e;walk_at "w";refine g8 W.O hh ?_ rfl (by rw[henv];kernel_rfl);clear henv;walk_at "w";refine vo W (x:=.int way) (xs:=[.int 1,.int 2]) rfl rfl rfl (by decide +kernel) (Ot way) ?_;walk_at "w";refine pB W.O (ie W ?_);walk_at "w";refine⟨a7 _,fun da=>?_⟩;walk_at "w";refine Ev (cH rfl) (cH rfl) ?_;walk_at "w";have hRw:pO ((t,.idic rows0)::(r,mo)::H') rows0 (bW tab ws):=by have:=V.rowF;have:=V.hF;subst rows0;subst H';exact zh V.al fun p hp=>.tail _ (.tail _ hp)
 refine aw W.O (F4 g V.sound hRw 20 root w V.walk) (.inr hh) (.skip (.take (.take (.skip (.id _))))) (cN hk rfl) ?_;have hw9:=AT V.walk;clear hRw;walk_at "w";refine m8 (ρf:=Vf t r k root n right (fg tab) way other a a2 da w) (Zf:=Vg da root n way other w ((t,.idic rows0)::(r,mo)::(k,.sdic (im cells turn3 left3))::H')) W (cA W.O) (fun i s=>s.1=i) (0,_) rfl rfl rfl ?_ ?_
 .intro B' P R i d' s hd
  refine ar (dJ hd) fun x z8 hx=>?_;subst z8;have hiw:=kK hx;have hdl:=MX (w:=w) (root:=root) (n:=n) (way:=way) (other:=other) i;have hnx:=J3 (root:=root) (n:=n) (way:=way) (other:=other) hx;revert s;refine j3 fun i' x1 e W' zz hk' hh' zz hP hR=>?_;subst e;have hP:=hP (i'+1,.int x) rfl;unfold Vf Vg at hP ⊢;dsimp only at hP ⊢;rw[hnx] at hP;clear hnx hx hd;generalize(w.take i').flatMap (lE root n way other)=D0 at hdl hP ⊢;refine RU (Y':=QR t r k root n right (fg tab) way other a a2 da (.int x)) rfl ?_;refine RV (n:=99) (fun z:eK=>(QR t r k root n right (fg tab) way other a a2 da (.int x),(da,.lst (z.map gy))::(t,.idic rows0)::(r,mo)::(k,.sdic (im cells turn3 left3))::H')) (fun z=>z=sJ (x==root&&decide (2<other)) (x,aa "Parent") D0) (fun Q' hz=>?_) fun z hz=>?_
  .have hz:=hz _ rfl
   have hl:D0.length<=2000:=by exact Xr hw9 hiw hdl
   walk_at "w";refine kH (.inr (bq da rfl (.head _))) Lb La (ie W' ?_);walk_at "w";cases h1:(x==root) with|false=>refine iY h1 ?_;refine iY rfl ?_;walk_at "w";refine eL W'.O (ie W' ?_);walk_at "w";refine⟨a7 _,?_⟩;walk_at "w";refine ku (ry (b:=x==root&&decide (2<other)) (by rw[h1];rfl) (x,aa "Parent") D0) .head (.inl rfl) (sK hl (aI _) (a7 _)) ?_;walk_at "w";exact hz|true=>refine oS h1 ?_;walk_at "w";cases h2:decide (2<other) with|false=>refine iY ((gt2 other).trans h2) ?_;refine iY rfl ?_;walk_at "w";refine eL W'.O (ie W' ?_);walk_at "w";refine⟨a7 _,?_⟩;walk_at "w";refine ku (ry (b:=x==root&&decide (2<other)) (by rw[h1,h2];rfl) (x,aa "Parent") D0) .head (.inl rfl) (sK hl (aI _) (a7 _)) ?_;walk_at "w";exact hz|true=>refine oS ((gt2 other).trans h2) ?_;walk_at "w";refine eL W'.O (ie W' ?_);walk_at "w";refine⟨aj rfl,?_⟩;walk_at "w";refine ku (ym (b:=x==root&&decide (2<other)) (by rw[h1,h2];rfl) (x,aa "Parent") D0) .head (.inl rfl) (sK hl (aI _) (aI _)) ?_;walk_at "w";exact hz
  .have hl:z.length<=2000:=by have:=rz (x==root&&decide (2<other)) (x,aa "Parent") D0;rw[hz];exact Xq hw9 hiw hdl this
   rw[<-hz] at hP;clear hz;walk_at "w";refine kH (.inr (bq da rfl (.head _))) Lb La (ie W' ?_);walk_at "w";cases h1:(x==n) with|false=>refine iY h1 ?_;refine iY rfl ?_;walk_at "w";refine eL W'.O (ie W' ?_);walk_at "w";refine⟨a7 _,?_⟩;walk_at "w";refine ku (ry (b:=x==n&&!(way==1||way==2)) (by rw[h1];rfl) (x,aa "Count") z) .head (.inl rfl) (sK hl (aI _) (a7 _)) ?_;walk_at "w";exact hP|true=>refine oS h1 ?_;walk_at "w";cases h2:(!(way==1||way==2)) with|false=>walk_at "w";refine eL W'.O (ie W' ?_);walk_at "w";refine⟨a7 _,?_⟩;walk_at "w";refine ku (ry (b:=x==n&&!(way==1||way==2)) (by rw[h1,h2];rfl) (x,aa "Count") z) .head (.inl rfl) (sK hl (aI _) (a7 _)) ?_;walk_at "w";exact hP|true=>walk_at "w";refine eL W'.O (ie W' ?_);walk_at "w";refine⟨aj rfl,?_⟩;walk_at "w";refine ku (ym (b:=x==n&&!(way==1||way==2)) (by rw[h1,h2];rfl) (x,aa "Count") z) .head (.inl rfl) (sK hl (aI _) (aI _)) ?_;walk_at "w";exact hP
 .refine j3 fun i x1 e=>?_
  obtain rfl:i=_:=e;walk_at "w";refine hQ _ _ _ (B8 (by show _::_::_::H'.map (·.1)=_::_::_::(j4 α tab).map (·.1);rw[V.keys]) rfl ?_);refine⟨n,way,other,ws,due,turn3,left3,hnm,hway,hother,hb,by exact ba (ba ht10 ht20) ht30,by exact Xp ht11 ht21 ht31,hl3,?_,?_⟩;.rw[af,bt (aI _),V.due];rfl
  .rw[V.rowF,V.hF]
end
noncomputable def Jp(k:Int):Bool:=(decide (910<=k)&&decide (k<=941))||(k==950||k==951)
noncomputable def wW:Wr:=[(950,2,.ref 951 0),(951,0,.ref 950 2)]
noncomputable def lg(i:Nat)(one:Int):Nat->PV|0=>.ref one 0|m+1=>.ref (910+4*(i:Int)+(m:Int)) ((m:Int).fmod 2)
noncomputable def ef(i:Nat)(one:Int):Nat->Wr|0=>[]|m+1=>ef i one m++[(910+4*(i:Int)+(m:Int),(m:Int).fmod 2,lg i one m)]
theorem yt(i one){m}:ef i one (m+1)=(ef i one m++[(910+4*(i:Int)+(m:Int),(m:Int).fmod 2,lg i one m)]):=rfl
noncomputable def mB(tab:dE):Lk:=fun k=>if Jp k then aq else ac (tab.lk k)
noncomputable def nX(n0:Int)(leaves:List Int):List PV:=[.ref n0 0,.ref 990 0,.ref 950 2,.ref 900 0]++(leaves.take 1).map fun n=>.ref n 1
def Ks(ws:Wr):Prop:=∀w∈ws,Jp w.1=ai/\∃a b,w.2.2=.ref a b
theorem Tf:∀{ws:Wr},Ks ws->∀{tab:dE}{k:Int},¬Jp k=ai->(bW tab ws).lk k=tab.lk k:=by
 intro p0_;induction p0_ with
 |nil=>intro zz zz zz zz;exact rfl
 |cons w r' ih=>intro h tab k hk;unfold bW;rw[K7];refine(ih (fun x hx=>h x (.tail _ hx)) hk).trans ?_;rw[mO,if_neg];intro q;exact hk (q▸(h w (.head _)).1)
theorem IF(h:Ks ws):d4 (mB tab) (bW tab ws):=by
 intro k r e;unfold mB at e;by_cases hk:Jp k=ai;.rw[if_pos hk] at e;injection e
 .rw[if_neg hk] at e
  rw[Tf h hk];exact aB e
theorem yg(i one m):∃a b,lg i one m=.ref a b:=by cases m<;>exact⟨_,_,rfl⟩
theorem DX(hi:i<8)(one):∀m,m<=4->Ks (ef i one m)/\(ef i one m).length=m:=by
 intro p0_;induction p0_ with
 |zero=>intro zz;exact⟨(fun zz h=>nomatch h),rfl⟩
 |succ m ih=>
  intro h;refine aZ (ih (xh h rfl)) fun a b=>?_;refine⟨fun w hw=>?_,by(first|rw[chainW_e0]|rw[yt]|unfold ef);rw[aS,b];rfl⟩;(first|rw[chainW_e0] at hw|rw[yt] at hw|unfold ef at hw);rcases aJ.mp hw with hw|hw;.exact a w hw
  .cases ap.mp hw
   refine⟨?_,yg i one m⟩;unfold Jp;simp only[iH,aO,decide_eq_true_eq];left;exact Uq hi h
theorem CV{a b:Wr}(ha:Ks a)(hb:Ks b):Ks (a++b):=fun w hw=>(aJ.mp hw).elim (ha w) (hb w)
theorem qT(tab a b):bW tab (a++b)=bW (bW tab a) b:=by unfold bW;rw[lM]
theorem LI{a b:DV}(e:Gh x y a b Y=ac Y'):∃Y1,pF Y x a Y1/\pF Y1 y b Y':=by unfold Gh at e;cases h:oq Y x a with|none=>rw[h] at e;injection e|some Y1=>rw[h] at e;exact bq Y1 (cH h) (cH e)
def NE(x y:aV)(a b:DV)(Y:aP)(Q:aP->Prop):Prop:=match Gh x y a b Y with|some Y'=>Q Y'|none=>False
def Q6(G:G0)(B:Bx)(x y:aV)(px py tp:xA)(kk:Nat)(body:List jU)(Q:Fl->aP->Mu->Prop)(ds:List DV)(Y1:aP)(Z':Mu):Prop:=∃I:Nat->aP->Mu->Prop,I 0 Y1 Z'/\
 (∀i d,ds[i]?=ac d->∀Y2 Z2,I i Y2 Z2->wD G B (fun zz=>True) (.Tuple [.Name x px,.Name y py] kk tp) body (.tup [.int (i:Int),d]) (I (i+1)) Q Y2 Z2)/\
 (∀Y2 Z2,I ds.length Y2 Z2->Q .next Y2 Z2)
def VH(G:G0)(B:Bx)(x y:aV)(px py tp:xA)(kk:Nat)(body:List jU)(Q:Fl->aP->Mu->Prop):DV->aP->Mu->Prop:=fun d Y1 Z1=>∃ds e it Z',d=.ptr e/\Z1=zn G ds e it 0++Z'/\Q6 G B x y px py tp kk body Q ds Y1 Z'
section
variable {ff : Bool}
theorem FQ{Q:Fl->aP->Mu->Prop}(W:Wk G B gs ff)(hn:B.hd=ak)(hs:qx iter=ak)(h:(wI G B E gs ff [] 100).ev iter Y Z (tG (VH G B x y px py tp kk body Q))):EX G B E (fb (.For (.Tuple [.Name x px,.Name y py] kk tp) iter body [] pos) B.env) Y Z Q:=MB W.O hn (fun zz zz zz=>trivial) (Lj W h) (zc hs _)
theorem Ox{Q:Fl->aP->Mu->Prop}(W:Wk G B gs ff)(h:Q6 G B x y px py tp kk body Q ds Y Z):cI G B E (.type "enumerate") [.lst ds] Y Z (tG (VH G B x y px py tp kk body Q)):=Hw W.O fun zz zz=>.mk (kh _ _ _ _ rfl rfl h)
theorem Ll{σ:Type}{ρf:σ->aP}{Zf:σ->Mu}{Q:Fl->aP->Mu->Prop}(W:Wk G B gs ff)(hn:B.hd=ak)(I:Nat->σ->Prop)(s)(h0:I 0 s)(e1:Y=ρf s)(e2:Z=Zf s)(step:∀B' P R(i:Nat)d s,ds[i]?=ac d->I i s->Wk G B' gs ff->B'.env=B.env->B'.k=B.k->B'.hd=B.hd->(∀s',I (i+1) s'->P (ρf s') (Zf s'))->(∀d Y Z,Q (.ret d) Y Z->R (.ret d) Y Z)->NE x y (.int (i:Int)) d (ρf s) fun Y'=>(wI G B' (fun zz zz=>False) gs ff [] 100).exs body Y' (Zf s) (Q5 P R))(fin:∀s,I ds.length s->Q .next (ρf s) (Zf s)):Q6 G B x y px py tp kk body Q ds Y Z:=by
 subst e1;subst e2;refine⟨fun i Y Z=>∃s,I i s/\Y=ρf s/\Z=Zf s,⟨s,h0,rfl,rfl⟩,?_,fun Y2 Z2 h=>?_⟩
 .intro i d hd Y2 Z2 hI B' O' zz he hk hh hm
  refine bp hI ?_;clear hI;intro s hI e1 e2;subst e1;subst e2;have W':Wk G B' gs ff:=⟨O',fun h=>hh.trans (W.hf h),W.g,W.hg,he▸W.hk⟩
  have z:=step B' (fun Y Z=>∃s,I (i+1) s/\Y=ρf s/\Z=Zf s) (fun fl Y Z=>match fl with|.brk=>False|fl=>Q fl Y Z) i d s hd hI W' he hk hh (fun s' h=>(cB s' h rfl rfl)) fun zz zz zz h=>h;unfold NE at z;cases e:Gh x y (.int (i:Int)) d (ρf s) with|none=>rw[e] at z;exact z.elim|some Y'=>rw[e] at z;refine ar (LI e) fun Y1 p1 p2=>?_;refine Fs O' (hh.trans hn) p1 p2 (((W'.ok _).exs z).mono fun fl Y4 Z4 q=>?_);cases fl with|next=>exact At.get q|cont=>exact At.get q|brk=>exact(At.get q).elim|ret d=>exact At.get q
 .refine bp h ?_
  clear h;intro s hI e1 e2;subst e1;subst e2;exact fin s hI
end
theorem Ca(x:dE):x.d.length=x.length:=af ..
theorem Lg(n0 leaves):[ij n0 0,ij 990 0,ij 950 2,ij 900 0]++(leaves.take 1).map (fun n=>ij n 1)=(nX n0 leaves).map PV.d:=by unfold nX;rw[aA,bS];rfl
theorem FO(n0 leaves):(nX n0 leaves).length<=5:=by unfold nX;rw[aS,af];exact bn (qI _ _) 4
theorem DW(tab ws i x m):jp (bW tab (ws++ef i x m)).d (910+4*(i:Int)+(m:Int)) (.tup [.int ((m:Int).fmod 2),(lg i x m).d])=(bW tab (ws++ef i x (m+1))).d:=by rw[qU,show ef i x (m+1)=ef i x m++[(910+4*(i:Int)+(m:Int),(m:Int).fmod 2,lg i x m)] from rfl,<-gq,qT tab (ws++ef i x m)];rfl
theorem Jm(n):d6 n (DV.int (-1))=(d6 n (-1)).map DV.int:=by rw[List.map_replicate]
noncomputable def YX(k:aW)(leaves:List Int)(wrong:List PV):Wr×Int×Int×DV×DV×DV×DV->aP|(_,_,_,x1,x2,x3,x4)=>[(aa "keg",.ptr k),(aa "leaves",.lst (leaves.map DV.int)),(aa "wrong",.lst (wrong.map PV.d)),(aa "at",x1),(aa "one",x2),(aa "here",x3),(aa "turn",x4)]
noncomputable def Qq(L t r k:aW)(tab:dE)(tr:List (aV×PV))(cells:List Int):Wr×Int×Int×DV×DV×DV×DV->Mu|(ws,turn,left,_)=>[(L,MO.cell (bg t r)),(t,.idic (bW tab ws).d),(r,.sdic (PV.dS tr)),(k,.sdic (im cells turn left))]
def YZ(turn:Int)(i:Nat):Wr×Int×Int×DV×DV×DV×DV->Prop|(ws,turn',left',_)=>Ks ws/\ws.length<=2+4*i/\turn<=turn'/\turn'<=turn+i/\0<=left'
noncomputable def hrR(k:aW)(leaves:List Int)(wrong:List PV)(i:Nat)(x:Int):Nat×DV->aP|(m,y)=>[(aa "keg",.ptr k),(aa "leaves",.lst (leaves.map DV.int)),(aa "wrong",.lst (wrong.map PV.d)),(aa "at",.int (i:Int)),(aa "one",.int x),(aa "here",(lg i x m).d),(aa "turn",y)]
noncomputable def Z9(L t r k:aW)(tab:dE)(tr:List (aV×PV))(cells:List Int)(ws:Wr)(i:Nat)(x turn left:Int):Nat×DV->Mu|(m,_)=>[(L,MO.cell (bg t r)),(t,.idic (bW tab (ws++ef i x m)).d),(r,.sdic (PV.dS tr)),(k,.sdic (im cells turn left))]
theorem Y8(L t r k tab tr cells ws i x turn left y):Z9 L t r k tab tr cells ws i x turn left (0,y)=[(L,MO.cell (bg t r)),(t,.idic (bW tab ws).d),(r,.sdic (PV.dS tr)),(k,.sdic (im cells turn left))]:=by show[_,(t,MO.idic (bW tab (ws++[])).d),_,_]=_;rw[bR]
section
variable (g : dK G) {t r : aW}
include g
theorem yX(k cells turn left leaves ks n0)(hc:cells.length<=63)(ht0:0<=turn)(ht1:turn<=500)(hl0:0<=left)(htl:tab.length<=20)(hll:leaves.length<=8)(hW:cE (l6 (bW tab wW)) tr=ac (ac ks))(hn:(fg (bW tab wW))[0]?=ac n0)(hnl:(fg (bW tab wW)).length<=60)(hwr:∀v∈nX n0 leaves,∃h,fO (l6 (bW tab wW)) 64 [] v=ac h/\lC ks h=-1)(hch:∀i one,leaves[i]?=ac one->∀m,m<4->cE (bN (mB tab) (ef i one m)) tr=ac (ac ks)/\∃h,fO (bN (mB tab) (ef i one m)) 64 [] (lg i one m)=ac h/\lC ks h=i):ir G 8 (.ref 605) [.ptr k,bg t r,.lst (leaves.map DV.int)] [(t,.idic tab.d),(r,.sdic (PV.dS tr)),(k,.sdic (im cells turn left))] (fun d Z'=>∃ws turn' left',d=.bool ai/\Ks ws/\ws.length<=34/\turn<=turn'/\turn'<=turn+8/\0<=left'/\Z'=[(t,.idic (bW tab ws).d),(r,.sdic (PV.dS tr)),(k,.sdic (im cells turn' left'))]):=by
 have l1:=kF tab 950 2 (.ref 951 0);have l2:=kF (cQ tab 950 2 (.ref 951 0)) 951 0 (.ref 950 2);have hwl:=FO n0 leaves;refine iW (Y0:=[(aa "keg",.ptr k),(aa "leaves",.lst (leaves.map DV.int)),(aa "wrong",.any),(aa "at",.any),(aa "one",.any),(aa "here",.any),(aa "turn",.any)]) (Yc:=[bg t r]) (ps:=[aa "keg",aa "shelf",aa "leaves"]) (Z1:=fun L=>[(L+1,MO.cell (bg t r)),(t,.idic tab.d),(r,.sdic (PV.dS tr)),(k,.sdic (im cells turn left))]) g rfl rfl rfl rfl rfl (rG fun zz zz zz=>rfl) (.cons (dX g) (.cons (rk g) (.cons (qy g) (.cons (zV g) (.cons (ri g) (.cons (lj g) (.cons (me g) .nil))))))) (.inr (by kernel_rfl)) (by decide +kernel) ⟨rfl,?_,?_,?_,by simp only[au,bI];decide +kernel⟩ (fun zz=>rfl) ?_;.exact fun n=>dH (.inl rfl) (dH (.inr ⟨rfl,rfl⟩) (dH (.inl rfl) wO))
 .exact dH ⟨rfl,fun zz=>.head _⟩ (dH ⟨rfl,fun zz=>.tail _ (.tail _ (.head _))⟩ (dH ⟨rfl,fun h=>absurd rfl h⟩ (dH ⟨rfl,fun h=>absurd rfl h⟩ (dH ⟨rfl,fun h=>absurd rfl h⟩ (dH ⟨rfl,fun h=>absurd rfl h⟩ (dH ⟨rfl,fun h=>absurd rfl h⟩ wO))))))
 .intro n p hp
  cases ap.mp hp;exact jR rfl rfl (fun zz=>.tail _ (.head _))
 intro B Q W hk hh hm henv hQ;have hcs:df B.env (aa "shelf") (B.L+1):=by rw[henv];exact⟨rfl,rfl⟩
 walk_at "w";refine bD W hcs (.head _) (by intro h;injection h) (by decide +kernel) ?_;walk_at "w";refine aw W.O (dN g 951 0) (.inl rfl) .nil (cN hk rfl) ?_;walk_at "w";refine aw W.O (jm g 950 2 (PV.d (.ref 951 0)) (by intro h;injection h) (by rw[Ca];exact jd htl rfl)) (.inr hh) (.skip (.take (.take .nil))) (cN hk rfl) ?_;rw[qU];walk_at "w";refine bD W hcs (.head _) (by intro h;injection h) (by decide +kernel) ?_;walk_at "w";refine aw W.O (dN g 950 2) (.inl rfl) .nil (cN hk rfl) ?_;walk_at "w";refine aw W.O (jm g 951 0 (PV.d (.ref 950 2)) (by intro h;injection h) (by rw[Ca];exact Up htl l1)) (.inr hh) (.skip (.take (.take .nil))) (cN hk rfl) ?_;rw[qU,show cQ (cQ tab 950 2 (.ref 951 0)) 951 0 (.ref 950 2)=bW tab wW from rfl];walk_at "w";refine eL W.O (ie W ?_);walk_at "w";refine bD W hcs (.head _) (by intro h;injection h) (by decide +kernel) ?_;walk_at "w";have l3:(bW tab wW).length<=22:=by show(cQ (cQ tab 950 2 (.ref 951 0)) 951 0 (.ref 950 2)).length<=22;exact Uo htl l1 l2
 refine aw W.O (uP g (hs:=[]) (tab:=bW tab wW) (by rw[Ca];exact GA l3 rfl) (.self _ _)) (.inr hh) (.skip (.take (.take .nil))) (cN hk rfl) ?_;walk_at "w";refine lR (x:=.int n0) (.inl rfl) (mz 0) (by decide) (by rw[bj];exact congrArg (Eh DV.int) hn) ?_ (fun zz zz=>rfl);walk_at "w";refine aw W.O (dN g n0 0) (.inl rfl) .nil (cN hk rfl) ?_;walk_at "w";refine aw W.O (dN g 990 0) (.inl rfl) .nil (cN hk rfl) ?_;walk_at "w";refine aw W.O (dN g 950 2) (.inl rfl) .nil (cN hk rfl) ?_;walk_at "w";refine aw W.O (dN g 900 0) (.inl rfl) .nil (cN hk rfl) ?_;walk_at "w";refine⟨aj rfl,?_⟩;walk_at "w";refine ig (cl:=[]) W ⟨by rw[henv];rfl,by decide +kernel,rfl,by decide +kernel⟩ rfl rfl ?_;walk_at "w";refine tB W.O ?_;walk_at "w";refine bq _ rfl (fun sa=>?_);walk_at "w";refine qi W.O (.inl rfl) (by rw[af];exact jd hll rfl) ?_ (fun zz zz=>⟨_,rfl⟩);have hl1:(leaves.take 1).length<=1:=qI _ _;have ew:=Lg n0 leaves;rw[sn,show xN leaves aq (ac 1)=leaves.take 1 from vg leaves 1];generalize nX n0 leaves=wrong at hwl hwr ew;generalize leaves.take 1=lv at hl1 ew ⊢;walk_at "w";refine ft W (.cons (dX g) .nil) (by kernel_rfl) (cA W.O) (by rw[af];exact jd hl1 rfl) (fun i out Z=>out=(lv.take i).map (fun n=>ij n 1)/\Z=Qq (B.L+1) t r k tab tr cells (wW,turn,left,.none,.none,.none,.none)) ⟨rfl,rfl⟩ ?_ ?_
 .intro B' P i d' out Z2 hd hI W' hec hk' hh' zz hP
  refine aZ hI ?_;clear hI;intro e1 e2;subst e1;subst e2;refine ar (dJ hd) fun x z1 hx=>?_;subst z1;walk_at "w";refine aw W'.O (dN g x 1) (.inl rfl) .nil (cN (hk'.trans hk) rfl) ?_;walk_at "w";exact hP _ _ ⟨by rw[ci,hx,ct,aA];rfl,rfl⟩
 intro out Z hI;refine aZ hI ?_;clear hI;intro e1 e2;subst e1;subst e2;rw[af,bt (aI _)];walk_at "w";refine vq W.O (.inl rfl) (.inl rfl) (by rw[af];show 4+_<=_;exact Un hl1) ?_;rw[ew];clear ew hl1;walk_at "w";refine ig (cl:=[(aa "shelf",B.L+1)]) W ⟨by rw[henv];rfl,by decide +kernel,rfl,by decide +kernel⟩ rfl rfl ?_;walk_at "w";refine ft W (.cons (me g) .nil) (by kernel_rfl) (cA W.O) (by rw[af];exact jd hwl rfl) (fun i out Z=>out=((wrong.take i).map fun zz=>(-1:Int)).map DV.int/\Z=Qq (B.L+1) t r k tab tr cells (wW,turn,left,.none,.none,.none,.none)) ⟨rfl,rfl⟩ ?_ ?_
 .intro B' P i d' out Z2 hd hI W' hec hk' hh' zz hP
  refine aZ hI ?_;clear hI;intro e1 e2;subst e1;subst e2;refine ar (dJ hd) fun x z2 hx=>?_;subst z2;have hcc:df B'.env (aa "shelf") (B.L+1):=by rw[hec,henv];exact⟨rfl,rfl⟩
  clear hec henv hcs;refine ar (hwr x (cF hx)) fun hv hv1 hv2=>?_;walk_at "w";refine bD W' hcc (.head _) (by intro h;injection h) (by decide +kernel) ?_;walk_at "w";refine aw W'.O (kB g (jq _) x ks hW hv hv1) (.inr (hh'.trans hh)) (.skip (.take (.take .nil))) (cN (hk'.trans hk) rfl) ?_;walk_at "w";exact hP _ _ ⟨by rw[ci,hx,ct,aA,aA,hv2];rfl,rfl⟩
 intro out Z hI;refine aZ hI ?_;clear hI;intro e1 e2;subst e1;subst e2;rw[af,bt (aI _)];walk_at "w";refine eL W.O (ie W ?_);walk_at "w";refine⟨aj rfl,?_⟩;walk_at "w";refine I3 (.inl rfl) (by rw[af];exact jd hwl rfl) (by rw[af]) ?_;walk_at "w";refine LL W.O (jd hwl rfl) ?_;rw[Jm];walk_at "w";refine vk W.O (.inl rfl) (.inl rfl) ?_;rw[List.map_const',decide_eq_true rfl];walk_at "w";refine FQ W hh rfl ?_;walk_at "w";refine Ox W ?_;refine Ll (ρf:=YX k leaves wrong) (Zf:=Qq (B.L+1) t r k tab tr cells) W hh (YZ turn) (wW,turn,left,_,_,_,_) ⟨?_,aj rfl,mz _,by exact Um,hl0⟩ rfl rfl ?_ ?_
 .intro w hw
  rcases ao.mp hw with rfl|hw;.exact⟨rfl,_,_,rfl⟩
  .cases ap.mp hw
   exact⟨rfl,_,_,rfl⟩
 .intro B' P R i d' s hd
  refine ar (dJ hd) fun x z3 hx=>?_;subst z3;have hi8:i<8:=dt (kK hx) hll;revert s;refine NI fun ws turn' left' x1 x2 x3 x4 hI W' he hk' hh' hP hR=>?_;refine rB hI ?_;clear hI;intro hws hwl2 ht2 ht3 hl2;have hcc:df B'.env (aa "shelf") (B.L+1):=he▸hcs;have hh2:=hh'.trans hh;have hk2:=hk'.trans hk;clear hcs henv he;walk_at "w";refine aw W'.O (dN g x 0) (.inl rfl) .nil (cN hk2 rfl) ?_;walk_at "w";refine eT W'.O (jn g k cells turn' left' 4 hc (ba ht0 ht2) (Ul ht1 hi8 ht3) hl2 (by decide) (by decide)) (.inr hh2) (.skip (.skip (.skip (.take .nil)))) (cN hk2 rfl) ?_;intro d Z' h;refine eY h ?_;clear h;intro mI turn2 left2 z4 hm0 hm4 ht20 ht21 hl3 z5;subst z4;subst z5;walk_at "w";refine mY W'.O fun ra=>?_;walk_at "w";refine Ov (ρf:=hrR k leaves wrong i x) (Zf:=Z9 (B.L+1) t r k tab tr cells ws i x turn2 left2) W' (mR W'.O hh2 (GY hm4 rfl) (Uk hm0)) (fun m s=>s.1=m) (0,x4) rfl rfl (Y8 ..).symm ?_ ?_
  .intro B2 P2 R2 m d' s hd
   refine ar (dJ hd) fun q z6 hq=>?_;subst z6;obtain⟨hq1,hq2⟩:=cq.mp hq;rw[dG] at hq1;rw[List.getElem_range] at hq2;subst hq2;have hm3':m<4:=by exact Uj hm4 hq1
   have hcl:=(DX hi8 x m (Ui hm4 hq1)).2;have hpl:=lW tab (ws++ef i x m);rw[aS,hcl] at hpl;refine g5 (yg i x m) fun ha hb hab=>?_;have hne:(lg i x m).d≠.any:=by rw[hab];intro h;injection h
   revert s;refine j3 fun m' y e W2 zz he2 hk3 hh3 zz hP2 hR2=>?_;have e:m=m':=Ld e;subst e;have hcc2:df B2.env (aa "shelf") (B.L+1):=he2▸hcc;have hh4:=hh3.trans hh2;have hk4:=hk3.trans hk2;walk_at "w";refine bD W2 hcc2 (.head _) (by intro h;injection h) (by decide +kernel) ?_;walk_at "w";refine so (jH (by decide)) ?_;walk_at "w";refine kY (by decide) ?_;walk_at "w";refine aw W2.O (jm g (910+4*(i:Int)+(m:Int)) ((m:Int).fmod 2) (lg i x m).d hne (by rw[Ca];exact Uh htl hi8 hwl2 hm4 hq1 hpl)) (.inr hh4) (.skip (.take (.take .nil))) (cN hk4 rfl) ?_;rw[DW];walk_at "w";refine so (jH (by decide)) ?_;walk_at "w";refine kY (by decide) ?_;walk_at "w";refine aw W2.O (dN g (910+4*(i:Int)+(m:Int)) ((m:Int).fmod 2)) (.inl rfl) .nil (cN hk4 rfl) ?_;walk_at "w";exact hP2 (m+1,.int (m:Int)) rfl
  .refine j3 fun m y e=>?_
   obtain rfl:m=mI.toNat:=by rw[show m=_ from e,af,dG]
   have hm4:mI.toNat<4:=by exact Ug hm4
   refine aZ (DX hi8 x mI.toNat (b8 hm4)) fun hcu hcl=>?_;refine sM (hch i x hx mI.toNat hm4) fun hW1 hv hv1 hv2=>?_;walk_at "w";refine bD W' hcc (.head _) (by intro h;injection h) (by decide +kernel) ?_;walk_at "w";have hS:d4 (bN (mB tab) (ef i x mI.toNat)) (bW tab (ws++ef i x mI.toNat)):=by rw[qT];exact kD (IF hws) _
   refine aw W'.O (kB g hS (lg i x mI.toNat) ks hW1 hv hv1) (.inr hh2) (.skip (.take (.take .nil))) (cN hk2 rfl) ?_;rw[hv2];walk_at "w";refine iY (bne_self_eq_false _) ?_;walk_at "w";exact hP (ws++ef i x mI.toNat,turn2,left2,_,_,_,_) ⟨CV hws hcu,by rw[aS,hcl];exact(bX hwl2 (b8 hm4):_<=(2+4*i)+4),by exact ba ht2 ht20,by exact Uf ht3 ht21,hl3⟩
 .refine NI fun ws turn' left' x1 x2 x3 x4 hI=>?_
  refine rB hI ?_;clear hI;intro hws hwl2 ht2 ht3 hl2;rw[af] at hwl2 ht3;walk_at "w";exact hQ _ _ _ (kM rfl ⟨ws,turn',left',rfl,hws,by exact Ue hll hwl2,ht2,by exact Ud hll ht3,hl2,rfl⟩)
end
noncomputable def Eu:PV->DV|.null=>.tup [.str (aa "null")]|.bool b=>.tup [.str (aa "truth"),.int (if b then 1 else 0)]|.int i=>.tup [.str (aa "int"),.int i]|.name x=>.tup [.str (aa "name"),.str x]|.ref n g=>.tup [.str (aa "ref"),.int n,.int g]|_=>.none
noncomputable def lS(tl:PV->Option DV)(l:List (aV×PV))(x:aV):Option (List DV):=match fM l x with|none=>aq|some v=>if v.isNull then ac [] else(tl v).map fun d=>[.tup [.str x,d]]
noncomputable def fp:Nat->PV->Option DV
 |0,_=>aq|f+1,.arr l=>if 900<l.length then aq else(fh (fp f) l).map fun ds=>.tup (.str (aa "array")::ds)
 |f+1,.dict l=>if 63<l.length then aq else(fh (lS (fp f) l) (nn (l.map (·.1)))).map fun ds=>.tup (.str (aa "dict")::ds.flatten)
 |f+1,.stream h=>(fp f h).map fun d=>.tup [.str (aa "stream"),d,.byt #[]]
 |_+1,v=>ac (Eu v)
theorem lQ{f l}:fp (f+1) (.arr l)=(if 900<l.length then aq else(fh (fp f) l).map fun ds=>.tup (.str (aa "array")::ds)):=rfl
theorem lP{f l}:fp (f+1) (.dict l)=(if 63<l.length then aq else(fh (lS (fp f) l) (nn (l.map (·.1)))).map fun ds=>.tup (.str (aa "dict")::ds.flatten)):=rfl
theorem lO{f h}:fp (f+1) (.stream h)=((fp f h).map fun d=>.tup [.str (aa "stream"),d,.byt #[]]):=rfl
theorem F2{y:List DV}(e:lS tl l x=ac y):y.length<=1:=by
 unfold lS at e;split at e;.injection e
 .split at e
  ·(injection e with e;subst e);exact a7 _
  .refine ar (aD.mp e) fun d zz z1=>?_
   subst z1;exact aI _
set_option tactic.hygienic true in
theorem BW(h:∀x y,f x=ac y->y.length<=1):∀{l:List α}{r:List (List DV)},fh f l=ac r->r.flatten.length<=l.length
 |[],r,e=>by(injection e with e;subst e);exact aI _
 |a::l,r,e=>by
  (first|rw[mapO_e0] at e|rw[q0] at e|unfold fh at e);split at e;.injection e
  .rename_i y hy
   refine ar (aD.mp e) fun l' hl' z2=>?_;subst z2;have h1:=h _ _ hy;have h2:=BW h hl';rw[H7,aS,cK];exact Uc h1 h2
noncomputable def zi(f:Nat)(tab:dE)(n:Int):Option DV:=match tab.lk n with|none=>aq|some (gn,v)=>(fp f v).map fun d=>.tup [.int n,.int gn,d]
noncomputable def Rr(f:Nat)(tr:List (aV×PV)):Option DV:=if 63<tr.length then aq else(fh (lS (fp f) tr) (nn (tr.map (·.1)))).map fun ds=>.tup (.str (aa "dict")::ds.flatten)
noncomputable def mL(f:Nat)(tab:dE)(tr:List (aV×PV)):Option DV:=match fh (zi f tab) (kW (tab.map (·.1))),Rr f tr with|some rs,ac d=>ac (.tup [.tup rs,d])|_,_=>aq
theorem FV{y:List DV}(e:lS tl l x=ac y):∃v,kr (PV.dS l) x=ac v.d/\(v.isNull=ai->y=[])/\(v.isNull=ak->∃d,tl v=ac d/\y=[.tup [.str x,d]]):=by
 unfold lS at e;cases hv:fM l x with|none=>rw[hv] at e;injection e|some v=>
  rw[hv] at e;dsimp only at e;refine cB v (by rw[gu,hv];rfl) (fun h=>?_) (fun h=>?_);.rw[if_pos h] at e;exact(aB e).symm
  .rw[h,if_neg (by decide)] at e
   refine ar (aD.mp e) ?_;clear e;intro d hd e;exact bq d hd e.symm
theorem DI{ds:List (List DV)}{y:List DV}(h:ds[i]?=ac y):(ds.take (i+1)).flatten=(ds.take i).flatten++y:=by rw[ci,h,ct,qJ];simp
theorem xG{y:DV}(h:ds[i]?=ac y):ds.take i++[y]=ds.take (i+1):=by rw[ci,h,ct]
theorem uH{l:List α}{ds:List β}(h:ds.length=l.length):ds.take (l.map f).length=ds:=by rw[af,<-h];exact List.take_length
noncomputable def q6:PV->Nat|.null=>0|.bool _=>1|.int _=>2|.name _=>4|.ref _ _=>6|.arr _=>7|.dict _=>8|.stream _=>9
noncomputable def EM:Nat->aV|0=>aa "null"|1=>aa "truth"|2=>aa "int"|3=>aa "real"|4=>aa "name"|5=>aa "string"|6=>aa "ref"|7=>aa "array"|8=>aa "dict"|_=>aa "stream"
theorem Ja:∀n,n<10->∀k,k<10->decide (EM n=EM k)=(n==k):=by decide +kernel
theorem Jb(v):l8 v=EM (q6 v)/\q6 v<10:=by cases v<;>exact⟨rfl,aj rfl⟩
theorem j8(v k)(h:k<10):decide (l8 v=EM k)=(q6 v==k):=by refine aZ (Jb v) fun e l=>?_;rw[e];exact Ja _ l k h
theorem LF{n:Int}{y:DV}(h:zi f tab n=ac y):∃gn v d,kr tab.d n=ac (.tup [.int gn,v.d])/\fp f v=ac d/\y=.tup [.int n,.int gn,d]:=by unfold zi at h;cases e:tab.lk n with|none=>rw[e] at h;injection h|some p=>rw[e] at h;refine ar (aD.mp h) fun d hd e2=>?_;exact i0 p.1 p.2 d (by rw[dE.lkD,e];rfl) hd e2.symm
theorem F9(h:mL f tab tr=ac res):∃rs ds,fh (zi f tab) (kW (tab.map (·.1)))=ac rs/\fh (lS (fp f) tr) (nn (tr.map (·.1)))=ac ds/\tr.length<=63/\res=.tup [.tup rs,.tup (.str (aa "dict")::ds.flatten)]:=by
 unfold mL at h;cases h1:fh (zi f tab) (kW (tab.map (·.1))) with|none=>rw[h1] at h;injection h|some rs=>
  cases h2:Rr f tr with|none=>rw[h1,h2] at h;injection h|some d=>
   rw[h1,h2] at h;unfold Rr at h2;by_cases hl:63<tr.length;.injection (if_pos hl).symm.trans h2
   .refine ar (aD.mp ((if_neg hl).symm.trans h2)) fun ds hds e=>?_
    exact du rs ds rfl hds (b7 hl) (by rw[e];exact(aB h).symm)
theorem Lp(h:fp (f+1) (.arr l)=ac res):l.length<=900/\∃ds,fh (fp f) l=ac ds/\.tup (.str (aa "array")::ds)=res:=by
 (first|rw[toldP_e0] at h|rw[lQ] at h|rw[lP] at h|rw[lO] at h|unfold fp at h);by_cases hl:900<l.length;.injection (if_pos hl).symm.trans h
 .exact⟨b7 hl,aD.mp ((if_neg hl).symm.trans h)⟩
section
variable (g : dK G)
include g
theorem tR(v)(h:xZ v=ai):g6 G 1 (.ref 272) [.str (l8 v),v.d] [] (fun d Z'=>d=Eu v/\Z'=[]):=by
 refine ey (ps:=[aa "kind",aa "value"]) (rest:=[]) g rfl rfl rfl rfl rfl rfl (jL fun zz zz=>rfl) rfl (.cons (vT g) .nil) (by kernel_rfl) fun B Q W hk hh hm hQ=>?_;walk_at "w";refine dp W.O (cR v) (by decide +kernel) _ (j8 v 0 (by decide)) ?_;cases h0:(q6 v==0) with
 |true=>
  obtain rfl:v=.null:=by cases v<;>first|rfl|injection h0
  walk_at "w";exact hQ _ _ _ (cS rfl ⟨rfl,rfl⟩)
 |false=>
 walk_at "w";refine dp W.O (cR v) (by decide +kernel) _ (j8 v 1 (by decide)) ?_;cases h1:(q6 v==1) with
 |true=>
  obtain⟨b,rfl⟩:∃b,v=.bool b:=by cases v<;>first|exact⟨_,rfl⟩|injection h1
  walk_at "w";rw[PV.d];cases b with|true=>walk_at "w";exact hQ _ _ _ (cS rfl ⟨rfl,rfl⟩)|false=>walk_at "w";exact hQ _ _ _ (cS rfl ⟨rfl,rfl⟩)
 |false=>
 walk_at "w";refine dp W.O (cR v) (by decide +kernel) _ (j8 v 2 (by decide)) ?_;cases h2:(q6 v==2) with
 |true=>
  obtain⟨b,rfl⟩:∃b,v=.int b:=by cases v<;>first|exact⟨_,rfl⟩|injection h2
  walk_at "w";exact hQ _ _ _ (cS rfl ⟨by rw[PV.d];rfl,rfl⟩)
 |false=>
 walk_at "w";refine dp W.O (cR v) (by decide +kernel) ak ((j8 v 3 (by decide)).trans (by cases v<;>rfl)) ?_;walk_at "w";refine dp W.O (cR v) (by decide +kernel) _ (j8 v 4 (by decide)) ?_;cases h4:(q6 v==4) with
 |true=>
  obtain⟨b,rfl⟩:∃b,v=.name b:=by cases v<;>first|exact⟨_,rfl⟩|injection h4
  rw[PV.d];walk_at "w";exact hQ _ _ _ (cS rfl ⟨rfl,rfl⟩)
 |false=>
 walk_at "w";refine dp W.O (cR v) (by decide +kernel) ak ((j8 v 5 (by decide)).trans (by cases v<;>rfl)) ?_;obtain⟨n,gn,rfl⟩:∃n gn,v=.ref n gn:=by cases v<;>first|exact⟨_,_,rfl⟩|(cases h;done)|(cases h0;done)|(cases h1;done)|(cases h2;done)|injection h4
 rw[PV.d];walk_at "w";exact hQ _ _ _ (cS rfl ⟨rfl,rfl⟩)
theorem n9(f l ds d0 μ0)(hds:fh (lS (fp f) l) (nn (l.map (·.1)))=ac ds)(hl9:l.length<=63)(hne:d0≠.any)(hkd:g6 G 1 (.ref 265) [d0] μ0 (fun x Z'=>x=.str (aa "dict")/\Z'=μ0))(hD:∀Z,(∀p∈μ0,p∈Z)->DS Z d0 (PV.dS l))(ih:∀v res,fp f v=ac res->g6 G (f+1) (.ref 277) [v.d] [] (fun d Z'=>d=res/\Z'=[])):g6 G (f+2) (.ref 277) [d0] μ0 (fun d Z'=>d=.tup (.str (aa "dict")::ds.flatten)/\Z'=μ0):=by
 have hkl:(PV.dS l).length=l.length:=by rw[PV.dS_map,af]
 have hkm:(PV.dS l).map (·.1)=l.map (·.1):=by rw[PV.dS_map,bS];rfl
 have hsl:(nn (l.map (·.1))).length=l.length:=by rw[(qm _).length_eq,af]
 have hdl:ds.flatten.length<=64:=by have:=BW (fun x y e=>F2 e) hds;exact Ub hl9 hsl this
 refine iW (Y0:=[(aa "kind",.any)]) (Yc:=[d0]) (ps:=[aa "value"]) (Z1:=fun L=>(L+1,.cell (d0))::μ0) g rfl rfl rfl rfl rfl (gA fun zz=>rfl) (.cons (kL g) (.cons (vP g) (.cons (eR g) (.cons (sE g) (.cons (vT g) (.cons (p5 g) .nil)))))) (.inr (by kernel_rfl)) (by decide +kernel) ⟨rfl,fun n x hx=>(by cases ap.mp hx;exact .inr ⟨rfl,rfl⟩),fun p hp=>(by cases ap.mp hp;exact⟨rfl,fun h=>absurd rfl h⟩),fun n p hp=>(by cases ap.mp hp;exact(jR rfl rfl (fun zz=>bo))),by decide⟩ (fun zz=>rfl) fun B Q W hk hh hm henv hQ=>?_;have hcs:df B.env (aa "value") (B.L+1):=by rw[henv];exact⟨rfl,rfl⟩
 have hD':=hD ((B.L+1,MO.cell d0)::μ0) (fun p hp=>.tail _ hp);walk_at "w";refine bD W hcs (.head _) hne (by decide +kernel) ?_;walk_at "w";refine aw W.O hkd (.inl rfl) (.skip (.id _)) (cN hk (by simp)) ?_;walk_at "w";refine dp W.O (by decide +kernel) (by decide +kernel) ak (by decide +kernel) ?_;walk_at "w";refine dp W.O (by decide +kernel) (by decide +kernel) ai (by decide +kernel) ?_;walk_at "w";refine ig (cl:=[(aa "value",B.L+1)]) W ⟨by rw[henv];rfl,by decide +kernel,rfl,by decide +kernel⟩ rfl rfl ?_;walk_at "w";refine bD W hcs (.head _) hne (by decide +kernel) ?_;walk_at "w";refine uc W.O hD' (by rw[hkl];exact GA hl9 rfl) ?_;rw[hkm];walk_at "w";refine yN W (.cons (eR g) .nil) (by kernel_rfl) (cA W.O) (by rw[af];exact Ua hl9 hsl) (fun i out Z=>out=(ds.take i).flatten/\Z=(B.L+1,.cell d0)::μ0) ⟨rfl,rfl⟩ ?_ ?_
 .intro B' P i d' out Z2 hd hI W' hec hk' hh' zz hP
  refine aZ hI ?_;clear hI;intro e1 e2;subst e1;subst e2;refine ar (dJ hd) fun x z3 hx=>?_;subst z3;have hcc:df B'.env (aa "value") (B.L+1):=by rw[hec,henv];exact⟨rfl,rfl⟩
  clear hec henv hcs;refine ar (pp hds hx) fun y hy hyn=>?_;refine bp (FV hy) fun v hld hv1 hv2=>?_;have hP:=hP _ _ ⟨(DI hyn).symm,rfl⟩;walk_at "w";refine bD W' hcc (.head _) hne (by decide +kernel) ?_;walk_at "w";refine cw (K:=aV) (l:=PV.dS l) (x:=v.d) hD' hld ?_ (fun zz zz=>rfl);walk_at "w";refine gw (fB v) rfl ?_;cases hn:v.isNull with|true=>walk_at "w";rw[hv1 hn,bR] at hP;exact hP|false=>refine ar (hv2 hn) fun d' hd' e=>?_;rw[e] at hP;walk_at "w";refine bD W' hcc (.head _) hne (by decide +kernel) ?_;walk_at "w";refine cw (K:=aV) (l:=PV.dS l) (x:=v.d) hD' hld ?_ (fun zz zz=>rfl);walk_at "w";refine aw W'.O (ih v d' hd') (.inl rfl) .nil (cN (hk'.trans hk) (by simp)) ?_;walk_at "w";exact hP
 .intro out Z hI
  refine aZ hI ?_;clear hI;intro e1 e2;subst e1;subst e2;rw[uH ((l5 hds))];walk_at "w";refine kN (ds:=ds.flatten) W.O (jd hdl rfl) ?_;walk_at "w";refine qs W.O (by rw[bQ];exact T9 hdl) ?_;walk_at "w";exact hQ _ _ _ (kM rfl ⟨rfl,rfl⟩)
theorem xI:∀(f:Nat)v res,fp f v=ac res->g6 G (f+1) (.ref 277) [v.d] [] (fun d Z'=>d=res/\Z'=[]):=by
 intro f;induction f with
 |zero=>intro v res h;injection h
 |succ f ih=>
 intro v res h;cases hd:dn v.tg with
 |true=>
  refine aY (ut hd) fun l z4=>?_;subst z4;(first|rw[toldP_e0] at h|rw[lQ] at h|rw[lP] at h|rw[lO] at h|unfold fp at h);by_cases hl9:63<l.length;.injection (if_pos hl9).symm.trans h
  .refine ar (aD.mp ((if_neg hl9).symm.trans h)) fun ds hds z5=>?_
   subst z5;exact n9 g f l ds (PV.d (.dict l)) [] hds (Ph hl9 rfl) (PV.d_any _) (iO g (.dict l)) (fun Z zz=>by rw[PV.d];exact .inl rfl) ih
 |false=>
 refine iW (Y0:=[(aa "kind",.any)]) (Yc:=[v.d]) (ps:=[aa "value"]) (Z1:=fun L=>(L+1,.cell (v.d))::[]) g rfl rfl rfl rfl rfl (gA fun zz=>rfl) (.cons (kL g) (.cons (vP g) (.cons (eR g) (.cons (sE g) (.cons (vT g) (.cons (p5 g) .nil)))))) (.inr (by kernel_rfl)) (by decide +kernel) ⟨rfl,fun n x hx=>(by cases ap.mp hx;exact .inr ⟨rfl,rfl⟩),fun p hp=>(by cases ap.mp hp;exact⟨rfl,fun h=>absurd rfl h⟩),fun n p hp=>(by cases ap.mp hp;exact(jR rfl rfl (fun zz=>bo))),by decide⟩ (fun zz=>rfl) fun B Q W hk hh hm henv hQ=>?_;have hcs:df B.env (aa "value") (B.L+1):=by rw[henv];exact⟨rfl,rfl⟩
 walk_at "w";refine bD W hcs (.head _) (PV.d_any _) (by decide +kernel) ?_;walk_at "w";refine aw W.O (iO g v) (.inl rfl) .nil (cN hk (by simp)) ?_;walk_at "w";refine dp W.O (cR _) (by decide +kernel) _ (j8 v 7 (by decide)) ?_;cases ha:(q6 v==7) with
 |true=>
  obtain⟨l,rfl⟩:∃l,v=.arr l:=by cases v<;>first|exact⟨_,rfl⟩|injection ha
  refine sM (Lp h) fun hl9 ds hds z6=>?_;subst z6;have hdl:=l5 hds;walk_at "w";refine ig (cl:=[]) W ⟨by rw[henv];rfl,by decide +kernel,rfl,by decide +kernel⟩ rfl rfl ?_;clear henv;walk_at "w";refine bD W hcs (.head _) (PV.d_any _) (by decide +kernel) ?_;walk_at "w";refine ft W (ds:=l.map PV.d) (.cons (eR g) .nil) (by kernel_rfl) (by rw[PV.d,oO];exact cA W.O) (by rw[af];exact jd hl9 rfl) (fun i out Z=>out=ds.take i/\Z=[(B.L+1,.cell (PV.d (.arr l)))]) ⟨rfl,rfl⟩ ?_ ?_
  .intro B' P i d' out Z2 hd hI W' hec hk' hh' zz hP
   refine aZ hI ?_;clear hI;intro e1 e2;subst e1;subst e2;refine ar (dJ hd) fun x z7 hx=>?_;subst z7;refine ar (pp hds hx) fun y hy hyn=>?_;walk_at "w";refine aw W'.O (ih x y hy) (.inl rfl) .nil (cN (hk'.trans hk) (by simp)) ?_;walk_at "w";exact hP _ _ ⟨xG hyn,rfl⟩
  .intro out Z hI
   refine aZ hI ?_;clear hI;intro e1 e2;subst e1;subst e2;rw[uH hdl];walk_at "w";refine kN (ds:=ds) W.O (T8 hl9 hdl) ?_;walk_at "w";refine qs W.O (by rw[bQ];exact T7 hl9 hdl) ?_;walk_at "w";exact hQ _ _ _ (kM rfl ⟨rfl,rfl⟩)
 |false=>
 walk_at "w";refine dp W.O (cR _) (by decide +kernel) ak ((j8 v 8 (by decide)).trans (by cases v<;>first|rfl|injection hd)) ?_;walk_at "w";refine dp W.O (cR _) (by decide +kernel) _ (j8 v 9 (by decide)) ?_;cases hb:(q6 v==9) with
 |true=>
  obtain⟨l,rfl⟩:∃l,v=.stream l:=by cases v<;>first|exact⟨_,rfl⟩|injection hb
  (first|rw[toldP_e0] at h|rw[lQ] at h|rw[lP] at h|rw[lO] at h|unfold fp at h);refine ar (aD.mp h) fun dh hdh z8=>?_;subst z8;walk_at "w";refine bD W hcs (.head _) (PV.d_any _) (by decide +kernel) ?_;rw[show PV.d (.stream l)=pc l.d (.byt #[]) from by rw[PV.d]];walk_at "w";refine aw W.O (ih l dh hdh) (.inl rfl) .nil (cN hk (by simp)) ?_;walk_at "w";refine bD W hcs (.head _) (by intro h;injection h) (by decide +kernel) ?_;walk_at "w";refine Ar ?_;walk_at "w";exact hQ _ _ _ (kM rfl ⟨rfl,rfl⟩)
 |false=>
  have hlf:xZ v=ai:=by cases v<;>first|rfl|(cases ha;done)|(cases hb;done)|injection hd
  have e:res=Eu v:=by cases v<;>first|(cases hlf;done)|((injection h with h;subst h);rfl)
  walk_at "w";refine bD W hcs (.head _) (PV.d_any _) (by decide +kernel) ?_;walk_at "w";refine aw W.O (tR g v hlf) (.inl rfl) .nil (cN hk (by simp)) ?_;walk_at "w";exact hQ _ _ _ (kM rfl ⟨e.symm,rfl⟩)
theorem w9(a l):g6 G 1 (.ref 265) [.ptr a] [(a,.sdic l)] (fun d Z'=>d=.str (aa "dict")/\Z'=[(a,.sdic l)]):=by refine ey (ps:=[aa "value"]) (rest:=[]) g rfl rfl rfl rfl rfl rfl (gA fun zz=>rfl) rfl (.cons (cT g) (.cons (un g) (.cons (vR g) (.cons (vV g) (.cons (mU g) (.cons (yi g) (.cons (zT g) (.cons (jC g) (.cons (sH g) (.cons (dX g) .nil)))))))))) (by kernel_rfl) fun B Q W hk hh hm hQ=>?_;walk_at "w";refine gZ (b:=ak) rfl ?_;walk_at "w";refine eZ W.O bo (r:=ak) (by kernel_rfl) (by decide +kernel) clsv_bool ?_;walk_at "w";refine eZ W.O bo (r:=ak) (by kernel_rfl) (by decide +kernel) clsv_int ?_;walk_at "w";refine eZ W.O bo (r:=ak) (by kernel_rfl) (by decide +kernel) (Ci g) ?_;walk_at "w";refine eZ W.O bo (r:=ak) (by kernel_rfl) (by decide +kernel) (wu g) ?_;walk_at "w";refine eZ W.O bo (r:=ak) (by kernel_rfl) (by decide +kernel) (Ch g) ?_;walk_at "w";refine eZ W.O bo (r:=ak) (by kernel_rfl) (by decide +kernel) clsv_list ?_;walk_at "w";refine eZ W.O bo (r:=ai) (by kernel_rfl) (fun zz=>rfl) clsv_dict ?_;walk_at "w";exact hQ _ _ _ (cS rfl ⟨rfl,rfl⟩)
theorem m9(f res)(h:mL f tab tr=ac res)(hl:tab.length<64):g6 G (f+3) (.ref 365) [bg t r] (bz t r tab tr) (fun d Z'=>d=res/\Z'=bz t r tab tr):=by
 refine bB (F9 h) fun rs ds hrs hds hl9 z9=>?_;subst z9;have hrl:=l5 hrs;have hkm:tab.d.map (·.1)=tab.map (·.1):=by unfold dE.d;rw[bS];rfl
 have hsl:(kW (tab.map (·.1))).length=tab.length:=by rw[(ii _).length_eq,af]
 refine iW (Y0:=[(aa "rows",.any)]) (Yc:=[bg t r]) (ps:=[aa "self"]) (Z1:=fun L=>(L+1,.cell (bg t r))::bz t r tab tr) g rfl rfl rfl rfl rfl (gA fun zz=>rfl) (.cons (vP g) (.cons (eR g) .nil)) (.inr (by kernel_rfl)) (by decide +kernel) ⟨rfl,fun n x hx=>(by cases ap.mp hx;exact .inr ⟨rfl,rfl⟩),fun p hp=>(by cases ap.mp hp;exact⟨rfl,fun h=>absurd rfl h⟩),fun n p hp=>(by cases ap.mp hp;exact(jR rfl rfl (fun zz=>bo))),by decide⟩ (fun zz=>rfl) fun B Q W hk hh hm henv hQ=>?_;have hcs:df B.env (aa "self") (B.L+1):=by rw[henv];exact⟨rfl,rfl⟩
 walk_at "w";refine ig (cl:=[(aa "self",B.L+1)]) W ⟨by rw[henv];rfl,by decide +kernel,rfl,by decide +kernel⟩ rfl rfl ?_;walk_at "w";refine bD W hcs (.head _) (by intro h;injection h) (by decide +kernel) ?_;walk_at "w";refine aw W.O (qO g (by rw[Ca];exact hl)) (.inl rfl) (.skip (.take (.take .nil))) (cN hk (by simp)) ?_;rw[hkm];walk_at "w";refine ft W (.cons (eR g) .nil) (by kernel_rfl) (cA W.O) (by rw[af];exact T6 hl hsl) (fun i out Z=>out=rs.take i/\Z=(B.L+1,.cell (bg t r))::bz t r tab tr) ⟨rfl,rfl⟩ ?_ ?_
 .intro B' P i d' out Z2 hd hI W' hec hk' hh' zz hP
  refine aZ hI ?_;clear hI;intro e1 e2;subst e1;subst e2;refine ar (dJ hd) fun x z10 hx=>?_;subst z10;have hcc:df B'.env (aa "self") (B.L+1):=by rw[hec,henv];exact⟨rfl,rfl⟩
  clear hec henv hcs;refine ar (pp hrs hx) fun y hy hyn=>?_;refine bl (LF hy) fun gn v d' hld hd' z11=>?_;subst z11;walk_at "w";refine bD W' hcc (.head _) (by intro h;injection h) (by decide +kernel) ?_;walk_at "w";refine cw (K:=Int) (.inr (bq t rfl (.tail _ (.head _)))) hld ?_ (fun zz zz=>rfl);walk_at "w";refine eh (j:=0) (x:=.int gn) (by decide) (by decide) rfl rfl ?_ (fun zz zz=>rfl);walk_at "w";refine bD W' hcc (.head _) (by intro h;injection h) (by decide +kernel) ?_;walk_at "w";refine cw (K:=Int) (.inr (bq t rfl (.tail _ (.head _)))) hld ?_ (fun zz zz=>rfl);walk_at "w";refine eh (j:=1) (x:=v.d) (by decide) (by decide) rfl rfl ?_ (fun zz zz=>rfl);walk_at "w";refine aw W'.O (xI g f v d' hd') (.inl rfl) .nil (cN (hk'.trans hk) (by simp)) ?_;walk_at "w";exact hP _ _ ⟨xG hyn,rfl⟩
 .intro out Z hI
  refine aZ hI ?_;clear hI;intro e1 e2;subst e1;subst e2;rw[uH hrl];walk_at "w";refine kN (ds:=rs) W.O (T5 hl hrl hsl) ?_;walk_at "w";refine bD W hcs (.head _) (by intro h;injection h) (by decide +kernel) ?_;walk_at "w";refine aw W.O (n9 g f tr ds (.ptr r) [(r,.sdic (PV.dS tr))] hds hl9 (by intro h;injection h) (w9 g r _) (fun Z hZ=>.inr (bq r rfl (hZ _ (.head _)))) (xI g f)) (.inl rfl) (.skip (.skip (.take .nil))) (cN hk (by simp)) ?_;walk_at "w";exact hQ _ _ _ (kM rfl ⟨rfl,rfl⟩)
end
section
variable (g : dK G) {t r : aW}
include g
theorem nj{tab:dE}{tr:List (aV×PV)}{A:Mu}(f0 res)(hT:mL f0 tab tr=ac (.tup res))(hp:kG res=ai)(hd:wn res<=60)(hl:tab.length<64)(hf0:f0<=10)(fs:List aW)(hfs:fs.length<=900)(hf:∀f∈fs,∃q ps b sc cl Zc re R,(f,Dp q ps b sc cl)∈A/\iZ (bz t r tab tr++A) Zc re/\jf G 13 (.ref f) [] Zc R False):ir G 14 (.ref 586) [bg t r,.lst (fs.map DV.ptr)] (bz t r tab tr++A) (fun d Z'=>d=.bool ai/\Z'=bz t r tab tr++A):=by
 refine gf.sureOf (ok:=True) trivial ?_;refine ke (ps:=[aa "shelf",aa "asks"]) (rest:=[aa "before",aa "ask"]) g rfl rfl rfl rfl rfl rfl (jL fun zz zz=>rfl) rfl (.cons (dW g) .nil) (by kernel_rfl) fun B E Q W w hk hh hm hE hQ=>?_;walk_at "w";refine aw W.O (m9 g f0 (.tup res) hT hl) (.inl rfl) (.take (.take .nil)) (cN hk (by simp;exact jd hf0 rfl)) ?_;walk_at "w";refine m8 (ρf:=fun x=>[(aa "shelf",bg t r),(aa "asks",.lst (fs.map DV.ptr)),(aa "before",.tup res),(aa "ask",x)]) (Zf:=fun zz=>bz t r tab tr++A) W (cA W.O) (fun zz zz=>True) _ trivial rfl rfl ?_ ?_
 .intro B' P R i d' s hd1 zz W' w' hk' hh' zz hP hR
  refine ar (dJ hd1) fun f z1 hx=>?_;subst z1;refine ei (hf f (cF hx)) fun q ps b sc cl y8=>bl y8 fun Zc re R0 hmem hpick hspec=>?_;have hh2:=hh'.trans hh;have hk2:=hk'.trans hk;have hgk:B'.env.kindOf (aa "TreeFault")=ac .globalImplicit:=by simpa using aU.mp W'.hk _ (ap.mpr rfl)
  walk_at "w";refine JA W'.O (w' w) (v8 g).cls (dW g) hgk (by decide +kernel) (Y':=[(aa "shelf",bg t r),(aa "asks",.lst (fs.map DV.ptr)),(aa "before",.tup res),(aa "ask",.ptr f)]) (Z':=bz t r tab tr++A) ?_ ?_
  .intro B1 O1 he1 hk1 hh1 hm1
   have W1:Wk G B1 _ ai:=⟨O1,fun zz=>hh1.trans hh2,g,W.hg,he1▸W'.hk⟩
   refine g4 (E5 O1 (JM O1 ?_ rfl) rfl);walk_at "w";exact⟨f,q,ps,b,sc,cl,rfl,aK _ hmem,wy O1 hspec (hh1.trans hh2) hpick (cN (hk1.trans hk2) (by simp)) (fun zz e s' h=>h) (fun h=>h.elim)⟩
  .intro B3 O3 he3 hk3 hh3 hm3
   have W3:Wk G B3 _ ak:=⟨O3,fun h=>by(injection h),g,W.hg,he3▸W'.hk⟩
   refine uC W3 ?_;walk_at "v";refine aw O3 (m9 g f0 (.tup res) hT hl) (.inl rfl) (.take (.take .nil)) (cN (hk3.trans hk2) (by simp;exact jd hf0 rfl)) ?_;walk_at "w";refine Dc O3 hp hd ?_;walk_at "w";walk_at "v";exact hP _ trivial
 .intro s zz
  walk_at "w";exact hQ _ _ _ (cS rfl (jR trivial rfl rfl))
end
theorem yo{K:Type}[DecidableEq K][DK K](O:B.Ok G)(Zf:aW->Mu)(hp:∀a,W6 ((a,DK.mo ([]:List (K×DV)))::Z) (Zf a))(q:∀a,Q (.ptr a) Y (Zf a)):EV G B E (a9 (.Dict [] [] pos) B.env) Y Z Q:=by intro V s S;refine aQ (oK (K:=K) (Q:=fun d Y' Z'=>∃a,d=.ptr a/\Y'=Y/\Z'=(a,DK.mo ([]:List (K×DV)))::Z) O (fun a=>(cB a rfl rfl rfl)) V s S) (fun v s' o=>?_) fun zz zz x=>x;refine iI o ?_;clear o;intro d Y' Z' V' S' k' i' z1;refine bp z1 ?_;clear z1;intro a z2 z3 z4;subst z2;subst z3;subst z4;exact⟨_,_,_,V',S'.perm (hp a),k',i',q a⟩
section
variable (g : dK G)
include g
theorem r7(x dx t r):g6 G 1 (.ref 297) [.ptr x,.ptr t,.ptr r] [(x,.obj (cn 368 dx)),(dx,.flds [])] (fun d Z'=>∃l Zr,d=.none/\Z'=(x,.obj (cn 368 dx))::(dx,.flds l)::Zr/\(DV.inst 368 l=bg t r/\Zr=[])):=by
 refine E8 (Y0:=[(aa "self",.ptr x),(aa "table",.ptr t),(aa "trailer",.ptr r)]) g.ok (by rfl) rfl rfl rfl rfl rfl (by decide +kernel) rfl rfl (by rfl) ?_ (ns:=[aa "self",aa "table",aa "trailer"]) rfl (by decide +kernel) ?_
 .intro V s vs kb kv hi
  refine aM (aG.mp hi) ?_;clear hi;intro v1 r1 z5 i1 hi;subst z5;refine aM (aG.mp hi) ?_;clear hi;intro v2 r2 z6 i2 hi;subst z6;refine aM (aG.mp hi) ?_;clear hi;intro v3 r3 z7 i3 hi;subst z7;obtain rfl:=be.mp hi;refine cB [(aa "self",v1),(aa "table",v2),(aa "trailer",v3)] (CB rfl (kv _ _ (kb _ _ (g.ok.kin _ _ (by rfl)))) rfl rfl rfl) ?_ ?_;.exact dH rfl (dH rfl (dH rfl wO))
  .exact dH ⟨rfl,fun zz=>(bq v1 rfl i1)⟩ (dH ⟨rfl,fun zz=>(bq v2 rfl i2)⟩ (dH ⟨rfl,fun zz=>(bq v3 rfl i3)⟩ wO))
 .intro B O hk hh henv hm
  have W:Wk G B [] ak:=⟨O,fun h=>(by injection h),g,.nil,rfl⟩
  refine uC W ?_;walk_at "v";refine gZ (b:=ak) rfl ?_;walk_at "w";refine pJ (pV g) (by kernel_rfl) (aj rfl) ?_;walk_at "w";refine gZ (b:=ak) rfl ?_;walk_at "w";refine pJ (np g) (by kernel_rfl) (aj rfl) ?_;walk_at "w";refine gM rfl ?_;exact du _ _ rfl rfl rfl rfl
theorem A4(t r):g6 G 2 (.ref 368) [.ptr t,.ptr r] [] (fun d Z'=>d=bg t r/\Z'=[]):=kq g.ok (IZ g) fun x dx=>r7 g x dx t r
theorem r8(x dx):qa G ak 1 (.ref 297) [.ptr x] [(x,.obj (cn 368 dx)),(dx,.flds [])] (fun d new Z'=>∃l Zr,d=.none/\Z'=(x,.obj (cn 368 dx))::(dx,.flds l)::Zr/\(∃t r,DV.inst 368 l=bg t r/\new=[(t,.idic []),(r,.sdic [])]/\Zr=[])):=by
 refine JV (Y0:=[(aa "self",.ptr x),(aa "table",.none),(aa "trailer",.none)]) g.ok (by rfl) rfl rfl rfl rfl rfl (by decide +kernel) rfl rfl (by rfl) ?_ (ns:=[aa "self",aa "table",aa "trailer"]) rfl (by decide +kernel) ?_
 .intro V s vs kb kv hi
  refine aM (aG.mp hi) ?_;clear hi;intro v1 r1 z8 i1 hi;subst z8;obtain rfl:=be.mp hi;refine cB [(aa "self",v1),(aa "table",.none),(aa "trailer",.none)] (CB rfl (kv _ _ (kb _ _ (g.ok.kin _ _ (by rfl)))) rfl rfl rfl) ?_ ?_;.exact dH rfl (dH rfl (dH rfl wO))
  .intro p hp
   simp only[ao,cf,or_false] at hp;rcases hp with rfl|rfl|rfl;.exact⟨rfl,fun zz=>(bq v1 rfl i1)⟩
   .exact⟨rfl,fun zz=>(bq .none rfl (aT.mpr ⟨rfl,rfl⟩))⟩
   .exact⟨rfl,fun zz=>(bq .none rfl (aT.mpr ⟨rfl,rfl⟩))⟩
 .intro B O hk hh henv hm
  have W:Wk G B [] ai:=⟨O,fun h=>hh,g,.nil,rfl⟩
  refine uC W ?_;walk_at "v";refine gZ (b:=ai) rfl ?_;walk_at "w";refine yo (K:=Int) O (fun t=>[(x,MO.obj (cn 368 dx)),(dx,MO.flds []),(t,.idic [])]) (fun t=>(gR (l₁:=[(x,MO.obj (cn 368 dx)),(dx,MO.flds [])]) (l₂:=[])).symm) fun t=>?_;walk_at "w";refine pJ (pV g) (by kernel_rfl) (aj rfl) ?_;walk_at "w";refine gZ (b:=ai) rfl ?_;walk_at "w";refine yo (K:=aV) O (fun r=>[(x,MO.obj (cn 368 dx)),(dx,MO.flds [(aa "table",DV.ptr t)]),(r,.sdic []),(t,.idic [])]) (fun r=>(gR (l₁:=[(x,MO.obj (cn 368 dx)),(dx,MO.flds [(aa "table",DV.ptr t)])]) (l₂:=[(t,.idic [])])).symm) fun r=>?_;walk_at "w";refine pJ (np g) (by kernel_rfl) (aj rfl) ?_;walk_at "w";refine fF [(t,.idic []),(r,.sdic [])] [] [(x,MO.obj (cn 368 dx)),(dx,MO.flds [(aa "table",DV.ptr t),(aa "trailer",DV.ptr r)])] .none ?_ rfl ⟨_,_,rfl,rfl,t,r,rfl,rfl,rfl⟩ (.inr ⟨rfl,rfl⟩);exact(List.perm_append_comm (l₁:=[_,_]) (l₂:=[(r,_),(t,_)])).trans (.append_right _ (.swap _ _ _))
theorem A5:qa G ak 2 (.ref 368) [] [] (fun d new Z'=>∃t r,d=bg t r/\new=[(t,.idic []),(r,.sdic [])]/\Z'=[]):=C3 g.ok (IZ g) fun x dx=>r8 g x dx
end
@[reducible] noncomputable def ZX:RS:={posonlyargs:=[],args:=[],vararg:=aq,kwonlyargs:=[],kw_defaults:=[],kwarg:=aq,defaults:=[]}
@[reducible] noncomputable def Xl(x:String):Rk:={kind:=.function,names:=[(aa "shelf",.free),(aa x,.globalImplicit)],isGenerator:=ak,isCoroutine:=ak}
theorem MI(O:B.Ok G)(hk:B.env.kindOf x=ac .free)(hc:B.env.cells.lookup x=ac c)(hm:(c,MO.cell d)∈Z)(hn:d≠.any)(hd:(x==("__debug__" : aV))=ak)(hx:(x==("__classdict__" : aV))=ak)(q:Q d Y Z):EV G B E (a9 (.Name x pos) B.env) Y Z Q:=by intro V s S;refine aM (S.mu _ hm) fun o xv ho hdt hv=>?_;refine ar (hv hn) fun v z1 iv=>?_;subst z1;exact N9 (wpAny_loadName_free O.c.fn hk hc (bq o ho hdt) ⟨d,Y,Z,V,S,.refl _,iv,q⟩ hx) hd
section
variable (g : dK G) {t r : aW} {lk : Lk}
include g
theorem A6{nm:String}{es:List bZ}{ds:List DV}(hg:bY G (aa nm) (.raw (.ref fn)))(hf:bH G (.ref fn))(hn1:aa nm≠aa "shelf")(hn2:(aa nm==("__debug__" : aV))=ak)(hes:∀B E pos Y Z Q,Q ds Y Z->EL G B E (dA (cy pos (br es B.env))) Y Z Q)(hst:es.any oF=ak)(H:jf G j (.ref fn) (bg t r::ds) (bz t r tab tr) R ok)(hj:j<=12)(hok:¬ok)(f c q p1 p2 p3):jf G 13 (.ref f) [] [(t,.idic tab.d),(r,.sdic (PV.dS tr)),(f,Dp q ZX (.Call (.Name (aa nm) p1) (.Name (aa "shelf") p2::es) [] p3) (Xl nm) [(aa "shelf",c)]),(c,.cell (bg t r))] (fun zz zz=>True) False:=by
 refine QI (ok:=False) (clos:=[(aa "shelf",c)]) g.ok (.tail _ (.tail _ (.head _))) (fun zz zz zz=>rfl) rfl rfl rfl (fun x hx=>?_) ?_
 .rcases ao.mp hx with rfl|hx
  .decide
  .cases ap.mp hx;exact fun h=>by injection h
 intro B c' O w hk hh henv hm;have hk0:B.env.kindOf (aa nm)=ac .globalImplicit:=by rw[henv];show En (aa nm) [(aa "shelf",wL),(aa nm,wZ)]=_;rw[dY,show(aa nm==aa "shelf")=ak from beq_eq_false_iff_ne.mpr hn1];simp
 have hk1:B.env.kindOf (aa "shelf")=ac .free:=by rw[henv];rfl
 have hc1:B.env.cells.lookup (aa "shelf")=ac c:=by rw[henv];rfl
 clear henv;refine wf O (we O hg hk0 hn2 (Kh hf (ur (MI O hk1 hc1 (.tail _ (.tail _ (.tail _ (.head _)))) (by intro h;injection h) (by decide +kernel) (by decide +kernel) (hes _ _ _ _ _ _ ?_)) rfl))) rfl (qN (by rw[dD,hst];rfl));exact ww O w hm H hh (.take (.take .nil)) (T3 hj hk) (fun p hp=>hp) (fun zz e s' h=>⟨id,.fly h⟩) fun h=>(hok h).elim
theorem lU{nm:String}(hg:bY G (aa nm) (.raw (.ref fn)))(hf:bH G (.ref fn))(hn1:aa nm≠aa "shelf")(hn2:(aa nm==("__debug__" : aV))=ak)(H:jf G j (.ref fn) [bg t r] (bz t r tab tr) R ok)(hj:j<=12)(hok:¬ok)(f c q p1 p2 p3):jf G 13 (.ref f) [] [(t,.idic tab.d),(r,.sdic (PV.dS tr)),(f,Dp q ZX (.Call (.Name (aa nm) p1) [.Name (aa "shelf") p2] [] p3) (Xl nm) [(aa "shelf",c)]),(c,.cell (bg t r))] (fun zz zz=>True) False:=A6 g (es:=[]) (ds:=[]) hg hf hn1 hn2 (fun zz zz zz zz zz zz h=>Ai h) rfl H hj hok f c q p1 p2 p3
end
theorem JN{x:List UInt8}(q:Q (.byt x.toArray) Y Z):EV G B E (a9 (.Constant (.bytes x) k pos) B.env) Y Z Q:=fun V s S=>Constant_bytes ⟨.byt x.toArray,Y,Z,V,S.sat_toks _,.refl _,by show Exists _;exact⟨_,rfl⟩,q⟩
noncomputable def uz:List PV:=[.int 5,.null,.arr [.ref 3 0],.stream (.dict [(aa "Kids",.arr [])]),.bool ai,.name (aa "Pages")]
noncomputable def tQ(v:PV):dE:=[(1,0,.dict [(aa "Pages",.ref 2 0)]),(2,0,v),(3,0,.dict [(aa "Type",.name (aa "Page"))])]
noncomputable def trN:List (aV×PV):=[(aa "Root",.ref 1 0)]
noncomputable def iA:Nat->PV->Option DV
 |0,_=>aq|f+1,.arr l=>if 900<l.length then aq else(fh (iA f) l).map fun ds=>.tup (.str (aa "array")::ds)
 |f+1,.dict l=>if 63<l.length then aq else(fh (lS (iA f) l) (oj xj (l.map (·.1)))).map fun ds=>.tup (.str (aa "dict")::ds.flatten)
 |f+1,.stream h=>(iA f h).map fun d=>.tup [.str (aa "stream"),d,.byt #[]]
 |_+1,v=>ac (Eu v)
theorem uG{f l}:iA (f+1) (.arr l)=(if 900<l.length then aq else(fh (iA f) l).map fun ds=>.tup (.str (aa "array")::ds)):=rfl
theorem uF{f l}:iA (f+1) (.dict l)=(if 63<l.length then aq else(fh (lS (iA f) l) (oj xj (l.map (·.1)))).map fun ds=>.tup (.str (aa "dict")::ds.flatten)):=rfl
theorem uE{f h}:iA (f+1) (.stream h)=((iA f h).map fun d=>.tup [.str (aa "stream"),d,.byt #[]]):=rfl
theorem Et:∀(f:Nat)v,fp f v=iA f v:=by
 intro p0_;induction p0_ with
 |zero=>intro zz;exact rfl
 |succ f ih=>intro v;have ih:fp f=iA f:=funext (ih);cases v with|arr l=>(first|rw[toldP_e0]|rw[lQ]|rw[lP]|rw[lO]|unfold fp);(first|rw[toldQ_e0]|rw[uG]|rw[uF]|rw[uE]|unfold iA);rw[ih]|dict l=>(first|rw[toldP_e0]|rw[lQ]|rw[lP]|rw[lO]|unfold fp);(first|rw[toldQ_e0]|rw[uG]|rw[uF]|rw[uE]|unfold iA);rw[ih,yZ]|stream h=>(first|rw[toldP_e0]|rw[lQ]|rw[lP]|rw[lO]|unfold fp);(first|rw[toldQ_e0]|rw[uG]|rw[uF]|rw[uE]|unfold iA);rw[ih]|_=>rfl
noncomputable def O9(f:Nat)(tab:dE)(n:Int):Option DV:=match tab.lk n with|none=>aq|some (gn,v)=>(iA f v).map fun d=>.tup [.int n,.int gn,d]
noncomputable def za(f:Nat)(tab:dE)(tr:List (aV×PV)):Option DV:=match fh (O9 f tab) (oj (fun a b=>decide (a<=b)) (tab.map (·.1))),(if 63<tr.length then aq else(fh (lS (iA f) tr) (oj xj (tr.map (·.1)))).map fun ds=>DV.tup (.str (aa "dict")::ds.flatten)) with|some rs,ac d=>ac (.tup [.tup rs,d])|_,_=>aq
theorem IG(f tab tr):mL f tab tr=za f tab tr:=by
 have h:fp f=iA f:=funext (Et f);have h2:zi f tab=O9 f tab:=funext fun n=>by unfold zi O9;rw[h];try rfl
 unfold mL za Rr;rw[h2,h,Ey,yZ];try rfl
noncomputable def YL:Option DV->Bool|some (.tup l)=>kG l&&decide (wn l<=60)|_=>ak
set_option tactic.hygienic true in
theorem Pg(h:YL (za f tab tr)=ai):∃res,mL f tab tr=ac (.tup res)/\kG res=ai/\wn res<=60:=by
 rw[IG];unfold YL at h;split at h
 .rename_i l e
  rw[aO] at h;exact cB l e h.1 (of_decide_eq_true h.2)
 .injection h
def NW(v:PV):Prop:=fe (l6 (tQ v)) trN=ac aq/\l4 (l6 (tQ v)) trN=ac aq/\cE (l6 (tQ v)) trN=ac aq/\faultsP (l6 (tQ v)) trN=ac aq/\iQ (l6 (tQ v)) trN=ac aq/\YL (za 6 (tQ v) trN)=ai
theorem G3:∀v∈uz,NW v:=by intro v hv;unfold NW;simp only[uz,ao,cf,or_false] at hv;rcases hv with rfl|rfl|rfl|rfl|rfl|rfl;all_goals exact⟨by kernel_rfl,by kernel_rfl,by kernel_rfl,by kernel_rfl,by kernel_rfl,by kernel_rfl⟩
theorem mj(g:dK G):∀h,G.K.In h->W9 h 611 607:=fun h X=>⟨_,_,_,_,_,_,_,_,_,X _ _ (by rfl),rfl,rfl,rfl,rfl,rfl,rfl,rfl,rfl,by decide⟩
theorem Lu(v):MO.idic (tQ v).d=DK.mo [((1:Int),DV.tup [DV.int 0,DK.dv [(aa "Pages",ij 2 0)]]),(2,DV.tup [DV.int 0,v.d]),(3,DV.tup [DV.int 0,DK.dv [(aa "Type",xT (aa "Page"))]])]:=by unfold dE.d tQ;simp only[au,bI,PV.d,PV.dS];rfl
theorem OA:MO.sdic (PV.dS trN)=DK.mo [(aa "Root",ij 1 0)]:=by unfold trN;simp only[PV.d,PV.dS];rfl
theorem WP.permD{Z Z':Mu}{Q:β->aP->Mu->Prop}(h:Z.Perm Z')(w:WP G B E rel t Y Z' Q):WP G B E rel t Y Z Q:=fun V s S=>w V s (S.perm h)
section
variable (g : dK G)
include g
theorem ni(Bm:Nm G)(k cells turn left)(hc:cells.length<=63)(ht0:0<=turn)(ht1:turn<=500)(hl0:0<=left):ir G 16 (.ref 612) [.ptr k] [(607,.pr (jl [])),(k,.sdic (im cells turn left))] (fun d Z'=>∃ls turn' left',d=.bool ai/\Z'=[(607,.pr (jl ls)),(k,.sdic (im cells turn' left'))]):=by
 refine B7 [433,434,440] (Y0:=[(aa "keg",.ptr k),(aa "worth",.any),(aa "asks",.any)]) (Yc:=[.any]) (ps:=[aa "keg"]) (Z1:=fun L=>[(L+1,MO.cell .any),(607,.pr (jl [])),(k,.sdic (im cells turn left))]) g rfl rfl rfl rfl rfl (gA fun zz=>rfl) (.cons (dX g) (.cons (sH g) (.cons (mU g) (.cons (lj g) (.cons (BU g) (.cons (ln g) .nil)))))) (.inr (by kernel_rfl)) (by decide +kernel) ⟨rfl,?_,?_,?_,by simp only[au,bI];decide +kernel⟩ (fun zz=>rfl) ?_
 .intro n x hx
  cases ap.mp hx;exact .inl rfl
 .exact dH ⟨rfl,fun zz=>.head _⟩ (dH ⟨rfl,fun h=>absurd rfl h⟩ (dH ⟨rfl,fun h=>absurd rfl h⟩ wO))
 .intro n p hp
  cases ap.mp hp;exact jR rfl rfl (fun h=>absurd rfl h)
 intro B Q W hk hh hm henv hQ;have hcs:df B.env (aa "shelf") (B.L+1):=by rw[henv];exact⟨rfl,rfl⟩
 walk_at "w";refine eL W.O (ie W ?_);walk_at "w";refine aw W.O (dN g 3 0) (.inl rfl) .nil (cN hk rfl) ?_;walk_at "w";refine⟨aj rfl,?_⟩;walk_at "w";refine jF W rfl rfl (by simp) (by decide) fun da=>?_;walk_at "v";refine eL W.O (ie W ?_);walk_at "w";refine⟨aj rfl,?_⟩;walk_at "w";refine cB _ (by simp only[au,bI];decide +kernel) .head ?_;walk_at "w";refine JN ?_;walk_at "w";refine aw W.O (A3 g _ _ (by intro h;injection h) (by intro h;injection h)) (.inl rfl) .nil (cN hk rfl) ?_;walk_at "w";refine aw W.O (ko g (aa "Pages")) (.inl rfl) .nil (cN hk rfl) ?_;walk_at "w";refine eT W.O (jn g k cells turn left 6 hc ht0 (EY ht1 rfl) hl0 (by decide) (by decide)) (.inr hh) (.skip (.skip (.take .nil))) (cN hk rfl) ?_;intro d Z' h;refine eY h ?_;clear h;intro wI turn1 left1 z1 hw0 hw6 ht10 ht11 hl1 z2;subst z1;subst z2;obtain⟨v,hv⟩:∃v,uz[wI.toNat]?=ac v:=⟨_,cM (by show wI.toNat<6;exact Tl hw6)⟩
 have hvd:(uz.map PV.d)[wI.toNat]?=ac v.d:=by rw[bj,hv];rfl
 walk_at "w";refine eh (j:=wI.toNat) (x:=v.d) (T1 hw0) (T0 hw6) (C7 hw0 hw6 rfl) (by refine Eq.trans ?_ hvd;unfold uz;simp only[au,bI,PV.d,PV.dS,PV.dL];rfl) ?_ (fun zz zz=>rfl);walk_at "w";have hvn:v.d≠.any:=PV.d_any _;refine g4 (oJ (c:=B.L+1) W.O (Lj W ?_) rfl);walk_at "v"
 with_reducible refine' FR W ?a_1 ?b_1 ?c_1 ?d_1 ?h_1
 case a_1=>exact rfl
 case b_1=>exact rfl
 case c_1=>exact List.cons_ne_nil _ _
 case d_1=>exact aj rfl
 intro ta;walk_at "v";refine jF W rfl rfl (by simp) (by decide) fun da=>?_;walk_at "v";refine aw W.O (dN g 2 0) (.inl rfl) .nil (cN hk rfl) ?_;walk_at "w";refine cB _ (by simp only[au,bI];decide +kernel) .head ?_;walk_at "w";refine jF W rfl rfl (by simp) (by decide) fun da=>?_;walk_at "v";refine aw W.O (ko g (aa "Page")) (.inl rfl) .nil (cN hk rfl) ?_;walk_at "w";refine cB _ (by simp only[au,bI];decide +kernel) .head ?_;walk_at "w";refine cB _ (by simp only[au,bI];decide +kernel) .head ?_;walk_at "w";refine AV W rfl rfl (by simp) (by decide) fun ra=>?_;walk_at "v";refine aw W.O (dN g 1 0) (.inl rfl) .nil (cN hk rfl) ?_;walk_at "w";refine cB _ (by simp only[au,bI];decide +kernel) .head ?_;walk_at "w";refine aw W.O (A4 g ta ra) (.inl rfl) .nil (cN hk rfl) ?_;walk_at "w";refine bO _ _ hcs (.tail (.tail .head)) ?_;refine WP.permD (.swap _ _ _) ?_;have hcl:∀x:String,Ol (Xl x) B.env=pure [(aa "shelf",B.L+1)]:=fun x=>by rw[henv];rfl
 have hco:B.env.code=.ref 611:=by rw[henv];rfl
 clear henv;refine g4 ?_;walk_at "w";refine eL W.O (ie W ?_);walk_at "w";refine kt W.O Bm rfl (hcl "page_count") hco (mj g) (ls:=[]) rfl (.tail (.tail (.tail .head))) (by decide) fun f1=>?_;walk_at "w";refine kt W.O Bm rfl (hcl "page_at") hco (mj g) (by rfl) (.tail (.tail (.tail (.tail .head)))) (by decide) fun f2=>?_;walk_at "w";refine kt W.O Bm rfl (hcl "pages") hco (mj g) (by rfl) (.tail (.tail (.tail (.tail (.tail .head))))) (by decide) fun f3=>?_;walk_at "w";refine kt W.O Bm rfl (hcl "page_faults") hco (mj g) (by rfl) (.tail (.tail (.tail (.tail (.tail (.tail .head)))))) (by decide) fun f4=>?_;walk_at "w";refine kt W.O Bm rfl (hcl "settle") hco (mj g) (by rfl) (.tail (.tail (.tail (.tail (.tail (.tail (.tail .head))))))) (by decide) fun f5=>?_;walk_at "w";refine⟨aj rfl,?_⟩;walk_at "w";refine iX (G3 v (cF hv)) fun hg1 hg2 hg3 hg4 hg5 hok=>?_;refine bp (Pg hok) fun res hr1 hr2 hr3=>?_;have hs:d4 (l6 (tQ v)) (tQ v):=jq _;refine WP.permD (Z':=(ta,.idic (tQ v).d)::(ra,.sdic (PV.dS trN))::[_,_,_,_,_,_,_,_]) (by rw[Lu,OA];exact cO [_,_,_,_,_] [_,_] _) ?_;refine yM W ?_;walk_at "v";refine bD W hcs (.tail _ (.tail _ (.tail _ (.tail _ (.tail _ (.tail _ (.tail _ (.head _)))))))) (by intro h;injection h) (by decide +kernel) ?_;walk_at "w";refine aw W.O (nj g (tab:=tQ v) (tr:=trN) (A:=[_,_,_,_,_,_]) 6 res hr1 hr2 hr3 (aj rfl) (by decide) [f1,f2,f3,f4,f5] (aj rfl) ?hf) (.inr hh) (.take (.take (.take (.take (.take (.take (.take (.take .nil)))))))) (cN hk rfl) ?_;case hf=>exact dH (⟨_,_,_,_,_,_,_,_,.tail _ (.tail _ (.tail _ (.tail _ (.head _)))),.take (.take (.skip (.skip (.skip (.skip (.take (.take .nil))))))),lU g (lD g) (Dq g) (by decide +kernel) (by decide +kernel) (g7 g hs aq hg1) (by decide) (by decide) _ (B.L+1) _ _ _ _⟩) (dH (⟨_,_,_,_,_,_,_,_,.tail _ (.tail _ (.tail _ (.head _))),.take (.take (.skip (.skip (.skip (.take (.skip (.take .nil))))))),A6 g (es:=[.Constant (.int 0) 0 _]) (ds:=[.int 0]) (DB g) (I8 g) (by decide +kernel) (by decide +kernel) (fun zz zz zz zz zz zz h=>ur (JK (Ai h)) rfl) rfl (yU g hs 0 hg2) (by decide) (fun h=>h) _ (B.L+1) _ _ _ _⟩) (dH (⟨_,_,_,_,_,_,_,_,.tail _ (.tail _ (.head _)),.take (.take (.skip (.skip (.take (.skip (.skip (.take .nil))))))),lU g (BR g) (I9 g) (by decide +kernel) (by decide +kernel) (ql g hs aq hg3 (fun k h=>nomatch h)) (by decide) (by decide) _ (B.L+1) _ _ _ _⟩) (dH (⟨_,_,_,_,_,_,_,_,.tail _ (.head _),.take (.take (.skip (.take (.skip (.skip (.skip (.take .nil))))))),lU g (oG g) (I7 g) (by decide +kernel) (by decide +kernel) (jo g hs aq hg4) (by decide) (by decide) _ (B.L+1) _ _ _ _⟩) (dH (⟨_,_,_,_,_,_,_,_,.head _,.take (.take (.take (.skip (.skip (.skip (.skip (.take .nil))))))),lU g (sF g) (I6 g) (by decide +kernel) (by decide +kernel) (oa g hs (aj rfl) aq hg5) (by decide) (by decide) _ (B.L+1) _ _ _ _⟩) wO))))
 walk_at "w";walk_at "v";exact hQ _ _ _ (ez [_,_,_,_,_,_,_,_] [_,_] _ (.refl _) rfl (oW _ _ _ rfl rfl) (.inl rfl))
end
theorem Fd{x:aW}(h:Is prog w V (PV.d (.arr l)) (.ref x)):∃o vs n,V x=ac o/\o.data=.seq vs n/\Mine.gO prog w V (l.map PV.d) vs.toList:=by rw[PV.d,oO] at h;refine bE h ?_;clear h;intro a o vs n e h1 h2 h3 h4 h5;(injection e with e;subst e);exact i0 o vs n h1 h4 h5
theorem wo{x:aW}(h:Is prog w V (PV.d (.dict l)) (.ref x)):∃o kvs,V x=ac o/\o.IsDictOf (strKind prog w) kvs/\Cs prog w V (PV.dS l) kvs:=by rw[PV.d] at h;refine bU h ?_;clear h;intro a o kvs e h1 h2 h3 h4;(injection e with e;subst e);exact bO o kvs h1 h3 h4
theorem B9{x:aW}(h:Is prog w V (.inst C l) (.ref x)):∃dx es n,V x=ac (cn C dx)/\V dx=ac (jg es n)/\yx prog w V l es:=by refine d9 h ?_;clear h;intro a dx es n e h1 h2 h3;(injection e with e;subst e);exact i0 dx es n h1 h2 h3
noncomputable def knd:PV->Nat|.null=>0|.bool _=>1|.int _=>2|.arr _=>3|.dict _=>4|.name _=>188|.ref _ _=>259|.stream _=>231
noncomputable def GP(V:Vw):aE->Option Nat
 |.none=>ac 0|.bool _=>ac 1|.int _ _=>ac 2|.ref a=>match V a with
  |some o=>match o.data,o.cls with|.seq _ _,_=>ac 3|.dict _ _,_=>ac 4|.plain,.ref C=>ac (C+5)|_,_=>aq
  |none=>aq
 |_=>aq
theorem fu:∀a v,Is prog w V a.d v->GP V v=ac (knd a)
 |.null,v,h=>by rw[PV.d] at h;refine aZ (aT.mp h) fun z1 zz=>?_;subst z1;rfl
 |.bool b,v,h=>by rw[PV.d] at h;refine aZ (aT.mp h) fun z2 zz=>?_;subst z2;rfl
 |.int i,v,h=>by rw[PV.d] at h;refine aY (bA.mp h) fun t z3=>?_;subst z3;rfl
 |.arr l,v,h=>by have h0:=h;refine bE h0 ?_;clear h0;intro a o vs n z4 h1 h2 h3 h4 h5;subst z4;unfold GP;dsimp only;rw[h1];dsimp only;rw[h4];rfl
 |.dict l,v,h=>by have h0:=h;refine bU h0 ?_;clear h0;intro a o kvs z5 h1 h2 z6 h4;subst z5;refine aM z6 ?_;clear z6;intro es ep zz hd zz;unfold GP;dsimp only;rw[h1];dsimp only;rw[hd];rfl
 |.name x,v,h=>by refine fD h ?_;clear h;intro a dx es n z7 h1 zz;subst z7;unfold GP;dsimp only;rw[h1];rfl
 |.ref x y,v,h=>by refine fD h ?_;clear h;intro a dx es n z8 h1 zz;subst z8;unfold GP;dsimp only;rw[h1];rfl
 |.stream x,v,h=>by refine fD h ?_;clear h;intro a dx es n z9 h1 zz;subst z9;unfold GP;dsimp only;rw[h1];rfl
theorem sg{x:aW}(h:Is prog w V (.inst C l) (.ref x))(h':Is prog w V (.inst C' l') (.ref x)):∃es,yx prog w V l es/\yx prog w V l' es:=by refine bl (B9 h) fun dx es k h1 h2 h3=>?_;refine bl (B9 h') fun dx' es' k' h1' h2' h3'=>?_;have e:ac dx=ac dx':=congrArg (·.dict) (aB (h1.symm.trans h1'));have e2:=aB (h2.symm.trans ((congrArg V (aB e)).trans h2'));unfold jg at e2;injection e2 with _ _ e3 _;injection e3 with e4 _;rw[show es=es' by simpa using e4] at h3;exact bq es' h3 h3'
theorem IH{x:aW}{n g n' g':Int}(h:Is prog w V (ij n g) (.ref x))(h':Is prog w V (ij n' g') (.ref x)):n=n'/\g=g':=by refine ar (sg h h') fun es h3 h3'=>?_;refine bB h3 ?_;clear h3;intro e1 r1 z10 zz i1 y40;refine bB y40 ?_;clear y40;intro e2 r2 z11 zz i2 zz;subst z10;subst z11;refine bB h3' ?_;clear h3';intro f1 q1 ee zz j1 y41;refine bB y41 ?_;clear y41;intro f2 q2 ee2 zz j2 zz;(injection ee with q46 q47;subst q46;subst q47);(injection ee2 with q44 q45;subst q44;subst q45);refine aY (bA.mp i1) fun t1 a1=>?_;refine aY (bA.mp j1) fun t2 a2=>?_;refine aY (bA.mp i2) fun t3 a3=>?_;refine aY (bA.mp j2) fun t4 a4=>?_;rw[a1] at a2;rw[a3] at a4;(injection a2 with q42 q43;subst q42;subst q43);(injection a4 with q40 q41;subst q40;subst q41);exact⟨rfl,rfl⟩
theorem Gb{x:aW}(h:Is prog w V (xT n) (.ref x))(h':Is prog w V (xT n') (.ref x)):n=n':=by refine ar (sg h h') fun es h3 h3'=>?_;refine bB h3 ?_;clear h3;intro e1 r1 z12 zz i1 zz;subst z12;refine bB h3' ?_;clear h3';intro f1 q1 ee zz j1 zz;(injection ee with q37 q38;subst q37;subst q38);refine aY (io.mp i1) fun t1 a1=>?_;refine aY (io.mp j1) fun t2 a2=>?_;rw[a1] at a2;cases a2;rfl
theorem Bd{x:aW}(h:Is prog w V (pc d (.byt #[])) (.ref x))(h':Is prog w V (pc d' (.byt #[])) (.ref x)):∃u,Is prog w V d u/\Is prog w V d' u:=by refine ar (sg h h') fun es h3 h3'=>?_;refine bB h3 ?_;clear h3;intro e1 r1 z13 zz i1 zz;subst z13;refine bB h3' ?_;clear h3';intro f1 q1 ee zz j1 zz;(injection ee with q34 q35;subst q34;subst q35);exact bq _ i1 j1
theorem ph{a:PV}(h:Is prog w V a.d v)(hk:3<=knd a):∃x,v=.ref x:=by
 cases a with
 |null=>exact absurd hk (by decide)|bool _=>exact absurd hk (show ¬3<=1 by decide)|int _=>exact absurd hk (show ¬3<=2 by decide)|dict _=>exact sL h fun a _ _ z=>⟨a,z.1⟩
 |_=>exact uq h fun a _ _ _ z=>⟨a,z.1⟩
theorem nk{a b:Nat}{C:Prop}(h:ac a=ac b)(n:tL a b=ak):C:=absurd (aB h) (nT n)
set_option tactic.hygienic true in
mutual
theorem WK:∀(a b:PV)v,Is prog w V a.d v->Is prog w V b.d v->a=b
 |.null,b,v,h,h'=>by have hk:=(fu _ v h).symm.trans (fu b v h');cases b<;>first|rfl|exact nk hk rfl
 |.bool x,b,v,h,h'=>by
  have hk:=(fu _ v h).symm.trans (fu b v h');cases b<;>first|exact nk hk rfl|skip
  rw[PV.d] at h h';refine aZ (aT.mp h) fun z14 zz=>?_;subst z14;refine aZ (aT.mp h') fun e zz=>?_;(injection e with e;subst e);rfl
 |.int x,b,v,h,h'=>by
  have hk:=(fu _ v h).symm.trans (fu b v h');cases b<;>first|exact nk hk rfl|skip
  rw[PV.d] at h h';refine aY (bA.mp h) fun t z15=>?_;subst z15;refine aY (bA.mp h') fun u e=>?_;(injection e with q32 q33;subst q32;subst q33);rfl
 |.name x,b,v,h,h'=>by
  have hk:=(fu _ v h).symm.trans (fu b v h');cases b<;>first|exact nk hk rfl|skip
  refine aY (ph h (aj rfl)) fun y z16=>?_;subst z16;rw[PV.d] at h h';rw[Gb h h']
 |.ref x y,b,v,h,h'=>by
  have hk:=(fu _ v h).symm.trans (fu b v h');cases b<;>first|exact nk hk rfl|skip
  refine aY (ph h (aj rfl)) fun y z17=>?_;subst z17;rw[PV.d] at h h';refine aZ (IH h h') fun e1 e2=>?_;rw[e1,e2]
 |.arr l,b,v,h,h'=>by
  have hk:=(fu _ v h).symm.trans (fu b v h');cases b<;>first|exact nk hk rfl|skip
  rename_i l';refine aY (ph h (aj rfl)) fun y z18=>?_;subst z18;refine bl (Fd h) fun o vs n h1 h2 h3=>?_;refine bl (Fd h') fun o' vs' n' h1' h2' h3'=>?_;rw[h1] at h1';(injection h1' with h1';subst h1');rw[h2] at h2';(injection h2' with q30 q31;subst q30;subst q31);rw[U7 l l' vs.toList h3 h3']
 |.dict l,b,v,h,h'=>by
  have hk:=(fu _ v h).symm.trans (fu b v h');cases b<;>first|exact nk hk rfl|skip
  rename_i l';refine aY (ph h (aj rfl)) fun y z19=>?_;subst z19;refine aM (wo h) fun o kvs h1 z20 h3=>?_;refine pD z20 ?_;clear z20;intro es ep zz hd zz hp zz;refine aM (wo h') fun o' kvs' h1' z21 h3'=>?_;refine pD z21 ?_;clear z21;intro es' ep' zz hd' zz hp' zz;rw[h1] at h1';(injection h1' with h1';subst h1');rw[hd] at hd';(injection hd' with q28 q29;subst q28;subst q29);rw[U6 l l' es.toList kvs kvs' hp hp' h3 h3']
 |.stream x,b,v,h,h'=>by
  have hk:=(fu _ v h).symm.trans (fu b v h');cases b<;>first|exact nk hk rfl|skip
  rename_i x';refine aY (ph h (aj rfl)) fun y z22=>?_;subst z22;rw[PV.d] at h h';refine ar (Bd h h') fun u a1 a2=>?_;rw[WK x x' u a1 a2]
theorem U7:∀(l l':List PV)vs,Mine.gO prog w V (l.map PV.d) vs->Mine.gO prog w V (l'.map PV.d) vs->l=l'
 |[],[],vs,_,_=>rfl|[],b::r',vs,h,h'=>by obtain rfl:=be.mp h;refine cX (aG.mp h') fun zz zz e zz=>?_;injection e
 |a::r,[],vs,h,h'=>by obtain rfl:=be.mp h';refine cX (aG.mp h) fun zz zz e zz=>?_;injection e
 |a::r,b::r',vs,h,h'=>by refine aM (aG.mp h) fun v rs z23 a1 a2=>?_;subst z23;refine aM (aG.mp h') fun v' rs' e b1 b2=>?_;(injection e with q26 q27;subst q26;subst q27);rw[WK a b v a1 b1,U7 r r' rs a2 b2]
theorem U6:∀l l' es kvs kvs',Pairs (strKind prog w) es kvs->Pairs (strKind prog w) es kvs'->Cs prog w V (PV.dS l) kvs->Cs prog w V (PV.dS l') kvs'->l=l'
 |[],[],_,_,_,_,_,_,_=>rfl|[],(y,b)::r',es,kvs,kvs',p,p',h,h'=>by subst h;refine cX h' ?_;clear h';intro zz zz z24 zz;subst z24;cases p;cases p'
 |(x,a)::r,[],es,kvs,kvs',p,p',h,h'=>by subst h';refine cX h ?_;clear h;intro zz zz z25 zz;subst z25;cases p';cases p
 |(x,a)::r,(y,b)::r',es,kvs,kvs',p,p',h,h'=>by refine aM h ?_;clear h;intro v rs z26 a1 a2;subst z26;refine aM h' ?_;clear h';intro v' rs' z27 b1 b2;subst z27;cases p with|cons p1 p2 p3=>cases p' with|cons q1 q2 q3=>have e1:x=y:=Value.isStrOf_inj _ _ _ p1 q1;have e2:v=v':=p2.symm.trans q2;subst e1 e2;rw[WK a b v a1 b1,U6 r r' _ rs rs' p3 q3 a2 b2]
end
noncomputable def eN:PV->Bool|.dict l=>!Rs (PV.dS l)|_=>ak
noncomputable def nq(v:PV):Bool:=if eN v then(match v with|.dict l=>HO (PV.dS l)|_=>ak) else nh v.d
theorem Gc:∀{tab:dE}{kvs:List (Int×aE)},CD prog w V tab.d kvs->(∀p∈tab,nq p.2.2=ai)->ga tab->∃α,(∀n,α n≠aq->n∈tab.map (·.1))/\(∀p∈tab,eN p.2.2=ak->α p.1=aq)/\CD prog w (nH V) (de α tab) kvs/\∀p∈tab,eN p.2.2=ai->∃a,α p.1=ac a/\Is prog w V p.2.2.d (.ref a):=by
 intro p0_;induction p0_ with
 |nil=>intro kvs h zz zz;exact qc (fun zz=>aq) (fun n h=>absurd rfl h) (fun zz zz zz=>rfl) h (fun p hp=>absurd hp cf)
 |cons p_ r ih=>
  rcases p_ with⟨k,g,v⟩
  intro kvs h hr hk;have hk':=av.mp hk;rw[show dE.d ((k,g,v)::r)=(k,DV.tup [.int g,v.d])::dE.d r from rfl] at h;refine aM h ?_;clear h;intro tv rs z1 ht hrest;subst z1;refine jD (ih hrest (fun p hp=>hr p (.tail _ hp)) hk'.2) fun α a1 a2 a3 a4=>?_;have ne:∀p∈r,p.1≠k:=fun p hp e=>hk'.1 (az.mpr (bq p hp e));have hrow:=hr (k,g,v) (.head _);dsimp only at hrow;have tl:∀x,de (fun n=>if n=k then x else α n) r=de α r:=fun x=>by
   unfold de;refine bM fun p hp=>?_;unfold nu;try dsimp only
   rw[if_neg (ne p hp)]
  refine bE ht ?_;clear ht;intro a0 o vs n z2 h1 h2 h3 h4 h5;subst z2;refine aM (aG.mp h5) fun x xs e1 i1 h6=>?_;refine aM (aG.mp h6) fun y ys e2 i2 h7=>?_;have e3:=be.mp h7;have mk:∀d,Is prog w (nH V) d y->Is prog w (nH V) (.tup [.int g,d]) (.ref a0):=fun d iy=>by show Exists _;exact cJ a0 o vs n rfl (k9 h1 (by unfold g0;rw[h4])) h2 h3 h4 (aG.mpr (bO x xs e1 i1 (aG.mpr (bO y ys e2 iy (be.mpr e3)))))
  by_cases hh:eN v=ai
  .refine aY (ph i2 (by cases v<;>first|((first|(injection hh;done)|cases hh);done)|exact aj rfl)) fun a z3=>?_
   subst z3;refine qc (fun n=>if n=k then ac a else α n) (fun n hn=>?_) (fun p hp hq=>?_) ?_ (fun p hp hq=>?_)
   .dsimp only at hn
    by_cases e:n=k;.subst e;exact .head _
    .rw[if_neg e] at hn;exact .tail _ (a1 n hn)
   .rcases ao.mp hp with rfl|hp
    .rw[hh] at hq;injection hq
    .dsimp only;rw[if_neg (ne p hp)];exact a2 p hp hq
   .rw[show de (fun n=>if n=k then ac a else α n) ((k,g,v)::r)=(k,.tup [.int g,.ptr a])::de (fun n=>if n=k then ac a else α n) r from by unfold de nu;simp,tl]
    show Exists _;exact bO _ _ rfl (mk _ (aT.mpr ⟨rfl,rfl⟩)) a3
   .rcases ao.mp hp with rfl|hp
    .exact bq a (by simp) i2
    .dsimp only;rw[if_neg (ne p hp)];exact a4 p hp hq
  .have hf:eN v=ak:=by simpa using hh
   refine qc (fun n=>if n=k then aq else α n) (fun n hn=>?_) (fun p hp hq=>?_) ?_ (fun p hp hq=>?_)
   .dsimp only at hn
    by_cases e:n=k;.rw[if_pos e] at hn;exact absurd rfl hn
    .rw[if_neg e] at hn;exact .tail _ (a1 n hn)
   .rcases ao.mp hp with rfl|hp
    .simp
    .dsimp only;rw[if_neg (ne p hp)];exact a2 p hp hq
   .rw[show de (fun n=>if n=k then aq else α n) ((k,g,v)::r)=(k,.tup [.int g,v.d])::de (fun n=>if n=k then aq else α n) r from by unfold de nu;simp,tl]
    show Exists _;refine bO _ _ rfl (mk _ (mS v.d y i2 ?_)) a3;unfold nq at hrow;rwa[if_neg (by rw[hf];decide)] at hrow
   .rcases ao.mp hp with rfl|hp
    .rw[hf] at hq;injection hq
    .dsimp only;rw[if_neg (ne p hp)];exact a4 p hp hq
noncomputable def YM:MO->Bool|.lst l=>Pk l|.sdic l=>HO l|.idic l=>WI l|.obj _=>ai|.pr _=>ai|.flds l=>HO l|.cell d=>nh d|.prV _ _=>ak
theorem GC(z:ju prog w V h a mo)(e:YM mo=ai):ju prog w (nH V) h a mo:=by
 cases mo with
 |lst l=>exact bU z fun o vs n h1 h2 h3 h4 h5=>(cZ o vs n h1 h2 h3 h4 (rf _ _ h5 e))
 |sdic l=>exact bB z fun o kvs h1 h2 h3 h4=>(du o kvs h1 h2 h3 (q9 _ _ h4 e))
 |idic l=>exact bB z fun o kvs h1 h2 h3 h4=>(du o kvs h1 h2 h3 (vG _ _ h4 e))
 |obj o=>exact z|pr p=>exact z|flds l=>exact cX z fun es n h1 h2=>(jN es n h1 (vI _ _ h2 e))
 |cell d=>exact aM z fun o x h1 h2 h3=>(bO o x h1 h2 (fun z=>ar (h3 z) fun v a b=>(bq v a (mS _ _ b e))))
 |prV p m=>injection e
section
variable {t : aW} {α : Al}
set_option tactic.hygienic true in
theorem vN(h:md α p=ac q):∃l,p.2.2=.dict l/\α p.1=ac q.1/\q.2=.sdic (PV.dS l):=by
 unfold md at h;split at h
 .rename_i a l h1 h2
  (injection h with h;subst h);exact cB l h2 h1 rfl
 .injection h
theorem Qr(h:q∈j4 α tab):∃p∈tab,∃l,p.2.2=.dict l/\α p.1=ac q.1/\q.2=.sdic (PV.dS l):=by refine ar (cm.mp h) fun p hp e=>?_;exact bq p hp (vN e)
theorem GK(h:V a=ac o)(n:g0 o=ai):nH V a=aq:=by
 unfold nH;rw[h];try dsimp only
 rw[n];rfl
theorem pt(h:V a=aq):nH V a=aq:=by unfold nH;rw[h]
theorem Mn(hh:eN v=ai)(h:Is G.prog G.w V v.d (.ref a)):∃o,V a=ac o/\g0 o=ai:=by
 cases v with
 |dict l=>refine aM (wo h) fun o kvs h1 h2 h3=>?_;refine bq o h1 ?_;rw[yh h2 h3];exact hh
 |_=>injection hh
theorem b9.thaw(S:b9 (cx G B) V Y ((t,.idic tab.d)::Z) s)(hA:B.A.handled=aq)(hV0:∀a o,B.V0 a=ac o->g0 o=ak)(hk:ga tab)(hr:∀p∈tab,nq p.2.2=ai)(hY:∀p∈Y,nh p.2=ai)(hZ:∀p∈Z,YM p.2=ai)(hd:tab.Pairwise fun p q=>eN p.2.2=ai->eN q.2.2=ai->p.2.2≠q.2.2):∃α,(∀n,α n≠aq->n∈tab.map (·.1))/\(∀p∈tab,eN p.2.2=ak->α p.1=aq)/\(∀p∈tab,eN p.2.2=ai->(α p.1).isSome=ai)/\b9 (cx G B) (nH V) Y ((t,.idic (de α tab))::(Z++j4 α tab)) s:=by
 refine bB (S.mu (t,.idic tab.d) (.head _)) fun o kvs ho low hdo hI=>?_;refine jD (Gc hI hr hk) fun α a1 a2 a3 a4=>?_;have hq:∀q∈j4 α tab,∃p∈tab,∃l,p.2.2=.dict l/\eN p.2.2=ai/\α p.1=ac q.1/\q.2=.sdic (PV.dS l)/\Is G.prog G.w V p.2.2.d (.ref q.1):=fun q h=>by
  refine wl (Qr h) fun p hp l e ea eq=>?_;have hh:eN p.2.2=ai:=by cases z:eN p.2.2 with|true=>rfl|false=>rw[a2 p hp z] at ea;injection ea
  refine ar (a4 p hp hh) fun a ea' i=>?_;rw[ea] at ea';(injection ea' with ea';subst ea');exact⟨p,hp,l,e,hh,ea,eq,i⟩
 have hqo:∀q∈j4 α tab,∃o,V q.1=ac o/\g0 o=ai:=fun q h=>by refine wk (hq q h) fun p hp l e hh ea eq i=>?_;exact Mn hh i
 have kl:=L5 V;have dj:=av.mp S.dj;have dj2:=av.mp dj.2;have nd:((j4 α tab).map (·.1)).Nodup:=by
  unfold rO;rw[sY];unfold j4;rw[List.pairwise_filterMap];refine RN (fun {p p'} hp hp' hne q hq1 q' hq2 e=>?_) hd;refine bp (vN hq1) fun l e1 ea zz=>?_;refine bp (vN hq2) fun l' e1' ea' zz=>?_;have h1:eN p.2.2=ai:=by cases z:eN p.2.2 with|true=>rfl|false=>rw[a2 p hp z] at ea;injection ea
  have h2:eN p'.2.2=ai:=by cases z:eN p'.2.2 with|true=>rfl|false=>rw[a2 p' hp' z] at ea';injection ea'
  refine ar (a4 p hp h1) fun x ex i=>?_;refine ar (a4 p' hp' h2) fun x' ex' i'=>?_;rw[ea] at ex;(injection ex with ex;subst ex);rw[ea'] at ex';(injection ex' with ex';subst ex');rw[<-e] at i';exact hne h1 h2 (WK _ _ _ i i')
 have nm:∀q∈j4 α tab,q.1≠B.L/\∀p∈(t,MO.idic tab.d)::Z,p.1≠q.1:=fun q h=>by
  refine ar (hqo q h) fun o ho zz=>?_;refine⟨fun e=>?_,fun p hp e=>?_⟩
  .have:=S.vL
   rw[show(cx G B).L=B.L from rfl,<-e,ho] at this;injection this
  .have:=S.vm p hp
   rw[e,ho] at this;injection this
 refine ar S.m ?_;(try clear m);intro m hn he;refine qc α a1 a2 (fun p hp hh=>?_) ⟨(bq m hn (fun p hp=>⟨(he p hp).1,fun h=>?_⟩)),S.nd,fun p hp=>?_,?_,kl.trans S.vh,pt S.vL,fun p hp=>?_,fun a ha=>?_,fun a o e=>k9 (S.v0 _ _ e) (hV0 a o e),S.b0,fun p hp=>?_,S.pr,S.sz,.inl hA,S.rest⟩
 .refine ar (a4 p hp hh) fun a ha zz=>?_
  rw[ha];rfl
 .refine ar ((he p hp).2 h) fun v h1 h2=>?_
  exact bq v h1 (mS _ _ h2 (hY p hp))
 .rcases ao.mp hp with rfl|hp
  .exact du o kvs ho low hdo a3
  .rcases aJ.mp hp with hp|hp
   .exact GC (S.mu p (.tail _ hp)) (hZ p hp)
   .refine wk (hq p hp) fun p' hp' l e hh ea eq i=>?_
    obtain⟨a,mo⟩:=p;subst eq;rw[e,PV.d] at i;refine bU i ?_;clear i;intro x o' kvs' ex h1 h2 h3 h4;(injection ex with ex;subst ex);refine du o' kvs' (S.vh _ _ h1) h2 h3 (q9 _ _ h4 ?_);have:=hr p' hp';unfold nq at this;rw[if_pos hh,e] at this;exact this
 .rw[au,aA]
  refine av.mpr ⟨fun q=>?_,av.mpr ⟨fun q=>?_,bC.mpr (jR dj2.2 nd (fun a ha b hb e=>?_))⟩⟩
  .rcases ao.mp q with q|q
   .exact dj.1 (q▸.head _)
   .rcases aJ.mp q with q|q
    .exact dj.1 (.tail _ q)
    .refine ar (az.mp q) fun p hp e=>?_
     exact(nm p hp).1 e
  .rcases aJ.mp q with q|q
   .exact dj2.1 q
   .refine ar (az.mp q) fun p hp e=>?_
    exact(nm p hp).2 _ (.head _) e.symm
  .refine ar (az.mp ha) fun p hp e1=>?_
   refine ar (az.mp hb) fun q hq e2=>?_;exact(nm q hq).2 p (.tail _ hp) (e1.trans (e.trans e2.symm))
 .rcases ao.mp hp with rfl|hp
  .exact pt (S.vm (t,.idic tab.d) (.head _))
  .rcases aJ.mp hp with hp|hp
   .exact pt (S.vm _ (.tail _ hp))
   .refine ar (hqo p hp) fun o ho hh=>?_
    exact GK ho hh
 .exact S.fr a fun e=>ha (pt e)
 .rcases ao.mp hp with rfl|hp
  .exact S.mf (t,.idic tab.d) (.head _)
  .rcases aJ.mp hp with hp|hp
   .exact S.mf _ (.tail _ hp)
   .refine ar (hqo p hp) fun o ho hh=>?_
    rcases S.fr p.1 (by rw[ho];simp) with z|z
    .exfalso
     cases e:(cx G B).V0 p.1 with|none=>exact z e|some o'=>have:=S.v0 _ _ e;rw[ho] at this;(injection this with this;subst this);have:=hV0 _ _ e;rw[hh] at this;injection this
    .exact .inr z
theorem Kz.thaw{Q:Fl->aP->Mu->Prop}(hA:B.A.handled=aq)(hV0:∀a o,B.V0 a=ac o->g0 o=ak)(hk:ga tab)(hr:∀p∈tab,nq p.2.2=ai)(hY:∀p∈Y,nh p.2=ai)(hZ:∀p∈Z,YM p.2=ai)(hd:tab.Pairwise fun p q=>eN p.2.2=ai->eN q.2.2=ai->p.2.2≠q.2.2)(H:∀α,(∀n,α n≠aq->n∈tab.map (·.1))->(∀p∈tab,eN p.2.2=ak->α p.1=aq)->(∀p∈tab,eN p.2.2=ai->(α p.1).isSome=ai)->Kz G B E b Y ((t,.idic (de α tab))::(Z++j4 α tab)) Q):Kz G B E b Y ((t,.idic tab.d)::Z) Q:=fun V s S=>
 let ⟨α,a1,a2,a3,S'⟩:=S.thaw hA hV0 hk hr hY hZ hd
 H α a1 a2 a3 _ s S'
theorem b9.freezes:∀{hs:Mu}{V:Vw},b9 (cx G B) V Y (Z++hs) s->(∀p∈hs,p.1∉B.m0)->∃V',Kp V V'/\b9 (cx G B) V' Y Z s/\∀p∈hs,∃o,V' p.1=ac o/\s.heap.get? p.1=ac o:=by
 intro p0_;induction p0_ with
 |nil=>intro V S zz;exact cB V (.refl _) (by rw[bR] at S;exact S) (fun zz h=>nomatch h)
 |cons p_ hs ih=>
  rcases p_ with⟨a,mo⟩
  intro V S h;refine aY ((S.mu (a,mo) (aK _ (.head _))).at) fun o ho=>?_;have S1:=S.freeze (S.big (h _ (.head _))) ho;have k1:Kp V (fR V a o):=c9 (S.vm (a,mo) (aK _ (.head _)));refine bp (ih S1 fun p hp=>h p (.tail _ hp)) fun V' k' S' h'=>?_;refine cB V' (k1.trans k') S' (fun p hp=>?_);rcases ao.mp hp with rfl|hp;.exact bq o (k' _ _ (bT _ _ _)) ho
  .exact h' p hp
theorem C8(k:Kp V V'):∀{tab:dE}{kvs:List (Int×aE)},CD prog w V (de α tab) kvs->qG α tab->(∀q∈j4 α tab,∀l,q.2=.sdic (PV.dS l)->Is prog w V' (PV.dict l).d (.ref q.1))->CD prog w V' tab.d kvs:=by
 intro p0_;induction p0_ with
 |nil=>intro kvs h zz zz;exact h
 |cons p_ r ih=>
  rcases p_ with⟨n,g,v⟩
  intro kvs h ho hq;rw[show de α ((n,g,v)::r)=(n,.tup [.int g,nu α (n,g,v)])::de α r from rfl] at h;rw[show dE.d ((n,g,v)::r)=(n,DV.tup [.int g,v.d])::dE.d r from rfl];show Exists _;refine aM h ?_;clear h;intro tv rs z1 ht hrest;subst z1;refine bO tv rs rfl ?_ (ih hrest (fun p hp=>ho p (.tail _ hp)) fun q hq'=>hq q ?_)
  .have ho1:=ho (n,g,v) (.head _)
   unfold nu at ht;dsimp only at ht ho1;cases ha:α n with|none=>rw[ha] at ht;exact ht.mono k|some a=>rw[ha] at ht ho1;refine aY (ho1 (by simp)) fun l z2=>?_;subst z2;have i:=hq (a,.sdic (PV.dS l)) (by unfold j4;rw[iz (b:=(a,.sdic (PV.dS l))) (by unfold md;dsimp only;rw[ha])];exact .head _) l rfl;show Exists _;refine bE ht ?_;clear ht;intro a0 o vs n' z3 h1 h2 h3 h4 h5;subst z3;refine aM (aG.mp h5) fun x xs e1 i1 h6=>?_;refine aM (aG.mp h6) fun y ys e2 i2 h7=>?_;refine aZ (aT.mp i2) fun z4 zz=>?_;subst z4;exact cJ a0 o vs n' rfl (k _ _ h1) h2 h3 h4 (aG.mpr (bO x xs e1 (i1.mono k) (aG.mpr (bO _ ys e2 i (be.mpr (be.mp h7))))))
  .unfold j4 at hq' ⊢
   rw[fK];cases md α (n,g,v) with|none=>exact hq'|some x=>exact .tail _ hq'
theorem WP.refreeze{Q:β->aP->Mu->Prop}(hal:qG α tab)(hm0:∀a∈B.m0,a∈t::Z.map (·.1))(H:WP G B E rel b Y ((t,.idic tab.d)::Z) Q):WP G B E rel b Y ((t,.idic (de α tab))::(Z++j4 α tab)) Q:=by
 intro V s S;have dj:=av.mp S.dj;have S0:b9 (cx G B) V Y (((t,MO.idic (de α tab))::Z)++j4 α tab) s:=S;have hn:∀p∈j4 α tab,p.1∉B.m0:=fun p hp h=>by have:=hm0 _ h;rw[show((t,MO.idic (de α tab))::(Z++j4 α tab)).map (·.1)=(t::Z.map (·.1))++(j4 α tab).map (·.1) from by simp] at dj;exact(bC.mp dj.2).2.2 _ this _ (ax hp) rfl
 refine bp (S0.freezes hn) fun V' k' S1 hh=>?_;refine bB (S.mu (t,.idic (de α tab)) (.head _)) fun o kvs ho low hdo hI=>?_;have hI':CD G.prog G.w V' tab.d kvs:=C8 k' hI hal fun q hq l e=>by obtain⟨a,mo⟩:=q;subst e;refine ar (hh _ hq) fun o' ho' hg=>?_;rw[PV.d];exact sC (mo:=.sdic (PV.dS l)) rfl (S.mu _ (.tail _ (aK _ hq))) hg k' ho'
 have S2:=S1.turn (Z1:=[]) (mo':=.idic tab.d) (t:=s.toks) (h':=s.heap) ⟨rfl,fun zz zz=>rfl⟩ (du o kvs ho low hdo hI');exact WP.step (rel':=rel) k' H S2
end
noncomputable def vE:PV->Bool|.ref _ _=>ai|_=>ak
noncomputable def pK(l:List (aV×PV)):List aV->List (aV×PV)->Option (List (aV×PV))|[],i=>ac i|k::r,i=>match fM l k with|none=>pK l r i|some v=>if vE v then aq else if v.isNull then pK l r i else pK l r (eH i k v)
theorem zP(l){k r i}:pK l (k::r) i=(match fM l k with|none=>pK l r i|some v=>if vE v then aq else if v.isNull then pK l r i else pK l r (eH i k v)):=rfl
noncomputable def ti(l:List (aV×PV)):Option Bool:=match fM l (aa "Type") with
 |some (.name x)=>if x=aa "Pages" then ac ai else if x=aa "Page" then ac ak else aq
 |_=>aq
noncomputable def p4(l:List (aV×PV)):Option (List PV):=match fM l (aa "Kids") with|some (.arr k)=>ac k|_=>aq
noncomputable def qu(lk:Lk)(v:PV)(a:List (Int×Int))(i:List (aV×PV)):Option bk:=match v with
 |.ref n g=>match lk n with
  |some (ac (g',.dict l))=>if g'=g then(match pK l eX i,ti l with|some i',ac b=>ac ⟨n,g,l,a,i',!b⟩|_,_=>aq) else aq
  |_=>aq
 |_=>aq
noncomputable def eP(lk:Lk):Nat->List nA->List bk->List Int->Option (List bk)
 |0,_,_,_=>aq
 |_+1,[],found,_=>ac found
 |n+1,(v,a,i)::rest,found,seen=>
  if 900<i.length\/900<rest.length\/900<a.length then aq else
  match qu lk v a i with
  |none=>aq
  |some s=>if s.n∈seen\/(found.isEmpty&&s.page)=ai then aq else
   if s.page then eP lk n rest (found++[s]) (seen++[s.n]) else
   match p4 s.head with
   |some ks=>if 900<ks.length then aq else eP lk n (ks.map (fun k=>(k,a++[(s.n,s.k)],s.inh))++rest) (found++[s]) (seen++[s.n])
   |none=>aq
theorem pe(lk){n v a i rest found seen}:eP lk (n+1) ((v,a,i)::rest) found seen=(
  if 900<i.length\/900<rest.length\/900<a.length then aq else
  match qu lk v a i with
  |none=>aq
  |some s=>if s.n∈seen\/(found.isEmpty&&s.page)=ai then aq else
   if s.page then eP lk n rest (found++[s]) (seen++[s.n]) else
   match p4 s.head with
   |some ks=>if 900<ks.length then aq else eP lk n (ks.map (fun k=>(k,a++[(s.n,s.k)],s.inh))++rest) (found++[s]) (seen++[s.n])
   |none=>aq):=rfl
theorem jJ(h:vE v=ak)(n):cc lk n v=ac v:=mW (by cases v<;>first|rfl|injection h)
theorem vZ{c g:Int}(h:lk c=ac (ac (g,.dict l)))(n):cc lk (n+1) (.ref c g)=ac (.dict l):=by(first|rw[yk]|rw[fetchP_e1]|unfold cc);rw[h];dsimp only;rw[if_neg (fun e=>e rfl),jJ rfl]
theorem Qo:∀{ks:List aV}{i i':List (aV×PV)},pK l ks i=ac i'->pM lk l ks i=ac i':=by
 intro p0_;induction p0_ with
 |nil=>intro zz zz h;exact h
 |cons k r ih=>
  intro i i' h;(first|rw[inhQ_e0] at h|rw[zP] at h|unfold pK at h);(first|rw[inhP_e0]|rw[EW]|unfold pM);unfold dC;cases e:fM l k with|none=>rw[e] at h;exact ih h|some v=>
   rw[e] at h;dsimp only at h;by_cases hr:vE v=ai;.rw[if_pos hr] at h;injection h
   rw[if_neg hr] at h;rw[eE,jJ (by simpa using hr)];cases v<;>first|exact ih h
set_option tactic.hygienic true in
theorem LN(h:ti l=ac b):lc lk l=ac b:=by
 unfold ti at h;unfold lc dC;split at h
 .rename_i x e
  rw[e,eE,jJ rfl];exact h
 .injection h
set_option tactic.hygienic true in
theorem L8(h:p4 l=ac k):tm lk l=ac (ac k):=by
 unfold p4 at h;unfold tm dC;split at h
 .rename_i x e
  (injection h with h;subst h);rw[e,eE,jJ rfl];rfl
 .injection h
set_option tactic.hygienic true in
theorem zy{a:List (Int×Int)}{s:bk}(h:qu lk v a i=ac s):v=.ref s.n s.k/\lk s.n=ac (ac (s.k,.dict s.head))/\pK s.head eX i=ac s.inh/\ti s.head=ac (!s.page)/\s.above=a:=by
 unfold qu at h;split at h
 .rename_i n g
  split at h
  .rename_i g' l e
   split at h
   .rename_i eg
    subst eg;split at h
    .rename_i i' b e1 e2
     (injection h with h;subst h);exact⟨rfl,e,e1,(by rw[e2,nM]),rfl⟩
    .injection h
   .injection h
  .injection h
 .injection h
theorem LY{n g:Int}{a:List (Int×Int)}(h:lk n=ac (ac (g,.dict l)))(h1:pK l eX i=ac i')(h2:ti l=ac b):qu lk (.ref n g) a i=ac ⟨n,g,l,a,i',!b⟩:=by unfold qu;dsimp only;rw[h];dsimp only;rw[if_pos rfl,h1,h2]
theorem Dj{a:List (Int×Int)}{s:bk}(h:qu lk v a i=ac s):tX lk v a i=ac (ac s):=by
 refine rB (zy h) fun z1 e h1 h2 z2=>?_;subst z1;subst z2;unfold tX;have hh:fO lk 64 [] (.ref s.n s.k)=ac (ac (s.n,s.k)):=by(first|rw[Jr]|rw[homeP_e1]|unfold fO);rw[if_neg (fun h=>nomatch h),e];dsimp only;rw[if_neg (fun e=>e rfl)]
 rw[hh];dsimp only;rw[vZ e 29];dsimp only;rw[Qo h1,LN h2];dsimp only;rw[nM]
theorem A1{a:List (Int×Int)}{seen:List Int}{s:bk}(h1:¬(900<i.length\/900<rest.length\/900<a.length))(h2:qu lk v a i=ac s)(h3:¬(s.n∈seen\/(found.isEmpty&&s.page)=ai))(h4:s.page=ai):eP lk (n+1) ((v,a,i)::rest) found seen=eP lk n rest (found++[s]) (seen++[s.n]):=by rw[pe,if_neg h1,h2];dsimp only;rw[if_neg h3,if_pos h4]
theorem A2{a:List (Int×Int)}{seen:List Int}{s:bk}(h1:¬(900<i.length\/900<rest.length\/900<a.length))(h2:qu lk v a i=ac s)(h3:¬(s.n∈seen\/(found.isEmpty&&s.page)=ai))(h4:¬s.page=ai)(h5:p4 s.head=ac ks)(h6:¬900<ks.length):eP lk (n+1) ((v,a,i)::rest) found seen=eP lk n (ks.map (fun k=>(k,a++[(s.n,s.k)],s.inh))++rest) (found++[s]) (seen++[s.n]):=by rw[pe,if_neg h1,h2];dsimp only;rw[if_neg h3,if_neg h4,h5];dsimp only;rw[if_neg h6]
theorem po{x:α}{C:Prop}(h:aq=ac x):C:=by injection h
theorem vD[Decidable c]{x:α}{C:Prop}(h:(if c then aq else b)=ac x)(k:¬c->b=ac x->C):C:=by
 by_cases hc:c;.rw[if_pos hc] at h;exact po h
 .rw[if_neg hc] at h;exact k hc h
theorem mJ{P:Nat->List nA->List bk->List Int->Prop}(h0:∀n seen,P (n+1) [] res seen)(hp:∀n v a i rest found seen s,¬(900<i.length\/900<rest.length\/900<a.length)->qu lk v a i=ac s->¬(s.n∈seen\/(found.isEmpty&&s.page)=ai)->s.page=ai->eP lk n rest (found++[s]) (seen++[s.n])=ac res->P n rest (found++[s]) (seen++[s.n])->P (n+1) ((v,a,i)::rest) found seen)(hk:∀n v a i rest found seen s ks,¬(900<i.length\/900<rest.length\/900<a.length)->qu lk v a i=ac s->¬(s.n∈seen\/(found.isEmpty&&s.page)=ai)->¬s.page=ai->p4 s.head=ac ks->¬900<ks.length->eP lk n (ks.map (fun k=>(k,a++[(s.n,s.k)],s.inh))++rest) (found++[s]) (seen++[s.n])=ac res->P n (ks.map (fun k=>(k,a++[(s.n,s.k)],s.inh))++rest) (found++[s]) (seen++[s.n])->P (n+1) ((v,a,i)::rest) found seen)(n):∀{line:List nA}{found:List bk}{seen:List Int},eP lk n line found seen=ac res->P n line found seen:=by
 induction n with
 |zero=>exact fun h=>po h
 |succ n ih=>
  intro line found seen h;cases line with|nil=>exact aB h▸h0 n seen|cons x rest=>
  rcases x with⟨v,a,i⟩
  rw[pe] at h;refine vD h fun h1 h=>?_;cases e:qu lk v a i with|none=>rw[e] at h;exact po h|some s=>
   rw[e] at h;refine vD h fun h2 h=>?_;by_cases h3:s.page=ai
   .rw[if_pos h3] at h
    exact hp n v a i rest found seen s h1 e h2 h3 h (ih h)
   .rw[if_neg h3] at h
    cases ek:p4 s.head with|none=>rw[ek] at h;exact po h|some ks=>rw[ek] at h;exact vD h fun h4 h=>hk n v a i rest found seen s ks h1 e h2 h3 ek h4 h (ih h)
theorem IA{seen:List Int}:eP lk n line found seen=ac res->iN lk n line found seen=ac (ac res):=by
 refine mJ (P:=fun n line found seen=>iN lk n line found seen=ac (ac res)) (fun n seen=>rfl) (fun n v a i rest found seen s h1 h2 h3 h4 _ ih=>?_) (fun n v a i rest found seen s ks h1 h2 h3 h4 h5 h6 _ ih=>?_) n;.rw[xH,if_neg h1,Dj h2];dsimp only;rw[if_neg h3,if_pos h4];exact ih
 .rw[xH,if_neg h1,Dj h2];dsimp only;rw[if_neg h3,if_neg h4,L8 h5];dsimp only;rw[if_neg h6];exact ih
theorem uM{seen:List Int}:eP lk n line found seen=ac res->found <+: res:=mJ (P:=fun _ _ found _=>found <+: res) (fun _ _=>List.prefix_refl _) (fun _ _ _ _ _ _ _ _ _ _ _ _ _ ih=>(HI _ _).trans ih) (fun _ _ _ _ _ _ _ _ _ _ _ _ _ _ _ _ ih=>(HI _ _).trans ih) n
def lw(l l':List (aV×PV)):Prop:=∀k∈aa "Type" :: aa "Kids" :: eX,fM l k=fM l' k
theorem lw.refl(l):lw l l:=fun zz zz=>rfl
theorem lw.trans(h:lw l l')(k:lw l' l''):lw l l'':=fun x hx=>(h x hx).trans (k x hx)
theorem Dx{l l':List (aV×PV)}:∀{ks:List aV}{i:List (aV×PV)},(∀k∈ks,fM l k=fM l' k)->pK l ks i=pK l' ks i:=by
 intro p0_;induction p0_ with
 |nil=>intro zz zz;exact rfl
 |cons k r ih=>
  intro i h;rw[zP,zP];rw[h k (.head _)];have ih:∀i,pK l r i=pK l' r i:=fun i=>ih fun x hx=>h x (.tail _ hx);split;.exact ih _
  .rw[ih,ih]
noncomputable def nN(lk:Lk)(s:bk):bk:=match lk s.n with|some (ac (_,.dict l))=>{s with head:=l}|_=>s
def xw(lk:Lk)(s:bk):Prop:=∃l,lk s.n=ac (ac (s.k,.dict l))/\lw s.head l
theorem uI{s:bk}{g:Int}(h:lk s.n=ac (ac (g,.dict l))):nN lk s={s with head:=l}:=by unfold nN;rw[h]
theorem uJ(lk s):(nN lk s).n=s.n:=by unfold nN;split<;>rfl
theorem NF(lk s):(nN lk s).k=s.k:=by unfold nN;split<;>rfl
theorem jG(lk s):(nN lk s).page=s.page:=by unfold nN;split<;>rfl
theorem F1(lk s):(nN lk s).above=s.above:=by unfold nN;split<;>rfl
theorem Lx(lk s):(nN lk s).inh=s.inh:=by unfold nN;split<;>rfl
theorem GG{a:List (Int×Int)}{s:bk}(h:qu lk v a i=ac s)(w:xw lk' s):qu lk' v a i=ac (nN lk' s)/\p4 (nN lk' s).head=p4 s.head:=by
 refine ar w ?_;clear w;intro l' h1 h2;refine rB (zy h) fun z3 e e1 e2 z4=>?_;subst z3;subst z4;rw[uI h1];refine⟨?_,?_⟩
 .rw[Dx (l':=l') fun k hk=>h2 k (.tail _ (.tail _ hk))] at e1
  have:ti l'=ti s.head:=by unfold ti;rw[h2 _ (.head _)]
  rw[LY h1 e1 (this.trans e2),nM]
 .unfold p4
  dsimp only;rw[h2 _ (.tail _ (.head _))]
theorem A0{found:List bk}{seen:List Int}(h:eP lk n line found seen=ac res)(w:∀s∈res,xw lk' s):eP lk' n line (found.map (nN lk')) seen=ac (res.map (nN lk')):=by
 refine mJ (P:=fun n line found seen=>eP lk' n line (found.map (nN lk')) seen=ac (res.map (nN lk'))) (fun n seen=>rfl) (fun n v a i rest found seen s h1 h2 h3 h4 hr ih=>?_) (fun n v a i rest found seen s ks h1 h2 h3 h4 h5 h6 hr ih=>?_) n h;all_goals
  have hs:s∈res:=(uM hr).subset (aK _ (.head _));have em:(found.map (nN lk')).isEmpty=found.isEmpty:=by cases found<;>rfl
  rw[aA,au,bI] at ih;refine aZ (GG h2 (w s hs)) fun e1 e2=>?_
 .exact(A1 h1 e1 (by rw[uJ,jG,em];exact h3) (by rw[jG];exact h4)).trans (by rw[uJ];exact ih)
 .exact(A2 h1 e1 (by rw[uJ,jG,em];exact h3) (by rw[jG];exact h4) (e2.trans h5) h6).trans (by rw[uJ,NF,Lx];exact ih)
noncomputable def qC(lk:Lk)(tr:List (aV×PV)):Option (List bk):=match fM tr (aa "Root") with
 |some (.ref c g)=>match lk c with
  |some (ac (g',.dict l))=>if g'=g then eP lk 100 [(dC l (aa "Pages"),[],[])] [] [] else aq
  |_=>aq
 |_=>aq
set_option tactic.hygienic true in
theorem rI(h:qC lk tr=ac ks):∃c g l,fM tr (aa "Root")=ac (.ref c g)/\lk c=ac (ac (g,.dict l))/\eP lk 100 [(dC l (aa "Pages"),[],[])] [] []=ac ks:=by
 unfold qC at h;split at h
 .rename_i c g e
  split at h
  .rename_i g' l e2
   split at h
   .rename_i eg
    subst eg;exact i0 c g' l e e2 h
   .injection h
  .injection h
 .injection h
theorem Bf{c g:Int}(h:fM tr (aa "Root")=ac (.ref c g))(h2:lk c=ac (ac (g,.dict l))):u6 lk tr=ac l:=by unfold u6 dC;rw[h,eE,vZ h2 29];rfl
theorem Aw(h:qC lk tr=ac ks):cE lk tr=ac (ac ks):=by refine bl (rI h) fun c g l h1 h2 h3=>?_;unfold cE;rw[Bf h1 h2];exact IA h3
theorem Hz(h:qC lk tr=ac ks):∃s r,ks=s::r/\l4 lk tr=ac (ac s):=by
 refine bl (rI h) fun c g l h1 h2 h3=>?_;unfold l4;rw[Bf h1 h2,sW];(first|rw[spotsQ_e0] at h3|rw[spotsQ_e1] at h3|rw[pe] at h3|unfold eP at h3);split at h3;.injection h3
 .split at h3
  .injection h3
  .rename_i s e
   have fin:∀{m:Nat}{line:List nA}{seen:List Int},eP lk m line ([]++[s]) seen=ac ks->∃r,ks=s::r:=fun h=>by refine aY (uM h) fun r hr=>?_;exact⟨r,hr.symm⟩
   have:∃r,ks=s::r:=by
    split at h3;.injection h3
    .split at h3
     .exact fin h3
     .split at h3
      .split at h3
       .injection h3
       .exact fin h3
      .injection h3
   refine aY this ?_;clear this;intro r hr;exact jN s r hr (Dj e)
theorem yw{lk lk':Lk}(h:qC lk tr=ac ks)(hc:∀c g,fM tr (aa "Root")=ac (.ref c g)->lk' c=lk c)(w:∀s∈ks,xw lk' s):qC lk' tr=ac (ks.map (nN lk')):=by refine bl (rI h) fun c g l h1 h2 h3=>?_;unfold qC;rw[h1];dsimp only;rw[hc c g h1,h2];dsimp only;rw[if_pos rfl];exact A0 (found:=[]) h3 w
theorem Hq(lk):∀l c,An (l.map (nN lk)) c=An l c:=by
 intro p0_;induction p0_ with
 |nil=>intro zz;exact rfl
 |cons s r ih=>intro c;rw[au];rw[Fh,Fh];rw[uJ,jG,ih]
theorem Hp(lk):∀l c,ub (l.map (nN lk)) c=ub l c:=by
 intro p0_;induction p0_ with
 |nil=>intro zz;exact rfl
 |cons s r ih=>intro c;rw[au];rw[Fg,Fg];rw[jG,F1];simp only[ih]
theorem tC(lk l):fT (l.map (nN lk))=fT l:=by unfold fT;rw[Hq,Hp]
theorem tA{lk lk':Lk}(h:qC lk' tr=ac (ks.map (nN lk')))(hc:fT ks=ac c)(hf:fC lk' c (ks.map (nN lk')) []=ac f):faultsP lk' tr=ac (ac f):=by unfold faultsP;rw[Aw h];dsimp only;rw[tC,hc];dsimp only;rw[hf];rfl
theorem A8{lk lk':Lk}(h:qC lk' tr=ac (ks.map (nN lk')))(hc:fT ks=ac c)(hf:dO c lk' (ks.map (nN lk')) []=ac f):iQ lk' tr=ac (ac f):=by unfold iQ;rw[Aw h];dsimp only;rw[tC,hc];dsimp only;rw[hf];rfl
theorem oz(h:x≠k):fM (eH l k v) x=fM l x:=by
 have e:∀l,fM (l.map fun kv=>if kv.1=k then(kv.1,v) else kv) x=fM l x:=by
  intro l;induction l with|nil=>rfl|cons p r ih=>
   unfold fM at ih ⊢;rw[au,bh,bh];by_cases hp:p.1=k
   .have hx:¬p.1=x:=fun e=>h (e.symm.trans hp)
    simp only[hp,if_true];rw[decide_eq_false (fun e:k=x=>h e.symm)];exact ih
   .simp only[hp,if_false]
    by_cases hx:p.1=x;.simp[hx]
    .simp only[hx,decide_false];exact ih
 unfold eH;split;.exact e l
 .unfold fM
  rw[sZ];cases l.find? (fun kv=>decide (kv.1=x)) with|some y=>rfl|none=>have hkx:¬k=x:=fun e=>h e.symm;simp[hkx]
theorem tj(h:x≠k):∀l,fM (sk l k) x=fM l x:=by
 intro p0_;induction p0_ with|nil=>exact rfl|cons p r ih=>
  have ih:=ih;unfold fM sk at ih ⊢;rw[dZ];by_cases hp:p.1=k
  .have hx:¬p.1=x:=fun e=>h (e.symm.trans hp)
   rw[if_neg (by simp[hp]),bh,decide_eq_false hx];exact ih
  .rw[if_pos (by simpa using hp),bh,bh]
   by_cases hx:p.1=x;.simp[hx]
   .simp only[hx,decide_false];exact ih
theorem ul:∀x∈aa "Type" :: aa "Kids" :: eX,x≠aa "Count"/\x≠aa "Parent":=by decide +kernel
theorem tE:lw l (eH l (aa "Count") v):=fun x hx=>(oz (ul x hx).1).symm
theorem Ay:lw l (eH l (aa "Parent") v):=fun x hx=>(oz (ul x hx).2).symm
theorem wA(l way right):lw l (je l way right):=by
 unfold je;split;.exact tE.trans fun x hx=>(tj (ul x hx).1 _).symm
 .exact tE
theorem FS:∀{ks:List aV}{f h:List (aV×PV)},eW ch ks f=ac h->x∉ks->fM h x=fM f x:=by
 intro p0_;induction p0_ with
 |nil=>intro f h e zz;(injection e with e;subst e);rfl
 |cons k r ih=>
  intro f h e n;(first|rw[turnedGo_e0] at e|rw[AX] at e|unfold eW at e);have nk:x≠k:=fun q=>n (q▸.head _);have nr:x∉r:=fun q=>n (.tail _ q);split at e;.injection e
  .split at e
   .rw[ih e nr,tj nk]
   .rw[ih e nr,oz nk]
theorem Ax{s:bk}{n:Int}(e:gH s.head (fV s p q n)=ac h):lw s.head h:=fun x hx=>by
 unfold gH at e;refine(FS e fun hm=>?_).symm;refine aZ (ul x hx) fun a b=>?_;unfold fV at hm;rw[aA,aJ] at hm;rcases hm with hm|hm
 .cases p
  .rw[if_neg (by decide)] at hm
   exact b (ap.mp hm)
  .rw[if_pos rfl] at hm;cases hm
 .cases q
  .rw[if_neg (by decide)] at hm
   exact a (ap.mp hm)
  .rw[if_pos rfl] at hm;cases hm
def Vn(ks:List bk)(w:Int×Int×PV):Prop:=∀s∈ks,s.n=w.1->w.2.1=s.k/\∃h,w.2.2=.dict h/\lw s.head h
theorem A9:∀{l:List bk}{lk:Lk}{ws ws':Wr},dO c lk l ws=ac ws'->∀w∈ws',w∈ws\/∃s∈l,w.1=s.n/\w.2.1=s.k/\∃h,w.2.2=.dict h/\lw s.head h:=by
 intro p0_;induction p0_ with
 |nil=>intro zz zz zz h w hw;(first|rw[oo] at h|rw[om] at h|unfold dO at h);(injection h with h;subst h);exact .inl hw
 |cons s r ih=>
  intro lk ws ws' h w hw;(first|rw[oo] at h|rw[om] at h|unfold dO at h);split at h;.injection h
  .split at h
   .injection h
   .split at h
    .injection h
    .split at h
     .rcases ih h w hw with z|⟨x,hx,y⟩
      .exact .inl z
      .exact .inr (bq x (.tail _ hx) y)
     .split at h
      .injection h
      .split at h
       .injection h
       .rename_i hd e
        rcases ih h w hw with z|⟨x,hx,y⟩
        .rcases aJ.mp z with z|z
         .exact .inl z
         .cases ap.mp z
          exact .inr ⟨s,.head _,rfl,rfl,hd,rfl,Ax e⟩
        .exact .inr (bq x (.tail _ hx) y)
theorem Lw:∀{ws:Wr}{lk:Lk},(∀s∈ks,xw lk s)->(∀w∈ws,Vn ks w)->∀s∈ks,xw (bN lk ws) s:=by
 intro p0_;induction p0_ with
 |nil=>intro zz h zz;exact h
 |cons w r ih=>
  intro lk h hw;show ∀s∈ks,xw (bN (j0 lk w.1 w.2.1 w.2.2) r) s;refine ih (fun s hs=>?_) fun x hx=>hw x (.tail _ hx);unfold xw j0;by_cases e:s.n=w.1
  .rw[if_pos e]
   refine sM (hw w (.head _) s hs e) fun a l b d=>?_;exact bq l (by rw[a,b]) d
  .rw[if_neg e]
   exact h s hs
theorem qp{k:Int}:∀{ws:Wr}{lk:Lk},(∀w∈ws,w.1≠k)->bN lk ws k=lk k:=by
 intro p0_;induction p0_ with
 |nil=>intro zz zz;exact rfl
 |cons w r ih=>intro lk h;show bN (j0 lk w.1 w.2.1 w.2.2) r k=_;rw[ih fun x hx=>h x (.tail _ hx)];unfold j0;rw[if_neg (h w (.head _)).symm]
theorem F3{seen:List Int}:eP lk n line found seen=ac res->∀s∈res,s∈found\/lk s.n=ac (ac (s.k,.dict s.head)):=by
 have fin:∀{v a i s found},qu lk v a i=ac s->(∀x∈res,x∈found++[s]\/lk x.n=ac (ac (x.k,.dict x.head)))->∀x∈res,x∈found\/lk x.n=ac (ac (x.k,.dict x.head)):=fun e h x hx=>by
  rcases h x hx with z|z
  .rcases aJ.mp z with z|z
   .exact .inl z
   .cases ap.mp z
    exact .inr (zy e).2.1
  .exact .inr z
 exact mJ (P:=fun _ _ found _=>∀s∈res,s∈found\/lk s.n=ac (ac (s.k,.dict s.head))) (fun _ _ s hs=>.inl hs) (fun _ _ _ _ _ _ _ _ _ h2 _ _ _ ih=>fin h2 ih) (fun _ _ _ _ _ _ _ _ _ _ h2 _ _ _ _ _ ih=>fin h2 ih) n
theorem lu(h:qC lk tr=ac ks):∀s∈ks,lk s.n=ac (ac (s.k,.dict s.head)):=by refine bl (rI h) fun c g l h1 h2 h3=>?_;exact fun s hs=>(F3 h3 s hs).resolve_left fun h=>nomatch h
theorem GI:∀{l:List α}{r:List β},fh f l=ac r->(∀x∈l,∀y∈r,f x=ac y->f' x=ac y)->fh f' l=ac r:=by
 intro p0_;induction p0_ with
 |nil=>intro zz h zz;exact h
 |cons x l ih=>intro r h k;(first|rw[mapO_e0] at h ⊢|rw[q0] at h ⊢|unfold fh at h ⊢);cases e:f x with|none=>rw[e] at h;injection h|some y=>rw[e] at h;refine ar (aD.mp h) fun q hq z1=>?_;subst z1;rw[k x (.head _) y (.head _) e];dsimp only;rw[ih hq fun x hx y hy=>k x (.tail _ hx) y (.tail _ hy)];rfl
def Ky(lk lk':Lk)(m:Int):Prop:=∀g l,lk m=ac (ac (g,.dict l))->∃g' l',lk' m=ac (ac (g',.dict l'))/\fM l' (aa "Kids")=fM l (aa "Kids")
set_option tactic.hygienic true in
theorem uB:∀{f:Nat}{n:Int}{w:List Int},gc lk f n=ac w->(∀m∈w,Ky lk lk' m)->gc lk' f n=ac w
 |0,_,_,h,_=>by injection h
 |f+1,n,w,h,k=>by
  (first|rw[walkP_e0] at h ⊢|rw[AU] at h ⊢|unfold gc at h ⊢);split at h
  .rename_i g l e
   have hn:n∈w:=by
    split at h;· (injection h with h;subst h);exact .head _
    .split at h
     .injection h
     .split at h
      .injection h
      ·(injection h with h;subst h);exact .head _
    .injection h
   refine cX (k n hn g l e) fun g' l' e' ek=>?_;rw[e'];dsimp only;rw[ek];split at h;.exact h
   .split at h
    .injection h
    .rename_i ls em
     rw[GI em fun x hx y hy ex=>?_];.exact h
     .cases x with
      |ref m g2=>
       refine uB ex fun z hz=>k z ?_;split at h;.injection h
       ·(injection h with h;subst h)
        exact .tail _ (List.mem_flatten.mpr (bq y hy hz))
      |_=>injection ex
   .injection h
  .injection h
theorem Kk{root n right:Int}{w:List Int}(h1:lk n=ac (ac (0,.dict l)))(hl:l.length<=800)(h2:gC lk 20 n=ac right)(h3:bN lk [(900,0,.int right),(901,0,.bool (right==1)),(902,0,.null),(n,0,.dict (je l way right))] root=ac (ac (0,.dict lt)))(hlt:lt.length<=800)(h4:gc (bN lk (gB 0 n 0 root l lt right way other)) 20 root=ac w):rH lk root n way other=ac (gB 0 n 0 root l lt right way other,rC w root n way other):=by unfold rH;rw[h1];dsimp only;rw[if_neg (bu.mpr hl),h2];dsimp only;rw[h3];dsimp only;rw[if_neg (bu.mpr hlt),h4]
noncomputable def fS(lk:Lk)(n:Int):List (aV×PV):=match lk n with|some (ac (_,.dict l))=>l|_=>[]
noncomputable def Jg(many:Int)(v:Option PV):Bool:=match v with|some (.int i)=>i==many&&decide (0<=i)|_=>ak
noncomputable def zF(root:Int)(due:eK)(par kept:PV):Bool:=if !(due.contains (root,aa "Parent"))&&!par.isNull then(match par,kept with|.ref a b,.ref c d=>a==c&&b==d|_,_=>ak) else kept.isNull
noncomputable def Kq(lk:Lk)(root many:Int)(ks:List bk)(c:wP)(due:eK)(par:PV):Bool:=decide (fC lk c (ks.map (nN lk)) []=ac [])&&Jg many (cc lk 30 (dC (fS lk root) (aa "Count")))&&zF root due par (dC (fS lk root) (aa "Parent"))
noncomputable def Fm(lk:Lk)(root many:Int)(ks:List bk)(c:wP)(n:Int)(due:eK):Bool:=
 decide (fC lk c (ks.map (nN lk)) []=ac due)&&(cc lk 30 (dC (fS lk root) (aa "Count"))).isSome &&
 (match dO c lk (ks.map (nN lk)) [] with|none=>ak|some ws=>decide (ws.length<=20)&&ws.all (fun w=>w.1==n||w.1==root)&&Kq (bN lk ws) root many ks c due (dC (fS lk root) (aa "Parent")))
noncomputable def Dl(n root right:Int)(l lt0:List (aV×PV))(way:Nat):List (aV×PV):=if n=root then je l way right else lt0
noncomputable def tP(n root right:Int)(l lt0:List (aV×PV))(way other:Nat):Wr:=gB 0 n 0 root l (Dl n root right l lt0 way) right way other
noncomputable def sO:PV->Option Int
 |.int i=>if 0<=i then ac i else aq
 |_=>aq
structure AB (lk:Lk) (tr:List (aV×PV)) (root many:Int) (leaves:List Int) (due:eK):Prop where
 faults:faultsP lk tr=ac (ac due)
 rest:∃g l v ws,lk root=ac (ac (g,.dict l))/\cc lk 30 (dC l (aa "Count"))=ac v/\fe lk tr=ac (sO v)/\iQ lk tr=ac (ac ws)/\ws.length<=20/\
  faultsP (bN lk ws) tr=ac (ac [])/\fe (bN lk ws) tr=ac (ac many)/\
  (∃k,cE (bN lk ws) tr=ac (ac k)/\(k.filter (·.page)).map (·.n)=leaves/\∀s∈k,s.page=ai->jI (bN lk ws) s=ai)/\
  ∃g' l',bN lk ws root=ac (ac (g',.dict l'))/\zF root due (dC l (aa "Parent")) (dC l' (aa "Parent"))=ai
noncomputable def uo(l:List (aV×PV)):Bool:=decide (l.length<=900)&&eX.all fun k=>!vE (dC l k)
theorem tz{s:bk}(h:uo s.head=ai):jI lk s=ai:=by unfold uo at h;unfold jI;rw[aO] at h ⊢;refine⟨h.1,aU.mpr fun k hk=>?_⟩;have:=aU.mp h.2 k hk;rw[jJ (by simpa using this)];rfl
structure oU (lk0:Lk) (tr:List (aV×PV)) (root:Int) (ks:List bk) (c:wP) (lt0:List (aV×PV)):Prop where
 all:qC lk0 tr=ac ks
 cnt:fT ks=ac c
 low:∀s∈ks,s.n<900
 top:ks.head?.map (·.n)=ac root
 cat:∀a g,fM tr (aa "Root")=ac (.ref a g)->a<900/\∀s∈ks,s.n≠a
 walk:gc lk0 20 root=ac (ks.map (·.n))
 page:∀s∈ks,s.page=ai->uo s.head=ai/\s.n≠root
 root:lk0 root=ac (ac (0,.dict lt0))
 len:lt0.length<=100
theorem Hx(l way right):(je l way right).length<=l.length+1:=by
 unfold je;split;.exact ae (dT _ _) (lX ..)
 .exact lX ..
section
variable {lk0 : Lk} {root : Int} {ks : List bk} {c : wP} {lt0 : List (aV × PV)} (T : oU lk0 tr root ks c lt0)
include T
theorem oU.top':∃s r,ks=s::r/\s.n=root:=by have:=T.top;cases hk:ks with|nil=>rw[hk] at this;injection this|cons s r=>rw[hk] at this;exact jN s r rfl (aB this)
theorem oU.sw0:∀s∈ks,xw lk0 s:=fun s hs=>(bq s.head (lu T.all s hs) (.refl _))
theorem oU.swap(hw:∀w∈ws,Vn ks w)(hc:∀w∈ws,∀a g,fM tr (aa "Root")=ac (.ref a g)->w.1≠a):qC (bN lk0 ws) tr=ac (ks.map (nN (bN lk0 ws)))/\∀s∈ks,xw (bN lk0 ws) s:=by have h:=Lw T.sw0 hw;exact⟨yw T.all (fun a g e=>qp fun w hm=>hc w hm a g e) h,h⟩
theorem wq(h:qC lk tr=ac (ks.map (nN lk)))(hs:∀s∈ks,xw lk s)(hv:cc lk 30 (dC (fS lk root) (aa "Count"))=ac v):fe lk tr=ac (sO v)/\∃g l,lk root=ac (ac (g,.dict l))/\fS lk root=l:=by
 refine cX T.top' fun s r e en=>?_;refine cX (Hz h) fun s1 r1 e1 h1=>?_;refine ar (hs s (e▸.head _)) fun l hl zz=>?_;have hh:fS lk root=l:=by unfold fS;rw[<-en,hl]
 rw[e,au] at e1;injection e1 with e1 _;refine⟨?_,_,l,en▸hl,hh⟩;unfold fe;rw[h1];dsimp only;rw[<-e1,uI hl];dsimp only;rw[<-hh,hv];cases v<;>rfl
set_option tactic.hygienic true in
theorem M4{n many:Int}(hp:∀s∈ks,s.page=ai->s.n≠n)(hca:∀a g,fM tr (aa "Root")=ac (.ref a g)->a≠n/\a≠root)(hw:∀w∈W,Vn ks w)(hnum:∀w∈W,w.1=900\/w.1=901\/w.1=902\/w.1=n\/w.1=root)(hcat:∀w∈W,∀a g,fM tr (aa "Root")=ac (.ref a g)->w.1≠a)(h:Fm (bN lk0 W) root many ks c n due=ai):AB (bN lk0 W) tr root many ((ks.filter (·.page)).map (·.n)) due:=by
 refine aZ (T.swap hw hcat) fun hA hS=>?_;unfold Fm at h;rw[aO,aO,decide_eq_true_eq] at h;refine aZ h ?_;clear h;intro z2 h3;refine aZ z2 ?_;clear z2;intro h1 h2;refine aY (cu.mp h2) fun v hv=>?_;refine Fa (wq T hA hS hv) fun hpc g lr hlr hhr=>?_;refine⟨tA (lk:=lk0) hA T.cnt h1,?_⟩;split at h3;.injection h3
 .rename_i wsS eS
  rw[aO,aO,decide_eq_true_eq] at h3;refine aZ h3 ?_;clear h3;intro z3 h6;refine aZ z3 ?_;clear z3;intro h4 h5;unfold Kq at h6;rw[aO,aO,decide_eq_true_eq] at h6;refine aZ h6 ?_;clear h6;intro z4 h9;refine aZ z4 ?_;clear z4;intro h7 h8;have hput:bN (bN lk0 W) wsS=bN lk0 (W++wsS):=by unfold bN;rw[lM]
  have hwS:∀w∈W++wsS,Vn ks w:=by
   intro w hm;rcases aJ.mp hm with hm|hm;.exact hw w hm
   .rcases A9 eS w hm with z|⟨s',hs',e1,e2,hh,e3,e4⟩
    .cases z
    .refine ar (az.mp hs') fun s hs z5=>?_
     subst z5;intro s2 hs2 e;rw[uJ] at e1;rw[NF] at e2;have a1:=lu T.all s hs;have a2:=lu T.all s2 hs2;have en:s2.n=s.n:=e.trans e1;rw[en,a1] at a2;injection a2 with a2;injection a2 with a2;injection a2 with q1 q2;injection q2 with q2;refine ar (hS s hs) fun l' b1 b2=>?_;rw[uI b1] at e4;exact⟨e2.trans q1,hh,e3,q2▸b2.trans e4⟩
  have hcS:∀w∈W++wsS,∀a g,fM tr (aa "Root")=ac (.ref a g)->w.1≠a:=by
   intro w hm a g e q;rcases aJ.mp hm with hm|hm;.exact hcat w hm a g e q
   .have:=aU.mp h5 w hm
    simp only[iH,beq_iff_eq] at this;refine aZ (hca a g e) fun n1 n2=>?_;rcases this with z|z;.exact n1 (q.symm.trans z)
    .exact n2 (q.symm.trans z)
  refine aZ (T.swap hwS hcS) fun hA2 hS2=>?_;rw[<-hput] at hA2 hS2;obtain⟨v2,hv2,hm2⟩:∃v2,cc (bN (bN lk0 W) wsS) 30 (dC (fS (bN (bN lk0 W) wsS) root) (aa "Count"))=ac v2/\sO v2=ac many:=by
   unfold Jg at h8;split at h8
   .rename_i i e
    rw[aO,beq_iff_eq,decide_eq_true_eq] at h8;refine bq _ e ?_;unfold sO;dsimp only;rw[if_pos h8.2,h8.1]
   .injection h8
  refine Fa (wq T hA2 hS2 hv2) fun hpc2 g2 lr2 hlr2 hhr2=>?_;refine⟨g,lr,v,wsS,hlr,hhr▸hv,hpc,A8 (lk:=lk0) hA T.cnt eS,h4,tA (lk:=lk0) hA2 T.cnt h7,hm2▸hpc2,(cB _ (Aw hA2) ?_ ?_),g2,lr2,hlr2,?_⟩
  .rw[List.filter_map,bS]
   have f1:((fun s:bk=>s.page)∘nN (bN (bN lk0 W) wsS))=fun s=>s.page:=funext fun s=>jG _ s;have f2:((fun s:bk=>s.n)∘nN (bN (bN lk0 W) wsS))=fun s=>s.n:=funext fun s=>uJ _ s;rw[f1,f2]
  .intro s' hs' hpg
   refine ar (az.mp hs') fun s hs z6=>?_;subst z6;rw[jG] at hpg;refine tz ?_;refine aZ (T.page s hs hpg) fun f1 f2=>?_;have f3:=hp s hs hpg;have:bN (bN lk0 W) wsS s.n=lk0 s.n:=by
    rw[hput];refine qp fun w hm q=>?_;rcases aJ.mp hm with hm|hm
    .have lo:=T.low s hs
     rcases hnum w hm with z|z|z|z|z;.exact NQ q lo z
     .exact NP q lo z
     .exact NO q lo z
     .exact f3 (q.symm.trans z)
     .exact f2 (q.symm.trans z)
    .have:=aU.mp h5 w hm
     simp only[iH,beq_iff_eq] at this;rcases this with z|z;.exact f3 (q.symm.trans z)
     .exact f2 (q.symm.trans z)
   rw[uI (this.trans (lu T.all s hs))];exact f1
  .rw[hhr,hhr2] at h9
   exact h9
set_option tactic.hygienic true in
theorem M5{n right many:Int}(h0:0<n)(hn:lk0 n=ac (ac (0,.dict l)))(hl:l.length<=100)(hb:gC lk0 20 n=ac right)(hp:∀s∈ks,s.page=ai->s.n≠n)(hl9:n<900)(hr9:root<900)(hca:∀a g,fM tr (aa "Root")=ac (.ref a g)->a≠n/\a≠root)(h:Fm (bN lk0 (tP n root right l lt0 way other)) root many ks c n (rC (ks.map (·.n)) root n way other)=ai):rH lk0 root n way other=ac (tP n root right l lt0 way other,rC (ks.map (·.n)) root n way other)/\AB (bN lk0 (tP n root right l lt0 way other)) tr root many ((ks.filter (·.page)).map (·.n)) (rC (ks.map (·.n)) root n way other):=by
 have hrt:bN lk0 [(900,0,.int right),(901,0,.bool (right==1)),(902,0,.null),(n,0,.dict (je l way right))] root=ac (ac (0,.dict (Dl n root right l lt0 way))):=by
  unfold Dl;show j0 (j0 (j0 (j0 lk0 900 _ _) 901 _ _) 902 _ _) n _ _ root=_;unfold j0;by_cases e:root=n;.rw[if_pos e,if_pos e.symm]
  .rw[if_neg e,if_neg (TZ hr9),if_neg (TY hr9),if_neg (TV hr9),if_neg (fun q=>e q.symm),T.root]
 have hroot:lk0 root=ac (ac (0,.dict lt0)):=T.root;have agL:lw lt0 (Dl n root right l lt0 way):=by
  unfold Dl;split
  .rename_i e
   subst e;rw[hn] at hroot;(injection hroot with hroot;injection hroot with hroot;injection hroot with _ q3;injection q3 with q3;subst q3);exact wA _ _ _
  .exact .refl _
 have hw:∀w∈tP n root right l lt0 way other,Vn ks w:=by
  intro w hm s hs e;have at_:=lu T.all s hs;have lo:=T.low s hs;unfold tP gB at hm;rcases aJ.mp hm with hm|hm
  .simp only[ao,cf,or_false] at hm
   rcases hm with rfl|rfl|rfl|rfl;.rw[e] at lo;exact absurd lo (show ¬(900:Int)<900 by decide)
   .rw[e] at lo;exact absurd lo (show ¬(901:Int)<900 by decide)
   .rw[e] at lo;exact absurd lo (show ¬(902:Int)<900 by decide)
   .dsimp only at e ⊢
    rw[e,hn] at at_;injection at_ with at_;injection at_ with at_;injection at_ with a1 a2;injection a2 with a2;exact⟨a1,_,rfl,a2▸wA _ _ _⟩
  .split at hm
   .cases hm
   .cases ap.mp hm
    dsimp only at e ⊢;rw[e,hroot] at at_;injection at_ with at_;injection at_ with at_;injection at_ with a1 a2;injection a2 with a2;exact⟨a1,_,rfl,a2▸agL.trans Ay⟩
 have hnum:∀w∈tP n root right l lt0 way other,w.1=900\/w.1=901\/w.1=902\/w.1=n\/w.1=root:=by
  intro w hm;unfold tP gB at hm;rcases aJ.mp hm with hm|hm
  .simp only[ao,cf,or_false] at hm
   rcases hm with rfl|rfl|rfl|rfl<;>simp
  .split at hm
   .cases hm
   .cases ap.mp hm
    simp
 have hcat:∀w∈tP n root right l lt0 way other,∀a g,fM tr (aa "Root")=ac (.ref a g)->w.1≠a:=by
  intro w hm a g e q;have h9:=(T.cat a g e).1;refine aZ (hca a g e) fun n1 n2=>?_;rcases hnum w hm with z|z|z|z|z;.exact NQ q h9 z
  .exact NP q h9 z
  .exact NO q h9 z
  .exact n1 (q.symm.trans z)
  .exact n2 (q.symm.trans z)
 refine aZ (T.swap hw hcat) fun hA hS=>?_;have hwalk:gc (bN lk0 (tP n root right l lt0 way other)) 20 root=ac (ks.map (·.n)):=by refine uB T.walk fun m hm g lm em=>?_;refine ar (az.mp hm) fun s hs z1=>?_;subst z1;refine ar (hS s hs) fun l' e' ag=>?_;rw[lu T.all s hs] at em;(injection em with em;injection em with em;injection em with q1 q2;subst q1;injection q2 with q2;subst q2);exact jN _ l' e' ((ag _ (.tail _ (.head _))).symm)
 have hlen:(Dl n root right l lt0 way).length<=800:=by
  unfold Dl;split;.have:=Hx l way right;exact TT hl this
  .have:=T.len;exact jd this rfl
 exact⟨Kk hn (jd hl rfl) hb hrt hlen hwalk,M4 T hp hca hw hnum hcat h⟩
end
theorem I1{f:α->Option β}{P:β->Prop}:∀{l:List α},(∀x∈l,∃y,f x=ac y/\P y)->∃r,fh f l=ac r/\∀y∈r,P y:=by
 intro p0_;induction p0_ with
 |nil=>intro zz;exact bq [] rfl (fun zz h=>nomatch h)
 |cons x l ih=>
  intro h;refine ar (h x (.head _)) fun y hy py=>?_;refine ar (ih fun x hx=>h x (.tail _ hx)) fun r hr pr=>?_;refine bq (y::r) (by(first|rw[mapO_e0]|rw[q0]|unfold fh);rw[hy];dsimp only;rw[hr];rfl) (fun z hz=>?_);rcases ao.mp hz with rfl|hz;.exact py
  .exact pr z hz
theorem Da:∀{l:List DV},(∀d∈l,ow d=ai)->kG l=ai:=by
 intro p0_;induction p0_ with
 |nil=>intro zz;exact rfl
 |cons d r ih=>intro h;rw[kG,h d (.head _),ih fun x hx=>h x (.tail _ hx)];rfl
theorem J4:∀{l:List DV},(∀d∈l,Hl d<=n)->wn l<=n:=by
 intro p0_;induction p0_ with
 |nil=>intro zz;rw[wn];exact a7 _
 |cons d r ih=>intro h;rw[wn];exact lz.mpr ⟨h d (.head _),ih fun x hx=>h x (.tail _ hx)⟩
noncomputable def kU(f:Nat)(v:PV):Bool:=match iA f v with|some d=>ow d&&decide (Hl d<=50)|none=>ak
noncomputable def trB(f:Nat)(tr:List (aV×PV)):Bool:=match (if 63<tr.length then aq else(fh (lS (iA f) tr) (oj xj (tr.map (·.1)))).map fun ds=>DV.tup (.str (aa "dict")::ds.flatten)) with|some d=>ow d&&decide (Hl d<=50)|none=>ak
set_option tactic.hygienic true in
theorem CX(ht:∀p∈tab,kU f p.2.2=ai)(htr:trB f tr=ai):∃res,mL f tab tr=ac (.tup res)/\kG res=ai/\wn res<=60:=by
 have hT:fp f=iA f:=funext (Et f);obtain⟨rs,hrs,hp⟩:=I1 (f:=zi f tab) (P:=fun d=>ow d=ai/\Hl d<=51) (l:=kW (tab.map (·.1))) fun n hn=>by
  refine g5 (sx ((ii _).mem_iff.mp hn)) fun gn v e=>?_;have:=ht _ (sy e);unfold kU at this;dsimp only at this;unfold zi;rw[e];dsimp only;rw[hT];split at this
  .rename_i d ed
   rw[ed];rw[aO,decide_eq_true_eq] at this;refine cB _ rfl ?_ ?_;.show(ai&&(ai&&(ow d&&ai)))=ai;rw[this.1];rfl
   .have h2:=this.2
    exact b6 (lz.mpr ⟨a7 _,lz.mpr ⟨a7 _,lz.mpr ⟨h2,a7 _⟩⟩⟩)
  .injection this
 unfold trB at htr;split at htr
 .rename_i d ed
  rw[aO,decide_eq_true_eq] at htr;have et:Rr f tr=ac d:=by unfold Rr;rw[hT,yZ];exact ed
  refine cB [.tup rs,d] ?_ ?_ ?_
  .unfold mL
   rw[hrs,et]
  .show(kG rs&&(ow d&&ai))=ai;rw[htr.1,Da fun d hd=>(hp d hd).1];rfl
  .have h1:=J4 fun d hd=>(hp d hd).2
   have h2:=htr.2;exact lz.mpr ⟨ae (b6 h1) (by decide),lz.mpr ⟨ae h2 (by decide),a7 _⟩⟩
 .injection htr
theorem BA{k g:Int}(h:p∈cQ tab k g v):p∈tab\/p=(k,g,v):=by
 unfold cQ at h;split at h
 .refine ar (az.mp h) fun q hq e=>?_
  split at e
  .rename_i hk
   subst e;exact .inr (by rw[hk])
  .subst e
   exact .inl hq
 .rcases aJ.mp h with h|h
  .exact .inl h
  .exact .inr (ap.mp h)
theorem GH:∀{ws:Wr}{tab:dE}{p:Int×Int×PV},p∈bW tab ws->p∈tab\/p∈ws:=by
 intro p0_;induction p0_ with
 |nil=>intro zz zz h;exact .inl h
 |cons w r ih=>
  intro tab p h;have h:p∈bW (cQ tab w.1 w.2.1 w.2.2) r:=h;rcases ih h with h|h
  .rcases BA h with h|h
   .exact .inl h
   .exact .inr (h▸.head _)
  .exact .inr (.tail _ h)
theorem FX(f a b):kU (f+1) (.ref a b)=ai:=rfl
theorem FW(h:∀p∈tab,kU f p.2.2=ai)(hw:∀w∈ws,kU f w.2.2=ai):∀p∈bW tab ws,kU f p.2.2=ai:=fun p hp=>(GH hp).elim (h p) (hw p)
theorem Iv{s:bk}(h:lk s.n=ac (ac (s.k,.dict s.head))):nN lk s=s:=by rw[uI h]
theorem oU.same{root:Int}(T:oU lk0 tr root ks c lt0)(h:∀k r,k<900->lk0 k=ac (ac r)->lk k=lk0 k):cE lk tr=ac (ac ks):=by
 have at_:∀s∈ks,lk s.n=ac (ac (s.k,.dict s.head)):=fun s hs=>(h s.n _ (T.low s hs) (lu T.all s hs)).trans (lu T.all s hs);have:=yw T.all (lk':=lk) (fun a g e=>by refine bl (rI T.all) fun a' g' l e1 e2 zz=>?_;rw[e] at e1;(injection e1 with e1;injection e1 with q1 q2;subst q1;subst q2);exact h a _ (T.cat a g e).1 e2) fun s hs=>(bq s.head (at_ s hs) (.refl _))
 have e:ks.map (nN lk)=ks:=(bM (g:=id) fun s hs=>Iv (at_ s hs)).trans (lL _);rw[e] at this;exact Aw this
noncomputable def kQ(tab:dE)(tr:List (aV×PV)):List bk:=(qC (mB tab) tr).getD []
noncomputable def Cd(tab:dE)(tr:List (aV×PV)):wP:=(fT (kQ tab tr)).getD []
noncomputable def eu(k:List bk):List Int:=(k.filter (·.page)).map (·.n)
noncomputable def Im(tab:dE)(tr:List (aV×PV))(root:Int)(many:Nat):Bool:=
 (qC (mB tab) tr).isSome&&(fT (kQ tab tr)).isSome&&(kQ tab tr).all (fun s=>decide (s.n<900))&&decide ((kQ tab tr).head?.map (·.n)=ac root) &&
 (match fM tr (aa "Root") with|some (.ref a _)=>decide (a<900)&&(kQ tab tr).all (fun s=>!decide (s.n=a))&&!decide (a=root)|_=>ak) &&
 decide (gc (mB tab) 20 root=ac ((kQ tab tr).map (·.n)))&&(kQ tab tr).all (fun s=>!s.page||(uo s.head&&!decide (s.n=root))) &&
 (match mB tab root with|some (ac (g,.dict l))=>decide (g=0)&&decide (l.length<=100)|_=>ak)&&decide ((eu (kQ tab tr)).length=many)&&decide (root<900)
set_option tactic.hygienic true in
theorem Il{root:Int}(h:Im tab tr root many=ai):oU (mB tab) tr root (kQ tab tr) (Cd tab tr) (fS (mB tab) root)/\(eu (kQ tab tr)).length=many/\root<900/\(∀a g,fM tr (aa "Root")=ac (.ref a g)->a≠root):=by
 unfold Im at h;simp only[aO,decide_eq_true_eq,aU] at h;refine aZ h ?_;clear h;intro z1 h10;refine aZ z1 ?_;clear z1;intro z2 h9;refine aZ z2 ?_;clear z2;intro z3 h8;refine aZ z3 ?_;clear z3;intro z4 h7;refine aZ z4 ?_;clear z4;intro z5 h6;refine aZ z5 ?_;clear z5;intro z6 h5;refine aZ z6 ?_;clear z6;intro z7 h4;refine aZ z7 ?_;clear z7;intro z8 h3;refine aZ z8 ?_;clear z8;intro h1 h2;refine aY (cu.mp h1) fun ks hks=>?_;refine aY (cu.mp h2) fun c hc=>?_;have ek:kQ tab tr=ks:=by unfold kQ;rw[hks];rfl
 have ec:Cd tab tr=c:=by unfold Cd;rw[hc];rfl
 have h8':mB tab root=ac (ac (0,.dict (fS (mB tab) root)))/\(fS (mB tab) root).length<=100:=by
  unfold fS;split at h8
  .rename_i g l e
   simp only[aO,decide_eq_true_eq] at h8;rw[e,h8.1];exact⟨rfl,h8.2⟩
  .injection h8
 refine oX ⟨by rw[ek];exact hks,by rw[ec];exact hc,h3,h4,fun a g e=>?_,h6,fun s hs hp=>?_,h8'.1,h8'.2⟩ h9 h10 (fun a g e=>?_)
 .rw[e] at h5
  simp only[aO,decide_eq_true_eq,aU] at h5;exact⟨h5.1.1,fun s hs q=>by have:=h5.1.2 s hs;rw[decide_eq_true q] at this;injection this⟩
 .have:=h7 s hs
  rw[hp] at this;simp only[Bool.not_true,AK,aO] at this;exact⟨this.1,fun q=>by have:=this.2;rw[decide_eq_true q] at this;injection this⟩
 .rw[e] at h5
  simp only[aO] at h5;intro q;have:=h5.2;rw[decide_eq_true q] at this;injection this
noncomputable def EH(tab:dE)(tr:List (aV×PV))(root many n:Int):Bool:=
 (match mB tab n with|some (ac (g,.dict l))=>decide (g=0)&&decide (l.length<=100)&&eN (.dict l)|_=>ak)&&(gC (mB tab) 20 n).isSome&&(kQ tab tr).all (fun s=>!s.page||!decide (s.n=n))&&decide (0<n)&&decide (n<900) &&
 (match fM tr (aa "Root") with|some (.ref a _)=>!decide (a=n)|_=>ak)
noncomputable def zj(tab:dE)(n:Int):Int:=(gC (mB tab) 20 n).getD 0
noncomputable def HN(tab:dE)(root n:Int)(way other:Nat):Wr:=tP n root (zj tab n) (fS (mB tab) n) (fS (mB tab) root) way other
noncomputable def fi(tab:dE)(tr:List (aV×PV))(root many n:Int):Bool:=(dF 7).all fun way=>(dF 6).all fun other=>Fm (bN (mB tab) (HN tab root n way other)) root many (kQ tab tr) (Cd tab tr) n (rC ((kQ tab tr).map (·.n)) root n way other)&&(HN tab root n way other).all fun w=>kU 6 w.2.2
set_option tactic.hygienic true in
theorem Hu{root many n:Int}(T:oU (mB tab) tr root (kQ tab tr) (Cd tab tr) (fS (mB tab) root))(hr:root<900)(ha:∀a g,fM tr (aa "Root")=ac (.ref a g)->a≠root)(hn:EH tab tr root many n=ai)(hc:fi tab tr root many n=ai):∀way,way<7->∀other,other<6->rH (mB tab) root n way other=ac (HN tab root n way other,rC ((kQ tab tr).map (·.n)) root n way other)/\AB (bN (mB tab) (HN tab root n way other)) tr root many (eu (kQ tab tr)) (rC ((kQ tab tr).map (·.n)) root n way other)/\∀w∈HN tab root n way other,kU 6 w.2.2=ai:=by
 intro way hw other ho;unfold EH at hn;simp only[aO,decide_eq_true_eq,aU] at hn;refine aZ hn ?_;clear hn;intro z9 n6;refine aZ z9 ?_;clear z9;intro z10 n5;refine aZ z10 ?_;clear z10;intro z11 n4;refine aZ z11 ?_;clear z11;intro z12 n3;refine aZ z12 ?_;clear z12;intro n1 n2;refine aY (cu.mp n2) fun right hright=>?_;have er:zj tab n=right:=by unfold zj;rw[hright];rfl
 have hl:mB tab n=ac (ac (0,.dict (fS (mB tab) n)))/\(fS (mB tab) n).length<=100:=by
  unfold fS;split at n1
  .rename_i g l e
   simp only[aO,decide_eq_true_eq] at n1;rw[e,n1.1.1];exact⟨rfl,n1.1.2⟩
  .injection n1
 unfold fi at hc;have hc:=aU.mp (aU.mp hc way (xC.mpr hw)) other (xC.mpr ho);rw[aO] at hc;obtain⟨c1,c2⟩:=M5 T (many:=many) n4 hl.1 hl.2 hright (fun s hs hp q=>by have:=n3 s hs;rw[hp,decide_eq_true q] at this;injection this) n5 hr (fun a g e=>⟨fun q=>(by rw[e] at n6;dsimp only at n6;rw[decide_eq_true q] at n6;exact absurd n6 (by decide)),ha a g e⟩) (by rw[<-er];exact hc.1);unfold HN;rw[er];refine jR c1 c2 (fun w hw'=>aU.mp hc.2 w ?_);unfold HN;rw[er];exact hw'
noncomputable def Xi:PV->Int
 |.dict l=>match fM l (aa "Kids") with|some (.arr (.ref n _::_))=>n|some _=>-1|none=>0
 |_=>0
noncomputable def C0(tab:dE)(tr:List (aV×PV)):Bool:=decide (tab.length<=20)&&decide ((tab.map (·.1)).Nodup)&&tab.all (fun p=>nq p.2.2)&&decide (((tab.filter fun p=>eN p.2.2).map fun p=>Xi p.2.2).Nodup)&&tab.all (fun p=>kU 6 p.2.2)&&trB 6 tr&&(tab.map (·.1)).all (fun k=>decide (k<900))&&HO (PV.dS tr)
theorem F0(h:C0 tab tr=ai):tab.length<=20/\ga tab/\(∀p∈tab,nq p.2.2=ai)/\(tab.Pairwise fun p q=>eN p.2.2=ai->eN q.2.2=ai->p.2.2≠q.2.2)/\(∀p∈tab,kU 6 p.2.2=ai)/\trB 6 tr=ai/\(∀k∈tab.map (·.1),k<900)/\HO (PV.dS tr)=ai:=by unfold C0 at h;simp only[aO,decide_eq_true_eq,aU] at h;refine aZ h ?_;clear h;intro z13 h8;refine aZ z13 ?_;clear z13;intro z14 h7;refine aZ z14 ?_;clear z14;intro z15 h6;refine aZ z15 ?_;clear z15;intro z16 h5;refine aZ z16 ?_;clear z16;intro z17 h4;refine aZ z17 ?_;clear z17;intro z18 h3;refine aZ z18 ?_;clear z18;intro h1 h2;refine⟨h1,h2,h3,?_,h5,h6,h7,h8⟩;unfold rO at h4;rw[sY,Ek] at h4;exact h4.imp fun h a b e=>h a b (by rw[e])
noncomputable def yf(lk:Lk)(v:PV)(ks:List bk)(i:Int):Bool:=match fO lk 64 [] v with|some h=>decide (lC ks h=i)|none=>ak
theorem BP{i:Int}(h:yf lk v ks i=ai):∃r,fO lk 64 [] v=ac r/\lC ks r=i:=by
 unfold yf at h;split at h
 .rename_i r e
  exact bq r e (of_decide_eq_true h)
 .injection h
noncomputable def sQ(tab:dE)(ks:List bk):Nat->List Int->Bool|_,[]=>ai|i,one::r=>((dF 4).all fun m=>yf (bN (mB tab) (ef i one m)) (lg i one m) ks i)&&sQ tab ks (i+1) r
theorem Ht(tab ks){i one r}:sQ tab ks i (one::r)=(((dF 4).all fun m=>yf (bN (mB tab) (ef i one m)) (lg i one m) ks i)&&sQ tab ks (i+1) r):=rfl
theorem Hs:∀{l:List Int}{j:Nat},sQ tab ks j l=ai->∀(i:Nat)(one:Int),l[i]?=ac one->∀m,m<4->yf (bN (mB tab) (ef (j+i) one m)) (lg (j+i) one m) ks ((j+i:Nat):Int)=ai:=by
 intro p0_;induction p0_ with
 |nil=>intro zz zz zz zz h zz zz;injection h
 |cons x r ih=>intro j hb i one h m hm;(first|rw[chainB_e0] at hb|rw[Ht] at hb|unfold sQ at hb);rw[aO] at hb;cases i with|zero=>(injection h with h;subst h);exact aU.mp hb.1 m (xC.mpr hm)|succ i=>have:=ih hb.2 i one h m hm;rwa[show j+1+i=j+(i+1) from by exact TS] at this
noncomputable def UM(tab:dE)(ks:List bk)(n0:Int):Bool:=(nX n0 (eu ks)).all (fun v=>yf (l6 (bW tab wW)) v ks (-1))&&sQ tab ks 0 (eu ks)&&decide ((((oj (fun a b=>decide (a<=b)) ((bW tab wW).map (·.1))).filter (lB (bW tab wW)))[0]?)=ac n0)
noncomputable def dQ(t:dE):List Int:=(t.map (·.1)).filter (lB t)
noncomputable def fz(tab:dE)(tr:List (aV×PV))(root:Int)(many:Nat)(n0:Int):Bool:=Im tab tr root many&&C0 tab tr&&(dQ tab).all (EH tab tr root many)&&decide (root∈dQ tab)&&UM tab (kQ tab tr) n0
noncomputable def jM(many:Nat):List Int:=(dF many).map fun(i:Nat)=>(i:Int)
def di(many:Nat)(w:Int):Prop:=∃tab tr root n0,eJ (jM many) w=ac (tab,tr,root)/\fz tab tr root many n0=ai/\(dQ tab).all (fi tab tr root many)=ai
theorem mT{k:Int}(h:k<900):Jp k=ak:=by unfold Jp;rw[Bool.eq_false_iff];intro e;simp only[iH,aO,decide_eq_true_eq,beq_iff_eq] at e;exact TB h e
theorem zD{k:Int}(h:k<900):mB tab k=ac (tab.lk k):=by unfold mB;rw[if_neg (by rw[mT h];decide)]
theorem Ic:Ks wW:=by intro w hw;simp only[wW,ao,cf,or_false] at hw;rcases hw with rfl|rfl<;>exact⟨rfl,_,_,rfl⟩
structure qD (tab tab':dE):Prop where
 keys:ga tab'
 lk:∀k,Jp k=ak->tab'.lk k=tab.lk k
 mem:∀p∈tab',p∈tab\/(Jp p.1=ai/\∃a b,p.2.2=.ref a b)
 heads:tab'.filter (fun p=>eN p.2.2)=tab.filter fun p=>eN p.2.2
 sub:∀k∈tab.map (·.1),k∈tab'.map (·.1)
 low:∀k∈tab.map (·.1),k<900
theorem vH(a b):eN (.ref a b)=ak:=rfl
theorem tx{k g a b:Int}:∀{tab:dE},(∀p∈tab,p.1=k->eN p.2.2=ak)->(tab.map fun r=>if r.1=k then(r.1,g,PV.ref a b) else r).filter (fun p=>eN p.2.2)=tab.filter fun p=>eN p.2.2
 |[],_=>rfl|p::r,h=>by
  have ih:=tx (g:=g) (a:=a) (b:=b) fun q hq=>h q (.tail _ hq);have hp:=h p (.head _);rw[au,dZ,dZ,ih];by_cases e:p.1=k;.rw[if_pos e,hp e,vH,if_neg (by decide),if_neg (by decide)]
  .rw[if_neg e]
theorem BX{k g a b:Int}(h:∀p∈tab,p.1=k->eN p.2.2=ak):(cQ tab k g (.ref a b)).filter (fun p=>eN p.2.2)=tab.filter fun p=>eN p.2.2:=by
 unfold cQ;split;.exact tx h
 .rw[rN,dZ,if_neg (by rw[vH];decide),List.filter_nil,bR]
theorem xk{k g x:Int}(h:x∈tab.map (·.1)):x∈(cQ tab k g v).map (·.1):=by
 refine ar (az.mp h) fun p hp z1=>?_;subst z1;unfold cQ;split
 .refine az.mpr (bq (if p.1=k then(p.1,g,v) else p) (az.mpr (bq p hp rfl)) ?_)
  split<;>rfl
 .exact az.mpr (bq p (bF _ hp) rfl)
theorem o9:∀{ws:Wr}{tab':dE},qD tab tab'->Ks ws->qD tab (bW tab' ws)
 |[],_,T,_=>T|w::r,tab',T,h=>by
  show qD tab (bW (cQ tab' w.1 w.2.1 w.2.2) r);refine o9 ?_ fun x hx=>h x (.tail _ hx);refine Ak (h w (.head _)) fun hu a b e=>?_;rw[e];have nohd:∀p∈tab',p.1=w.1->eN p.2.2=ak:=fun p hp ek=>by
   rcases T.mem p hp with z|⟨_,a,b,z⟩
   .have:=mT (T.low p.1 (ax z))
    rw[ek,hu] at this;injection this
   .rw[z];rfl
  refine⟨l9 _ _ _ _ T.keys,fun k hk=>?_,fun p hp=>?_,(BX nohd).trans T.heads,fun k hk=>xk (T.sub k hk),T.low⟩
  .rw[mO,if_neg (fun q=>by rw[q,hu] at hk;injection hk)]
   exact T.lk k hk
  .rcases BA hp with z|z
   .exact T.mem p z
   .subst z
    exact .inr ⟨hu,a,b,rfl⟩
theorem Gd(a b):nq (.ref a b)=ai:=by unfold nq;rw[vH,if_neg (by decide)];kernel_rfl
section
variable (T : qD tab tab')
include T
theorem qD.rows(h:∀p∈tab,nq p.2.2=ai):∀p∈tab',nq p.2.2=ai:=fun p hp=>by
 rcases T.mem p hp with z|⟨_,a,b,z⟩;.exact h p z
 .rw[z];exact Gd a b
theorem qD.dist(h:tab.Pairwise fun p q=>eN p.2.2=ai->eN q.2.2=ai->p.2.2≠q.2.2):tab'.Pairwise fun p q=>eN p.2.2=ai->eN q.2.2=ai->p.2.2≠q.2.2:=by rw[<-Ek (p:=fun x:Int×Int×PV=>eN x.2.2) (R:=fun p q=>p.2.2≠q.2.2)] at h ⊢;rw[T.heads];exact h
theorem qD.told(h:∀p∈tab,kU 6 p.2.2=ai):∀p∈tab',kU 6 p.2.2=ai:=fun p hp=>by
 rcases T.mem p hp with z|⟨_,a,b,z⟩;.exact h p z
 .rw[z];exact FX 5 a b
set_option tactic.hygienic true in
theorem qD.nodes{n:Int}(h:n∈fg tab'):n∈dQ tab:=by
 unfold fg at h;refine aZ (iG.mp h) fun h1 h2=>?_;unfold lB at h2;split at h2
 .rename_i g v e
  rcases T.mem _ (sy e) with z|⟨hu,a,b,z⟩
  .have hk:n∈tab.map (·.1):=ax (f:=(·.1)) z
   refine iG.mpr ⟨hk,?_⟩;unfold lB;rw[<-T.lk n (mT (T.low n hk)),e];exact h2
  .dsimp only at z
   rw[z] at h2;injection h2
 .injection h2
theorem qD.nodes'{n:Int}(h:n∈dQ tab):n∈fg tab':=by refine aZ (iG.mp h) fun h1 h2=>?_;refine iG.mpr ⟨(ii _).mem_iff.mpr (T.sub n h1),?_⟩;unfold lB at h2 ⊢;rw[T.lk n (mT (T.low n h1))];exact h2
theorem qD.nodesLen:(fg tab').length<=tab'.length:=by unfold fg;refine ae (dT _ _) ?_;rw[(ii _).length_eq,af];exact aI _
theorem qD.key{k:Int}(h:k∈tab'.map (·.1)):k<900\/Jp k=ai:=by
 refine ar (az.mp h) fun p hp z2=>?_;subst z2;rcases T.mem p hp with z|⟨hu,_⟩;.exact .inl (T.low _ (ax z))
 .exact .inr hu
end
theorem Ft{α:Al}:∀{ws:Wr}{tab:dE},qG α tab->(∀w∈ws,α w.1≠aq->∃l,w.2.2=.dict l)->qG α (bW tab ws)|[],_,h,_=>h|w::r,tab,h,hw=>by show qG α (bW (cQ tab w.1 w.2.1 w.2.2) r);exact Ft (sS h (hw w (.head _))) fun x hx=>hw x (.tail _ hx)
theorem Lf(tab root n way other):(HN tab root n way other).length<=5:=by
 unfold HN tP gB;rw[aS];show 4+_<=5;split;.exact aj rfl
 .exact aj rfl
theorem Os{α:Al}{root n:Int}(a0:α 900=aq)(a1:α 901=aq)(a2:α 902=aq):∀w∈HN tab root n way other,α w.1≠aq->∃l,w.2.2=.dict l:=by
 intro w hm ha;unfold HN tP gB at hm;rcases aJ.mp hm with hm|hm
 .simp only[ao,cf,or_false] at hm
  rcases hm with rfl|rfl|rfl|rfl;.exact absurd a0 ha
  .exact absurd a1 ha
  .exact absurd a2 ha
  .exact⟨_,rfl⟩
 .split at hm
  .cases hm
  .cases ap.mp hm
   exact⟨_,rfl⟩
theorem Hk(w root n way other):∀p∈rC w root n way other,p.2=aa "Parent"\/p.2=aa "Count":=by
 intro p hp;unfold rC at hp;refine ar (List.mem_flatMap.mp hp) ?_;clear hp;intro one zz hp;unfold lE at hp;rcases aJ.mp hp with hp|hp
 .split at hp
  .cases ap.mp hp;exact .inl rfl
  .cases hp
 .split at hp
  .cases ap.mp hp;exact .inr rfl
  .cases hp
structure Kv (many:Nat) (w:Int) (tab:dE) (tr:List (aV×PV)) (root n0:Int) (ks:List bk) (ws:Int->Nat->Nat->Wr) (due:Int->Nat->Nat->eK):Prop where
 build:eJ (jM many) w=ac (tab,tr,root)
 pages:cE (l6 tab) tr=ac (ac ks)
 fields:∀s∈ks,s.page=ai->jI (l6 tab) s=ai
 leaves:(eu ks).length=many
 len:tab.length<=20
 tabU:qD tab tab
 rows:∀p∈tab,nq p.2.2=ai
 dist:tab.Pairwise fun p q=>eN p.2.2=ai->eN q.2.2=ai->p.2.2≠q.2.2
 told:∀p∈tab,kU 6 p.2.2=ai
 trB:trB 6 tr=ai
 trN:HO (PV.dS tr)=ai
 hW:cE (l6 (bW tab wW)) tr=ac (ac ks)
 hn:(fg (bW tab wW))[0]?=ac n0
 hwr:∀v∈nX n0 (eu ks),∃h,fO (l6 (bW tab wW)) 64 [] v=ac h/\lC ks h=-1
 hch:∀i one,(eu ks)[i]?=ac one->∀m,m<4->cE (bN (mB tab) (ef i one m)) tr=ac (ac ks)/\∃h,fO (bN (mB tab) (ef i one m)) 64 [] (lg i one m)=ac h/\lC ks h=i
 rootIn:root∈dQ tab
 nodes:∀n∈dQ tab,∃g l,(n,g,PV.dict l)∈tab/\eN (.dict l)=ai
 cases:∀n∈dQ tab,∀way,way<7->∀other,other<6->rH (mB tab) root n way other=ac (ws n way other,due n way other)/\AB (bN (mB tab) (ws n way other)) tr root many (eu ks) (due n way other)/\(∀w∈ws n way other,kU 6 w.2.2=ai)/\(ws n way other).length<=5/\(∀p∈due n way other,p.2=aa "Parent"\/p.2=aa "Count")/\∀α:Al,α 900=aq->α 901=aq->α 902=aq->∀w∈ws n way other,α w.1≠aq->∃l,w.2.2=.dict l
theorem Ka(i one)(hi:i<8)(m)(hm:m<=4):Ks (ef i one m):=(DX hi one m hm).1
set_option tactic.hygienic true in
theorem O6(hmany:many<9){w:Int}(h:di many w):∃tab tr root n0 ks ws due,Kv many w tab tr root n0 ks ws due:=by
 refine fD h ?_;clear h;intro tab tr root n0 hb hs hc;unfold fz at hs;simp only[aO,decide_eq_true_eq,aU] at hs hc;refine aZ hs ?_;clear hs;intro z3 h5;refine aZ z3 ?_;clear z3;intro z4 h4;refine aZ z4 ?_;clear z4;intro z5 h3;refine aZ z5 ?_;clear z5;intro h1 h2;refine jW (Il h1) fun T hlv hr9 hra=>?_;refine DO (F0 h2) fun t1 t2 t3 t4 t5 t6 t7 t8=>?_;have TU:qD tab tab:=⟨t2,fun zz zz=>rfl,fun zz h=>.inl h,rfl,fun zz h=>h,t7⟩
 have TW:qD tab (bW tab wW):=o9 TU Ic;have off:∀k r,k<900->mB tab k=ac (ac r)->l6 tab k=mB tab k:=fun k r hk zz=>(zD hk).symm;unfold UM at h5;simp only[aO,decide_eq_true_eq,aU] at h5;refine aZ h5 ?_;clear h5;intro z6 i3;refine aZ z6 ?_;clear z6;intro i1 i2;refine⟨tab,tr,root,n0,kQ tab tr,HN tab root,rC ((kQ tab tr).map (·.n)) root,hb,T.same off,fun s hs hp=>tz (T.page s hs hp).1,hlv,t1,TU,t3,t4,t5,t6,t8,?_,?_,fun v hv=>BP (i1 v hv),fun i one hi m hm=>⟨?_,?_⟩,h4,fun n hn=>?_,fun n hn way hw other ho=>?_⟩
 .refine T.same fun k r hk zz=>?_
  rw[zD hk];show ac _=ac _;rw[TW.lk k (mT hk)]
 .unfold fg
  rw[Ey];exact i3
 .have hi8:i<8:=by have:=(cq.mp hi).1;exact TA hmany hlv this
  refine T.same fun k r hk zz=>qp fun w hw=>?_;have:=(Ka i one hi8 m (xh hm rfl) w hw).1;intro e;rw[e,mT hk] at this;injection this
 .have:=Hs i2 i one hi m hm
  rw[Nat.zero_add] at this;exact BP this
 .have:=h3 n hn
  unfold EH at this;simp only[aO] at this;have:=this.1.1.1.1.1;split at this
  .rename_i g l e
   simp only[aO] at this;have hk:n<900:=t7 n (iG.mp hn).1;rw[zD hk] at e;exact jN g l (sy (aB e)) this.2
  .injection this
 .refine jK (Hu T hr9 hra (h3 n hn) (hc n hn) way hw other ho) fun c1 c2 c3=>?_
  exact⟨c1,c2,c3,Lf ..,Hk _ _ _ _ _,fun α a0 a1 a2=>Os a0 a1 a2⟩
theorem vw:∀l:List Int,Pk (l.map DV.int)=ai|[]=>rfl|x::r=>vw r
theorem Pj(cells turn left):HO (im cells turn left)=ai:=by show(Pk (cells.map DV.int)&&(ai&&(ai&&ai)))=ai;rw[vw];rfl
theorem vf:∀Z,∃f,iZ Z Z f/\∀l,l.length=Z.length->f l=l|[]=>(bq _ .nil (fun l h=>(fN.mp h).symm))|p::m=>by refine ar (vf m) fun f h e=>?_;refine bq _ (.take h) (fun l hl=>?_);cases l with|nil=>injection hl|cons q r=>show q::f r=_;rw[e r (jZ hl)]
theorem DZ(O:B.Ok G)(H:gf G hd k f ds Zc R (fun zz zz zz zz zz=>False))(hh:hd=ai\/B.hd=ak)(P:iZ Z Zc re)(hk:k<=B.k)(q:∀d Zc',Zc'.map (·.1)=Zc.map (·.1)->R d Zc'->Q d Y (re Zc')):cI G B E f ds Y Z Q:=by intro V s vs S hi;refine ky (dP (H B.A V s vs (O.room.le hk) (fun e=>hh.elim (fun z=>by rw[z] at e;injection e) O.calm) S.hk ((S.stk O).less fun a z=>P.sublist.subset z) (S.pre P) hi) (oY.mono (fun r s' z7=>bl z7 fun d Z' V' T i h=>?_) fun zz zz x=>x.elim));exact⟨d,Y,re Z',V',S.post O P T,T.v0,i,q d Z' T.as h⟩
noncomputable def gP(p:Int×aV):fy:=.tuple [.int p.1,.str p.2]
theorem pA:∀l:eK,Bn (l.map gy)=ac (l.map gP)|[]=>rfl|p::r=>by rw[au,Bn,pA r];rfl
def BG(x:aV):Prop:=x=aa "Parent"\/x=aa "Count"
theorem GR(h:BG x):PyData.strOk x=ai:=by rcases h with rfl|rfl<;>decide +kernel
theorem yl(h:BG p.2):(gP p).canLay0=ai/\(gP p).depth=1:=by
 unfold gP;refine⟨?_,?_⟩;.simp only[wK,i4,GR h];rfl
 .simp only[AI,jY];rfl
theorem p8{p:Int×aV}(h:BG p.2):a6 (gP p)=ai:=by refine aZ (yl h) fun a b=>?_;unfold a6;rw[a,b];rfl
theorem v7:∀{l:eK},(∀p∈l,BG p.2)->i4 (l.map gP)=ai/\jY (l.map gP)<=1|[],_=>⟨rfl,aj rfl⟩|p::r,h=>by refine aZ (v7 fun q hq=>h q (.tail _ hq)) fun a b=>?_;refine aZ (yl (h p (.head _))) fun c d=>?_;rw[au,i4,jY,a,c,d];exact⟨rfl,lz.mpr ⟨aI _,b⟩⟩
theorem p7{l:eK}(h:∀p∈l,BG p.2):a6 (.list (l.map gP))=ai:=by refine aZ (v7 h) fun a b=>?_;unfold a6;rw[wK,a,AI,Oq,decide_eq_true_eq];exact GA b rfl
theorem yp(p q):a8 (gP p) (gP q)=decide (p=q):=by obtain⟨a,x⟩:=p;obtain⟨b,y⟩:=q;unfold gP;by_cases h1:a=b<;>by_cases h2:x=y<;>simp[a8,fZ,h1,h2]
theorem wg:∀l:eK,fZ (l.map gP) (l.map gP)=ai|[]=>rfl|p::r=>by rw[au,fZ,wg r,yp,decide_eq_true rfl];rfl
theorem yv(p):∀l:eK,((l.map gP).any fun y=>a8 y (gP p))=l.contains p|[]=>rfl|q::r=>by rw[au,dD,yv p r,yp,dq];congr 1;rw[wN,decide_eq_true_eq,beq_iff_eq];exact⟨Ld,Ld⟩
theorem DA(l k):(kr (PV.dS l) k).getD DV.none=(dC l k).d:=by rw[gu];unfold dC;cases fM l k with|none=>rw[PV.d.eq_def];rfl|some v=>rfl
theorem WP.dropMu{Q:β->aP->Mu->Prop}(h:WP G B E rel t Y Z Q):WP G B E rel t Y (p::Z) Q:=fun V s S=>h V s S.drop
theorem WP.dropAll{Q:β->aP->Mu->Prop}(h:WP G B E rel t Y Z Q):∀X,WP G B E rel t Y (X++Z) Q|[]=>h|_::X=>WP.dropMu (WP.dropAll h X)
theorem JF{Q:Fl->aP->Mu->Prop}(J:aP->Mu->Prop)(h:EX G B E t Y Z fun f Y' Z'=>f=.next/\J Y' Z')(q:∀Y' Z',J Y' Z'->Q .next Y' Z'):EX G B E t Y Z Q:=h.mono fun zz zz zz h=>h.1▸q _ _ h.2
theorem QC{b o:List jU}{Q:Fl->aP->Mu->Prop}(c)(h:EB G B E (isTrue t B.env (a9 t B.env)) Y Z fun b' Y' Z'=>b'=c/\Y'=Y/\Z'=Z)(h1:c=ai->EX G B E (eD b B.env) Y Z Q)(h2:c=ak->EX G B E (eD o B.env) Y Z Q):EX G B E (fb (.If t b o pos) B.env) Y Z Q:=JE (h.mono fun b' Y' Z' z8=>jK z8 fun e1 e2 e3=>by subst e1 e2 e3;exact⟨h1,h2⟩)
theorem Kl{a b d0:DV}{Q:aP->Mu->Prop}(O:B.Ok G)(hn:B.hd=ak)(h1:pF Y x a Y1)(hcc:df B.env y c)(R:fE c (.cell d0) (.cell b) Z Z')(q:Q Y1 Z'):AS G B E (.Tuple [.Name x px,.Name y py] k pos) (.tup [a,b]) Y Z Q:=by
 intro V s v S hi;refine d1 hi ?_;clear hi;intro t o vs n z1 y18;refine oM y18 ?_;clear y18;intro ho hc zz hd u1 y19;refine mi y19 ?_;clear y19;intro zz hv iu1 u2 r y20;refine jK y20 ?_;clear y20;intro z2 iu2 z3;subst z1;subst z2;subst z3;have hT:s.heap.IsTuple t vs:=(dI o (S.vh _ _ ho) hc n hd)
 have hsz:vs.size=2:=by rw[<-aF,hv];rfl
 rw[yC];refine ah (cG ?_);show bd _ _ (unpack (.ref t) [(ak,assign (.Name x px) B.env),(ak,assign (.Name y py) B.env)]) _ _ _;unfold unpack;show bd _ _ (holding _ (rS (.ref t) 2 aq) >>= _) _ _ _;rw[<-hsz];refine ah (bG (b5 (fX (O.calm hn) hT fun h' hx hz=>?_)));rw[hv];have S1:b9 (cx G B) V Y Z {s with heap:=h'}:=(S.grow0 hx hz)
 refine ah (bG (ah (cG (c7 (gJ O S1 iu1 h1 fun s2 S2=>?_)))));refine aM (S2.mu _ R.mem) fun oc xv hoc hdt hxv=>?_;refine ah (bG (ah (cG (c7 (KP O.c.fn hcc.kind hcc.at_ (bq oc hoc hdt) fun h' hc hs=>?_)))));refine ar hc ?_;clear hc;intro o' ho' hd';exact aH ⟨(),Y1,Z',V,S2.repl (t:=s2.toks) R hs (bO o' _ ho' hd' (fun zz=>(bq _ rfl iu2))),.refl _,trivial,q⟩
theorem Cc(g:dK G):∀h,G.K.In h->W9 h 616 614:=fun h X=>⟨_,_,_,_,_,_,_,_,_,X _ _ (by rfl),rfl,rfl,rfl,rfl,rfl,rfl,rfl,rfl,by decide⟩
theorem QV{many i x:Nat}(h:(dF (many:Int).toNat)[i]?=ac x):(jM many)[i]?=ac (x:Int):=by unfold jM;rw[bj];rw[show(many:Int).toNat=many from rfl] at h;rw[h];rfl
theorem EK(e:eu ks=L){i:Nat}{x:bk}(h:(ks.filter (·.page))[i]?=ac x):L[i]?=ac x.n:=by subst e;unfold eu;rw[bj,h];rfl
theorem WP.mu_eq{Z Z':Mu}{Q:β->aP->Mu->Prop}(e:Z=Z')(w:WP G B E rel t Y Z' Q):WP G B E rel t Y Z Q:=e▸w
theorem Ko{w root n0:Int}{α:Al}(TU:qD tab tabA)(F:Kv many w tab tr root n0 ks ws due)(a1:∀n,α n≠aq->n∈tabA.map (·.1))(a2:∀p∈tabA,eN p.2.2=ak->α p.1=aq)(a3:∀p∈tabA,eN p.2.2=ai->(α p.1).isSome=ai):α 900=aq/\α 901=aq/\α 902=aq/\qG α tabA/\∀n∈dQ tab,(α n).isSome=ai:=by
 have noKey:∀x,¬x<900->Jp x=ak->α x=aq:=fun x h1 h2=>by
  cases e:α x with|none=>rfl|some a=>
   rcases TU.key (a1 x (by rw[e];simp)) with z|z;.exact absurd z h1
   .rw[h2] at z;injection z
 refine⟨noKey 900 (by decide) (by decide),noKey 901 (by decide) (by decide),noKey 902 (by decide) (by decide),fun p hp ha=>?_,fun n hn=>?_⟩
 .cases e:eN p.2.2 with
  |false=>exact absurd (a2 p hp e) ha|true=>
   revert e;cases p.2.2 with
   |dict l=>exact fun zz=>⟨l,rfl⟩
   |_=>exact fun e=>nomatch e
 .refine cX (F.nodes n hn) fun gn l hm hd=>?_
  have hn9:=F.tabU.low n (ax (f:=(·.1)) hm);have e1:tab.lk n=ac (gn,.dict l):=by refine g5 (sx (ax (f:=(·.1)) hm)) fun g' v' e'=>?_;have:=zd F.tabU.keys e' _ hm rfl;(injection this with _ q1;injection q1 with q2 q3;subst q2;subst q3);exact e'
  have:=sy ((TU.lk n (mT hn9)).trans e1);exact a3 _ this hd
theorem Gj{x y:fy}{b:Bool}(W:Wk G B gs ff)(P:PD Z d x)(P':PD Z d' y)(hx:a6 x=ai)(hy:a6 y=ai)(e:(!a8 x y)=b)(q:Q (.bool b) Y Z):O2 G B E (Is G.prog G.w) (bi .NotEq) d d' Y Z Q:=Bq W.O P P' hx hy (by rw[e];exact q)
theorem cI.permD{Z Z':Mu}(h:Z.Perm Z')(w:cI G B E f ds Y Z' Q):cI G B E f ds Y Z Q:=fun V s vs S hi=>w V s vs (S.perm h) hi
theorem yT(g:dK G)(hs:d4 lk tab)(hl:tab.length<=900)(ws)(hr:iQ lk tr=ac (ac ws)):ir G 6 (.ref 540) [bg t r] (bz t r tab tr) (fun d Z'=>d=.none/\Z'=bz t r (bW tab ws) tr):=by intro A V s vs a b c d e f;refine dP (gf.sureOf rfl (oa g hs hl (ac ws) hr) A V s vs a b c d e f) (oY.mono (fun r s' h=>?_) fun e s' x=>x);refine bl h ?_;clear h;intro d Z' V' x y y21;refine bp y21 ?_;clear y21;intro ws' h1 h2 h3;(injection h2 with h2;subst h2);exact ez d Z' V' x y h1 h3
theorem GS{root:Int}(hkept:zF root due par kept=ai):∃bK,(!due.contains (root,aa "Parent")&&!par.isNull)=bK/\((bK=ai/\∃a b,par=.ref a b/\kept=.ref a b)\/(bK=ak/\kept=.null)):=by
 refine bq _ rfl ?_;unfold zF at hkept;split at hkept
 .rename_i h0
  refine .inl ⟨h0,?_⟩;split at hkept
  .simp only[aO,beq_iff_eq] at hkept
   refine aZ hkept ?_;clear hkept;intro z4 z5;subst z4;subst z5;exact jN _ _ rfl rfl
  .injection hkept
 .rename_i h0
  refine .inr ⟨by simpa using h0,?_⟩;cases kept<;>first|rfl|injection hkept
noncomputable def UD(ns:List Int)(k:aW)(many wid root leaves due parent count kept iskept:DV):aP:=[(aa "script",.lst (ns.map DV.int)),(aa "keg",.ptr k),(aa "many",many),(aa "width",wid),(aa "root",root),(aa "leaves",leaves),(aa "due",due),(aa "parent",parent),(aa "count",count),(aa "kept",kept),(aa "is_kept",iskept)]
noncomputable def GM(L t r k:aW)(tab:dE)(tr:List (aV×PV))(keg:List (aV×DV))(l1 l2:List xA):Mu:=[(t,MO.idic tab.d),(r,.sdic (PV.dS tr)),(k,.sdic keg),(L,.cell (bg t r)),(607,.pr (jl l1)),(614,.pr (jl l2))]
section
variable (g : dK G)
include g
theorem ID(Bm:Nm G)(hsh:∀many,many<9->∀w:Int,w=2\/w=3->di many w)(ns:List Int)(hl:ns.length<=900)(hV0:∀a o,V0 a=ac o->g0 o=ak):∀A s vs,qE A 31->A.handled=aq->m3 A ([((607:aW),MO.pr (jl [])),(614,.pr (jl []))].map (·.1)) V0 s->Eb G V0 [(607,.pr (jl [])),(614,.pr (jl []))] s->gO G.prog G.w V0 [.lst (ns.map DV.int)] vs->fH (bf G.prog G.w) A (.call (.ref 617) ⟨vs,[]⟩) (oY (fun r s'=>∃d Z' V',Kx G A [(607,.pr (jl [])),(614,.pr (jl []))] s V' Z' s'/\Is G.prog G.w V' d r/\(d=.bool ai/\∃l1 l2,Z'=[(607,.pr (jl l1)),(614,.pr (jl l2))])) fun zz zz=>False) s:=by
 refine MU (R:=fun d Z'=>d=.bool ai/\∃l1 l2,Z'=[(607,.pr (jl l1)),(614,.pr (jl l2))]) (Y0:=(aa "script",.lst (ns.map DV.int))::[aa "keg",aa "many",aa "width",aa "root",aa "leaves",aa "due",aa "parent",aa "count",aa "kept",aa "is_kept"].map fun x=>(x,.any)) (Yc:=[.any]) (ps:=[aa "script"]) g.ok (by rfl) rfl rfl rfl rfl rfl rfl rfl rfl (by rfl) rfl (gA fun zz=>rfl) (by decide +kernel) ?_ ?_ ?_ (by simp only[au,bI];decide +kernel) ?_ ?_
 .intro n x hx
  cases ap.mp hx;exact .inl rfl
 .intro p hp
  rcases ao.mp hp with rfl|hp;.exact⟨rfl,fun zz=>.head _⟩
  .refine ar (az.mp hp) fun x hx z6=>?_
   subst z6;exact⟨RF ((aU (p:=fun x=>En x _==ac NameKind.local)).mp (by kernel_rfl) x hx),fun h=>absurd rfl h⟩
 .intro n p hp
  cases ap.mp hp;exact jR rfl rfl (fun h=>absurd rfl h)
 .intro d Z' x mo h zz e
  refine aZ h ?_;clear h;intro z7 zz;subst z7;cases mo<;>cases e
 intro B O hk hh henv hm hv;refine(show Kz G B _ _ _ [(B.L+1,MO.cell .any),(607,.pr (jl [])),(614,.pr (jl []))] _ from ?_);have W:Wk G B _ ai:=⟨O,fun zz=>hh,g,(.cons (DD g) (.cons (BU g) (.cons (lj g) (.cons (vU g) (.cons (ri g) (.cons (BR g) (.cons (qy g) (.cons (oH g) (.cons (BS g) (.cons (oG g) (.cons (cT g) (.cons (vR g) (.cons (un g) (.cons (lD g) (.cons (ln g) (.cons (sF g) (.cons (rj g) .nil))))))))))))))))),by rw[henv];kernel_rfl⟩
 have hcs:df B.env (aa "shelf") (B.L+1):=by rw[henv];exact⟨rfl,rfl⟩
 refine mh (p9 (Lj W ?_) (by rw[henv];rfl) (by rw[henv];rfl));walk_at "v";refine Er W (IE g ns hl) (.inr hh) .nil (cN hk rfl) ?_;intro d new Z' h;refine bB h ?_;clear h;intro k cells hc z8 z9 z10;subst z8;subst z9;subst z10;walk_at "w";refine Er W (A5 g) (.inr hh) .nil (cN hk rfl) ?_;intro d new Z' h;refine aM h ?_;clear h;intro t r z11 z12 z13;subst z11;subst z12;subst z13;walk_at "w";refine Kl O hh (cH rfl) hcs (.tail (.tail (.tail .head))) ?_;refine mh (g8 O hh ?_ (by rw[henv];rfl) (by rw[henv];kernel_rfl));walk_at "w";refine eT O (jn g k cells 0 0 9 hc (mz 0) (by decide) (mz 0) (by decide) (by decide)) (.inr hh) (.skip (.skip (.take .nil))) (cN hk rfl) ?_;intro d Z' h;refine eY h ?_;clear h;intro manyI turn1 left1 z14 hm0 hm9 ht10 ht11 hl1 z15;subst z14;subst z15;walk_at "w";refine eT O (jn g k cells turn1 left1 2 hc (TR ht10) (TQ ht11) hl1 (by decide) (by decide)) (.inr hh) (.skip (.skip (.take .nil))) (cN hk rfl) ?_;intro d Z' h;refine eY h ?_;clear h;intro widI turn2 left2 z16 hw0 hw2 ht20 ht21 hl2 z17;subst z16;subst z17;walk_at "w";refine Ev (cH rfl) (cH rfl) ?_;obtain⟨many,rfl,hmany⟩:∃m:Nat,manyI=(m:Int)/\m<9:=(bq manyI.toNat (by exact Pe hm0) (by exact TP hm9))
 have hwid:(2+widI:Int)=2\/(2+widI:Int)=3:=by exact TO hw0 hw2
 generalize(2+widI:Int)=wid at hwid ⊢;refine DM (O6 hmany (hsh many hmany wid hwid)) fun tab tr root n0 ks wsF dueF F=>?_;refine mh ?_;walk_at "w";refine bD W hcs (.tail _ (.tail _ (.tail _ (.head _)))) (by intro h;injection h) (by decide +kernel) ?_;walk_at "w";refine ig (cl:=[]) W ⟨by rw[henv];rfl,by decide +kernel,rfl,by decide +kernel⟩ rfl rfl ?_;walk_at "w";refine mY O fun ra=>?_;walk_at "w";refine ft W .nil rfl (mR O hh (UN hmany rfl) (TN)) (by rw[af,dG];exact TM hmany) (fun i out Z=>out=((jM many).take i).map (fun a=>(PV.dict (th a)).d)/\Z=GM (B.L+1) t r k [] [] (im cells turn2 left2) [] []) ⟨rfl,by unfold GM;rfl⟩ ?_ ?_
 .intro B' P i d' out Z2 hd hI W' hec hk' hh' zz hP
  refine aZ hI ?_;clear hI;intro e1 e2;subst e1;subst e2;refine ar (dJ hd) fun x z18 hx=>?_;subst z18;have hx':=QV hx;walk_at "w";refine jF W' rfl rfl (by simp) (by decide) fun da=>?_;walk_at "v";refine eL W'.O (ie W' ?_);walk_at "w";refine⟨aj rfl,?_⟩;walk_at "w";refine cB _ (by simp only[au,bI];decide +kernel) .head ?_;walk_at "w";exact hP _ _ ⟨by rw[ci,hx',ct,aA];rfl,rfl⟩
 intro out Z hI;refine aZ hI ?_;clear hI;intro e1 e2;subst e1;subst e2;have hal:(jM many).length=many:=by unfold jM;rw[af,dG]
 rw[af,dG,bt (by rw[hal];exact bv rfl)];walk_at "w";refine aw O (sd g (jM many) wid (by rw[hal];exact xh hmany rfl) (TL hwid) (TK hwid) tab tr root F.build) (.inr hh) (.take (.take .nil)) (cN hk rfl) ?_;walk_at "w";refine mh ?_;walk_at "w";refine o6 (cl:=[]) W ⟨by rw[henv];rfl,by decide +kernel,rfl,by decide +kernel⟩ rfl rfl (by rw[henv];kernel_rfl) ?_;walk_at "w";refine bD W hcs (.tail _ (.tail _ (.tail _ (.head _)))) (by intro h;injection h) (by decide +kernel) ?_;walk_at "w";have hkl:=fj F.pages;have hlv8:(eu ks).length<=8:=by rw[F.leaves];exact xh hmany rfl
 have hlvl:(eu ks).length=(ks.filter (·.page)).length:=af ..;refine aw O ((ql g (jq tab) (ac ks) F.pages fun k' e=>by(injection e with e;subst e);exact F.fields).sure rfl) (.inr hh) (.take (.take .nil)) (cN hk rfl) ?_;walk_at "w";refine ft W .nil rfl (cA O) (by rw[af];exact TJ hlv8 hlvl) (fun i out Z=>out=((eu ks).take i).map DV.int/\Z=GM (B.L+1) t r k tab tr (im cells turn2 left2) [] []) ⟨rfl,rfl⟩ ?_ ?_
 .intro B' P i d' out Z2 hd hI W' hec hk' hh' zz hP
  refine aZ hI ?_;clear hI;intro e1 e2;subst e1;subst e2;refine ar (dJ hd) fun x z19 hx=>?_;subst z19;walk_at "w";exact hP _ _ ⟨iV (EK rfl hx),rfl⟩
 intro out Z hI;refine aZ hI ?_;clear hI;intro e1 e2;subst e1;subst e2;rw[af,<-hlvl,bt (aI _)];walk_at "w";refine mh ?_;walk_at "w";refine I3 (.inl rfl) (by rw[af];exact jd hlv8 rfl) (by rw[af,F.leaves]) ?_;walk_at "w";refine iY (bne_self_eq_false _) ?_;walk_at "w";refine bD W hcs (.tail _ (.tail _ (.tail _ (.head _)))) (by intro h;injection h) (by decide +kernel) ?_;walk_at "w";refine eT O (yX g k cells turn2 left2 (eu ks) ks n0 hc (ba ht10 ht20) (TI ht11 ht21) hl2 F.len hlv8 F.hW F.hn (TH (o9 F.tabU Ic).nodesLen (lW tab wW) F.len rfl) F.hwr F.hch) (.inr hh) (.take (.take (.take .nil))) (cN hk rfl) ?_;intro d Z' h;refine eY h ?_;clear h;intro wsU turn3 left3 z20 hwsU hwsl ht30 ht31 hl3 z21;subst z20;subst z21;walk_at "w";have TU:=o9 F.tabU hwsU;have htl:=lW tab wsU;have hlen:=F.len;have hlk:d4 (mB tab) (bW tab wsU):=IF hwsU;generalize bW tab wsU=tabA at TU htl hlk ⊢;have hA60:tabA.length<60:=by exact TG hwsl hlen htl
 refine Kz.thaw (Z:=[(r,.sdic (PV.dS tr)),(k,.sdic (im cells turn3 left3)),(B.L+1,.cell (bg t r)),(607,.pr (jl [])),(614,.pr (jl []))]) (O.calm hh) (by rw[hv];exact hV0) TU.keys (TU.rows F.rows) ?_ ?_ (TU.dist F.dist) ?_;.repeat(first|exact wO|refine dH (by first|rfl|exact vw _) ?_)
 .repeat(first|exact wO|refine dH (by first|rfl|exact F.trN|exact Pj _ _ _) ?_)
 intro α a1 a2 a3;refine rB (Ko TU F a1 a2 a3) fun a900 a901 a902 hal someHd=>?_;refine ar (vf (j4 α tabA)) fun pf hpf epf=>?_;refine Kz.of (g4 ?_);walk_at "w";refine bD W hcs (.tail _ (.tail _ (.tail _ (.head _)))) (by intro h;injection h) (by decide +kernel) ?_;walk_at "w";refine DZ O (F8 g k cells turn3 left3 root hc (ba (ba ht10 ht20) ht30) (TF ht11 ht21 ht31) hl3 hlk hA60 hal TU.keys a900 a901 a902 (someHd root F.rootIn) (List.length_pos_of_mem (TU.nodes' F.rootIn)) (by have:=TU.nodesLen;exact TE hwsl hlen htl this) (fun n hn=>someHd n (TU.nodes hn)) (fun n hn way hw other ho=>by rw[(F.cases n (TU.nodes hn) way hw other ho).1];rfl)) (.inr hh) (.take (.take (.take (.skip (.skip (.skip hpf)))))) (cN hk rfl) ?_;intro d Z' hks h;refine ei h ?_;clear h;intro n way other wsB due y22;refine bB y22 ?_;clear y22;intro turn4 left4 hn hway hother y23;refine iX y23 ?_;clear y23;intro hbent ht40 ht41 hl4 z22 z23;subst z22;subst z23;refine iX (F.cases n (TU.nodes hn) way hway other hother) fun c1 C c3 c4 c6 c5=>?_;rw[c1] at hbent;injection hbent with hbent;injection hbent with e1 e2;subst e1;subst e2;have hpl:(j4 α (bW tabA (wsF n way other))).length=(j4 α tabA).length:=by have:=congrArg RM hks;simpa using this
 have hep:=epf _ hpl;have hal2:qG α (bW tabA (wsF n way other)):=Ft hal (c5 α a900 a901 a902);have hlk2:=kD hlk (wsF n way other);have htl2:=lW tabA (wsF n way other);have htold:=FW (TU.told F.told) c3;clear hks hpl hpf epf a1 a2 a3 someHd;generalize bW tabA (wsF n way other)=tabB at hal2 hlk2 htl2 htold hep ⊢;generalize bN (mB tab) (wsF n way other)=lkB at C hlk2;generalize dueF n way other=due at C c6 ⊢;walk_at "w";refine WP.mu_eq (Z':=(t,MO.idic (de α tabB))::([(r,.sdic (PV.dS tr)),(k,.sdic (im cells turn4 left4)),(B.L+1,.cell (bg t r)),(607,.pr (jl [])),(614,.pr (jl []))]++j4 α tabB)) (congrArg (fun z=>_::_::_::_::_::_::z) hep) ?_;refine WP.refreeze (t:=t) (tab:=tabB) (α:=α) hal2 (by rw[hm];intro a ha;simp only[au,bI,ao,cf,or_false] at ha ⊢;rcases ha with rfl|rfl<;>simp) ?_;refine d1 C.rest fun gl l v wsS hl1r y24=>iX y24 fun hl2r hcnt hset hsl hf2 y25=>J1 y25 fun hc2 z24 g2 l2 hl3r hkept=>?_;refine bp z24 ?_;clear z24;intro ks2 hk2 hkl hkf;have hrow:kr tabB.d root=ac (.tup [.int gl,.sdic (PV.dS l)]):=by rw[dE.lkD,hlk2 _ _ hl1r];simp only[hO,PV.d]
 have htl4:tabB.length<64:=by exact TD hwsl hlen htl c4 htl2
 clear hal2 htl2 hep;refine r5 W [453] ?_;walk_at "v";refine bD W hcs (.tail _ (.tail _ (.tail _ (.head _)))) (by intro h;injection h) (by decide +kernel) ?_;walk_at "w";refine cw (K:=Int) (l:=tabB.d) (x:=.tup [.int gl,.sdic (PV.dS l)]) (.inr (bq t rfl (.head _))) hrow ?_ (fun zz zz=>rfl);walk_at "w";refine eh (j:=1) (x:=.sdic (PV.dS l)) (by decide) (by decide) rfl rfl ?_ (fun zz zz=>rfl);walk_at "w";refine iU (K:=aV) W (.inl rfl) ?_;walk_at "w";have hpd:=PV.d_any (dC l (aa "Parent"));refine oN (K:=aV) (.inl rfl) (DA _ _) ?_;walk_at "w";refine bD W hcs (.tail _ (.tail _ (.tail _ (.head _)))) (by intro h;injection h) (by decide +kernel) ?_;walk_at "w";refine aw O ((jo g hlk2 (ac due) C.faults).sure rfl) (.inr hh) (.take (.take .nil)) (cN hk rfl) ?_;walk_at "w";refine Gj W (b:=ak) (.inr (bO _ _ (.inl rfl) (pA due) rfl)) (.inr (bO _ _ (.inl rfl) (pA due) rfl)) (p7 c6) (p7 c6) (by rw[a8,wg];rfl) ?_;walk_at "w";refine bD W hcs (.tail _ (.tail _ (.tail _ (.head _)))) (by intro h;injection h) (by decide +kernel) ?_;walk_at "w";refine bD W hcs (.tail _ (.tail _ (.tail _ (.head _)))) (by intro h;injection h) (by decide +kernel) ?_;walk_at "w";refine cw (K:=Int) (l:=tabB.d) (x:=.tup [.int gl,.sdic (PV.dS l)]) (.inr (bq t rfl (.head _))) hrow ?_ (fun zz zz=>rfl);walk_at "w";refine eh (j:=1) (x:=.sdic (PV.dS l)) (by decide) (by decide) rfl rfl ?_ (fun zz zz=>rfl);walk_at "w";refine iU (K:=aV) W (.inl rfl) ?_;walk_at "w";refine oN (K:=aV) (.inl rfl) (DA _ _) ?_;walk_at "w";refine aw O (kC g hlk2 _ v hl2r) (.inr hh) (.take (.take .nil)) (cN hk rfl) ?_;have hvd:=PV.d_any v;walk_at "w";refine g4 (JF (fun Y' Z'=>Y'=UD ns k (.int (many:Int)) (.int wid) (sq root) (.lst ((eu ks).map DV.int)) (.lst (due.map gy)) (dC l (aa "Parent")).d v.d .any .any/\∃X l2,Z'.Perm (X++GM (B.L+1) t r k tabB tr (im cells turn4 left4) [] l2)) (QC (fU v) ?_ ?_ ?_) ?_)
 .walk_at "w"
  refine Dt W (PV.tgd _) rfl ?_;cases hq:gt v.tg with
  |false=>
   have e:fU v=ak:=by cases v<;>first|(cases hq;done)|rfl
   walk_at "w";exact jR e.symm rfl rfl
  |true=>
   walk_at "w";refine zL W (PV.tgd _) rfl ?_;cases hb:eQ v.tg with
   |true=>
    have e:fU v=ak:=by cases v<;>first|((first|(injection hb;done)|cases hb);done)|rfl
    walk_at "w";exact jR e.symm rfl rfl
   |false=>
    obtain⟨i,rfl⟩:∃i,v=.int i:=by cases v<;>first|((first|(injection hq;done)|cases hq);done)|(cases hb;done)|exact⟨_,rfl⟩
    rw[PV.d];walk_at "w";by_cases h0:i>=0
    .refine oS (decide_eq_true h0) ?_
     walk_at "w";exact jR ((decide_eq_true h0).symm) rfl rfl
    .refine iY (decide_eq_false h0) ?_
     walk_at "w";exact jR ((decide_eq_false h0).symm) rfl rfl
 .intro hcv
  obtain⟨i,rfl,hi⟩:∃i,v=.int i/\0<=i:=by cases v<;>first|((first|(injection hcv;done)|cases hcv);done)|exact bq _ rfl (of_decide_eq_true hcv)
  have hci:fe lkB tr=ac (ac i):=by rw[hcnt];unfold sO;dsimp only;rw[if_pos hi]
  rw[PV.d];walk_at "w";refine bD W hcs (.tail _ (.tail _ (.tail _ (.head _)))) (by intro h;injection h) (by decide +kernel) ?_;walk_at "w";refine aw O ((g7 g hlk2 (ac i) hci).sure rfl) (.inr hh) (.take (.take .nil)) (cN hk rfl) ?_;walk_at "w";refine iY (bne_self_eq_false _) ?_;walk_at "w";exact⟨rfl,rfl,[],[],.refl _⟩
 .intro hcv
  have hci:fe lkB tr=ac aq:=by
   rw[hcnt];cases v<;>first|rfl|skip
   rename_i i;unfold fU at hcv;unfold sO;dsimp only;rw[if_neg (of_decide_eq_false hcv)]
  walk_at "w";refine bD W hcs (.tail _ (.tail _ (.tail _ (.head _)))) (by intro h;injection h) (by decide +kernel) ?_;walk_at "w";refine eL O (ie W ?_);walk_at "w";refine kt O Bm rfl (by rw[henv];rfl) (by rw[henv];rfl) (Cc g) (ls:=[]) rfl (.tail (.tail (.tail (.tail (.tail .head))))) (by decide) fun f1=>?_;walk_at "w";refine⟨aj rfl,?_⟩;refine bp (CX htold F.trB) fun res hr1 hr2 hr3=>?_;walk_at "w";refine cI.permD (cO [_] [_,_] _) ?_;refine aw O (nj g (tab:=tabB) (tr:=tr) (A:=[_,_]) 6 res hr1 hr2 hr3 htl4 (by decide) [f1] (aj rfl) ?hf) (.inr hh) (.take (.take (.take (.skip (.take .nil))))) (cN hk rfl) ?_;case hf=>intro f hf;cases ap.mp hf;exact⟨_,_,_,_,_,_,_,_,.head _,.take (.take (.take (.take .nil))),lU g (lD g) (Dq g) (by decide +kernel) (by decide +kernel) (g7 g hlk2 aq hci) (by decide) (by decide) _ (B.L+1) _ _ _ _⟩
  walk_at "w";exact⟨rfl,rfl,[_],_,cO [_,_] [_] _⟩
 intro Y' Z' h;refine Ak h ?_;clear h;intro z25 X lt2 hp;subst z25;refine WP.permD hp (WP.dropAll ?_ X);have htl9:tabB.length<=900:=by exact xh htl4 rfl
 clear hp hcnt htold hl1r htl4 hl2r hrow;have hlk3:=kD hlk2 wsS;have hrow2:kr (bW tabB wsS).d root=ac (.tup [.int g2,.sdic (PV.dS l2)]):=by rw[dE.lkD,hlk3 _ _ hl3r];simp only[hO,PV.d]
 refine r5 W [462] ?_;walk_at "v";refine bD W hcs (.tail _ (.tail _ (.tail _ (.head _)))) (by intro h;injection h) (by decide +kernel) ?_;walk_at "w";refine aw O (yT g hlk2 htl9 wsS hset) (.inr hh) (.take (.take .nil)) (cN hk rfl) ?_;generalize bW tabB wsS=tabS at hlk3 hrow2 ⊢;generalize bN lkB wsS=lkS at hlk3 hf2 hc2 hk2 hkf;walk_at "w";refine bD W hcs (.tail _ (.tail _ (.tail _ (.head _)))) (by intro h;injection h) (by decide +kernel) ?_;walk_at "w";refine aw O ((jo g hlk3 (ac []) hf2).sure rfl) (.inr hh) (.take (.take .nil)) (cN hk rfl) ?_;walk_at "w";refine eL O (ie W ?_);walk_at "w";refine⟨a7 _,?_⟩;walk_at "w";refine qq W (b:=ak) (.inl rfl) rfl ?_;walk_at "w";refine bD W hcs (.tail _ (.tail _ (.tail _ (.head _)))) (by intro h;injection h) (by decide +kernel) ?_;walk_at "w";refine aw O ((g7 g hlk3 (ac many) hc2).sure rfl) (.inr hh) (.take (.take .nil)) (cN hk rfl) ?_;walk_at "w";refine iY (bne_self_eq_false _) ?_;walk_at "w";refine ig (cl:=[]) W ⟨by rw[henv];rfl,by decide +kernel,rfl,by decide +kernel⟩ rfl rfl ?_;walk_at "w";refine bD W hcs (.tail _ (.tail _ (.tail _ (.head _)))) (by intro h;injection h) (by decide +kernel) ?_;walk_at "w";have hk2l:=fj hk2;have hk2f:=dT (fun s:bk=>s.page) ks2;have hkl2:(eu ks).length=(ks2.filter (·.page)).length:=by rw[<-hkl];exact af ..
 refine aw O ((ql g hlk3 (ac ks2) hk2 fun k' e=>by(injection e with e;subst e);exact hkf).sure rfl) (.inr hh) (.take (.take .nil)) (cN hk rfl) ?_;walk_at "w";refine ft W .nil rfl (cA O) (by rw[af];exact TC hk2l hk2f) (fun i out Z=>out=((eu ks).take i).map DV.int/\Z=GM (B.L+1) t r k tabS tr (im cells turn4 left4) [] lt2) ⟨rfl,rfl⟩ ?_ ?_
 .intro B' P i d' out Z2 hd hI W' hec hk' hh' zz hP
  refine aZ hI ?_;clear hI;intro e1 e2;subst e1;subst e2;refine ar (dJ hd) fun x z26 hx=>?_;subst z26;walk_at "w";exact hP _ _ ⟨iV (EK hkl hx),rfl⟩
 intro out Z hI;refine aZ hI ?_;clear hI;intro e1 e2;subst e1;subst e2;rw[af,<-hkl2,bt (aI _)];walk_at "w";refine vk O (.inl rfl) (.inl rfl) ?_;rw[decide_eq_true rfl];walk_at "w";refine bD W hcs (.tail _ (.tail _ (.tail _ (.head _)))) (by intro h;injection h) (by decide +kernel) ?_;walk_at "w";refine cw (K:=Int) (l:=tabS.d) (x:=.tup [.int g2,.sdic (PV.dS l2)]) (.inr (bq t rfl (.head _))) hrow2 ?_ (fun zz zz=>rfl);walk_at "w";refine eh (j:=1) (x:=.sdic (PV.dS l2)) (by decide) (by decide) rfl rfl ?_ (fun zz zz=>rfl);walk_at "w";refine iU (K:=aV) W (.inl rfl) ?_;walk_at "w";have hpd2:=PV.d_any (dC l2 (aa "Parent"));refine oN (K:=aV) (.inl rfl) (DA _ _) ?_;clear hrow2;generalize dC l (aa "Parent")=par at hpd hkept ⊢;generalize dC l2 (aa "Parent")=kept at hpd2 hkept ⊢;refine ar (GS hkept) fun bK hbK hfact=>?_;walk_at "w";refine g4 (JF (fun Y' Z'=>Y'=UD ns k (.int (many:Int)) (.int wid) (sq root) (.lst ((eu ks).map DV.int)) (.lst (due.map gy)) par.d v.d kept.d (.bool bK)/\Z'=GM (B.L+1) t r k tabS tr (im cells turn4 left4) [] lt2) ?_ ?_)
 .walk_at "w"
  refine zo O rfl (.inl rfl) (pA due) (p8 (p:=(root,aa "Parent")) (.inl rfl)) (fun y hy=>by refine ar (az.mp hy) fun p hp z27=>?_;subst z27;exact p8 (c6 p hp)) ?_;rw[show PyData.tuple [.int root,.str (aa "Parent")]=gP (root,aa "Parent") from rfl,yv];cases hcn:due.contains (root,aa "Parent") with|true=>rw[hcn] at hbK;walk_at "w";exact jR rfl (by rw[<-hbK];rfl) rfl|false=>rw[hcn] at hbK;walk_at "w";refine gw (fB par) rfl ?_;walk_at "w";exact jR rfl (by rw[<-hbK];rfl) rfl
 intro Y' Z' h;refine aZ h ?_;clear h;intro z28 z29;subst z28;subst z29;refine yM W ?_;walk_at "v";rcases hfact with⟨rfl,a,b,rfl,rfl⟩|⟨rfl,rfl⟩
 .refine gw (fB (.ref a b)) (b:=ai) rfl ?_
  rw[PV.d];walk_at "w";refine lY W (x:=.bool ai) (y:=.bool ai) (b:=ai) (.inl rfl) (.inl rfl) rfl rfl rfl ?_;walk_at "w";refine aw O (kn g a b) (.inr hh) .nil (cN hk rfl) ?_;walk_at "w";refine aw O (kn g a b) (.inr hh) .nil (cN hk rfl) ?_;walk_at "w";refine lY W (x:=.tuple [.int a,.int b]) (y:=.tuple [.int a,.int b]) (b:=ai) (.inl rfl) (.inl rfl) rfl rfl (by simp[a8,fZ]) ?_;walk_at "w";refine cI.permD (cO [_,_,_,_] [_] _) ?_;refine eT O (ni g Bm k cells turn4 left4 hc (by exact ba (ba (ba ht10 ht20) ht30) ht40) (NN ht11 ht21 ht31 ht41) hl4) (.inr hh) (.take (.skip (.skip (.take .nil)))) (cN hk rfl) ?_;intro d Z' h;refine fw h ?_;clear h;intro l1 t' l' z30 z31;subst z30;subst z31;walk_at "w";exact⟨[_,_,_,_],[_,_],_,cO [_] [_,_,_,_] _,rfl,⟨rfl,_,_,rfl⟩,.inl rfl⟩
 .refine gw (fB .null) (b:=ak) rfl ?_
  rw[show PV.d .null=DV.none from by rw[PV.d]];walk_at "w";refine lY W (x:=.bool ak) (y:=.bool ak) (b:=ai) (.inl rfl) (.inl rfl) rfl rfl rfl ?_;walk_at "w";refine cI.permD (cO [_,_,_,_] [_] _) ?_;refine eT O (ni g Bm k cells turn4 left4 hc (by exact ba (ba (ba ht10 ht20) ht30) ht40) (NN ht11 ht21 ht31 ht41) hl4) (.inr hh) (.take (.skip (.skip (.take .nil)))) (cN hk rfl) ?_;intro d Z' h;refine fw h ?_;clear h;intro l1 t' l' z32 z33;subst z32;subst z33;walk_at "w";exact⟨[_,_,_,_],[_,_],_,cO [_] [_,_,_,_] _,rfl,⟨rfl,_,_,rfl⟩,.inl rfl⟩
end
theorem vr(h S a):(qX h S).get? a=if S.contains a then h.get? a else aq:=by
 unfold Heap.get? qX;dsimp only;rw[Array.getElem?_ofFn];by_cases hl:a<h.objs.size
 .rw[dif_pos hl]
  by_cases hs:S.contains a=ai;.rw[if_pos hs,if_pos hs,xF hl];rfl
  .rw[if_neg hs,if_neg hs];rfl
 .rw[dif_neg hl,i7 (b7 hl)]
  by_cases hs:S.contains a=ai;.rw[if_pos hs]
  .rw[if_neg hs]
theorem uk(e:(qX h S).get? a=ac o):a∈S/\h.get? a=ac o:=by
 rw[vr] at e;split at e
 .rename_i hs
  exact⟨dU.mp hs,e⟩
 .injection e
theorem zs(hs:a∈S)(e:h.get? a=ac o):(qX h S).get? a=ac o:=by rw[vr,if_pos (dU.mpr hs)];exact e
theorem vy{K:Oo}(h:K.lookup a=ac o):(a,o)∈K:=by
 induction K with|nil=>injection h|cons p r ih=>
  obtain⟨b,x⟩:=p;rw[dY] at h;by_cases e:a=b
  .subst e
   rw[beq_self_eq_true] at h;(injection h with h;subst h);exact .head _
  .rw[beq_false_of_ne e] at h
   exact .tail _ (ih h)
theorem BD{K:Oo}(h:a∈K.map (·.1)):∃o,K.lookup a=ac o:=by
 induction K with|nil=>cases h|cons p r ih=>
  obtain⟨b,x⟩:=p;rw[dY];by_cases e:a=b
  .subst e
   rw[beq_self_eq_true];exact⟨x,rfl⟩
  .rw[beq_false_of_ne e]
   rw[au] at h;exact ih ((ao.mp h).resolve_left e)
theorem zr(hs:a∈S)(n:h.Ns a m):(qX h S).Ns a m:=by refine fw n ?_;clear n;intro o es ep e r;exact oW o es ep (zs hs e) r
theorem LM{h:jk}(n:h.Ns a m)(e:h.get? a=ac o)(hm:m (aa "Type")=aq):g0 o=ak:=by refine eB n ?_;clear n;intro o' es ep e' hd hk hf;rw[e] at e';(injection e' with e';subst e');unfold g0;rw[hd];dsimp only;cases hes:es.toList with|nil=>rfl|cons x r=>dsimp only;cases hh:x.key.isStrOf (aa "Type") with|false=>rfl|true=>exfalso;have:=hf (aa "Type");rw[hm] at this;unfold nsFind findBy at this;rw[AJ,<-Array.find?_toList,hes,bh] at this;refine aY (kj hh) fun t ht=>?_;rw[ht] at this;simp[pH] at this
theorem Mi:∀{P:Params}{h:jk}{vs:List aE}{ns:List Int},WellAll P h vs (ns.map H0)->∀{prog:gQ}{w:gG}{V:Vw},Mine.gO prog w V (ns.map DV.int) vs:=by
 intro p0_ p1_ p2_ p3_;revert p0_ p1_ p2_;induction p3_ with
 |nil=>intro zz zz zz h zz zz zz;cases h;exact be.mpr rfl
 |cons n r ih=>intro zz zz zz h zz zz zz;rw[au] at h;cases h with|cons a b=>cases a with|int _ t=>exact aG.mpr (bO _ _ rfl (bA.mpr ⟨t,rfl⟩) (ih b))
theorem Ds{R:WRecords}:∀{xs:List WData},ug R xs .int=ai->∃ns:List Int,xs=ns.map H0:=by
 intro p0_;induction p0_ with
 |nil=>intro zz;exact⟨[],rfl⟩
 |cons x r ih=>
  intro h;have h':WShape.has R x .int=ai/\ug R r .int=ai:=by simpa[ug] using h
  refine aY (hasW_int h'.1) fun i z1=>?_;subst z1;refine aY (ih h'.2) fun ns z2=>?_;subst z2;exact⟨i::ns,rfl⟩
theorem Km{args:List WData}(h:tV.claim.pre args=ai):∃ns:List Int,args=[.list (ns.map H0)]/\ns.length<=63:=by refine aZ (pre_splitW h) fun h1 h2=>?_;refine aM (hasAllW_cons (e:=.list .int) (es:=[]) h1) fun d r z3 h3 h4=>?_;subst z3;obtain rfl:=hasAllW_nil h4;refine ar (hasW_list h3) fun xs z4 h5=>?_;subst z4;refine aY (Ds h5) fun ns z5=>?_;subst z5;refine bq ns rfl ?_;refine aZ (holds_andW (a:=.not (.lt (.lit (.int (63:Nat))) (.len (.arg 0)))) (b:=.lit (.bool ai)) h2) fun h6 zz=>?_;have h7:=condW_of h6 (by wtm_val);rw[Ib,decide_eq_false_iff_not,af] at h7;exact Tz h7
theorem NS(g:G.Ok)(h:nsIn G.K ce x=ac (ac v)):G.mg x=ac v:=mg_of g.kin g.g h
theorem Dy(P):((hdP.heap_1 P).all fun p=>!g0 p.2)=ai:=by kernel_rfl
theorem Ma(P):(((hdP.heap_1 P).map (·.1)).contains 607||((hdP.heap_1 P).map (·.1)).contains 614)=ak:=by kernel_rfl
theorem Jd(P):(((hdP.heap_1 P).map (·.1)).contains cStatics&&((hdP.heap_1 P).map (·.1)).contains ce)=ai:=by kernel_rfl
theorem Cb(x:W9 h c P):isCodeTable h P:=by refine ei x ?_;clear x;intro o vs zz zz zz y44;refine d1 y44 ?_;clear y44;intro zz zz zz zz h1 y45;refine jW y45 ?_;clear y45;intro h2 h3 h4 zz;exact ez c o vs h1 h2 h3 h4
theorem Qm(hsh:∀many,many<9->∀w:Int,w=2\/w=3->di many w):Cr G:=by
 intro q loose R XP s_0 s_1 Gr KX hT8 a hmg hg args vals hpre hwl gp gh;rw[<-gp];refine ar (Km hpre) fun ns z6 hlen=>?_;subst z6;cases hwl with|@cons v vs _ _ hw1 hw2=>
 cases hw2;cases hw1 with|@list sa ws _ hsa hws=>
 have T:=Gr.T;let S:List aW:=0::4::(hdP.heap_1 G.w.params).map (·.1);have hk2:=Jd G.w.params;rw[aO,dU,dU] at hk2;have gk:G.Ok:=⟨(by rw[gh];exact fun b o e=>zs (.tail _ (.tail _ (ax (f:=(·.1)) (vy e)))) (KX b o e)),(by rw[gh];exact(let ⟨mc,x,y⟩:=T.nolimit;⟨mc,zr (.tail _ (.tail _ hk2.1)) x,y⟩)),(by rw[gh];exact zr (.tail _ (.tail _ hk2.2)) T.g),(by rw[gh];exact zr (.head _) T.b),T.builtins⟩
 have g:dK G:=⟨gk⟩
 have hm4:G.mg "__builtins__" = ac (.ref 4):=NS gk (by kernel_rfl);have Bm:Nm G:=⟨hm4,by refine wi T.bmain fun bm ob h1 zz h3 h4 h5 h6=>?_;rw[hm4] at h1;(injection h1 with h1;injection h1 with h1;subst h1);exact(qc ob (by rw[gh];exact zs (.tail _ (.head _)) h3) h4 h5 h6)⟩
 obtain rfl:a=617:=by have:G.mg (aa "law")=ac (.ref 617):=NS gk (by kernel_rfl);rw[hmg] at this;cases this;rfl
 let V0:Vw:=fR (qX s_1.heap S).get? sa {cls:=.type "list",data:=.seq ws.toArray};have hV0k:Kp (qX s_1.heap S).get? V0:=fun b o e=>by
  by_cases q:b=sa
  .subst q
   have:=(uk e).2;rw[hsa] at this;(injection this with this;subst this);exact bT _ _ _
  .exact(dB _ _ q).trans e
 have hV0h:Kp V0 s_1.heap.get?:=fun b o e=>by
  by_cases q:b=sa
  .subst q
   have:V0 b=_:=bT _ _ _;rw[this] at e;(injection e with e;subst e);exact hsa
  .have:V0 b=_:=dB _ _ q
   rw[this] at e;exact(uk e).2
 have hV0:∀b o,V0 b=ac o->g0 o=ak:=fun b o e=>by
  by_cases q:b=sa
  .subst q
   have:V0 b=_:=bT _ _ _;rw[this] at e;(injection e with e;subst e);rfl
  .have:V0 b=_:=dB _ _ q
   rw[this] at e;refine aZ (uk e) ?_;clear e;intro hb e;rcases ao.mp hb with rfl|hb
   .refine LM T.b e ?_
    rw[T.builtins _ (by decide +kernel)];kernel_rfl
   .rcases ao.mp hb with rfl|hb
    .refine jD Bm.at4 fun ob h1 zz zz h2=>?_
     rw[gh] at h1;have:=(uk h1).2;rw[e] at this;(injection this with this;subst this);unfold g0;rw[h2]
    .refine aY (BD hb) fun o' ho'=>?_
     have:=KX _ _ ho';rw[e] at this;(injection this with this;subst this);simpa using aU.mp (Dy G.w.params) _ (vy ho')
 have nosa:∀b,b∈[607,614]->b≠sa:=fun b hb q=>by have:=hT8 b hb;rw[q,hsa] at this;(injection this with this;injection this with q3 _ q4 _;injection q3)
 have hno:∀b,b∈[607,614]->V0 b=aq:=fun b hb=>by
  have:V0 b=_:=dB _ _ (nosa b hb);rw[this,vr,if_neg];intro hc;have hc:=dU.mp hc;have h1:=Ma G.w.params;rw[fm] at h1;simp only[ao,cf,or_false] at hb;rcases hb with rfl|rfl
  .rcases ao.mp hc with q|hc
   .exact absurd q (by decide)
   .rcases ao.mp hc with q|hc
    .exact absurd q (by decide)
    .rw[dU.mpr hc] at h1;exact absurd h1.1 (by decide)
  .rcases ao.mp hc with q|hc
   .exact absurd q (by decide)
   .rcases ao.mp hc with q|hc
    .exact absurd q (by decide)
    .rw[dU.mpr hc] at h1;exact absurd h1.2 (by decide)
 have hP:Eb G V0 [((607:aW),MO.pr (jl [])),(614,.pr (jl []))] s_1:=by
  refine⟨(by rw[gh];exact hV0k),hV0h,fun p hp=>?_,by decide,fun p hp=>?_⟩
  .simp only[ao,cf,or_false] at hp
   rcases hp with rfl|rfl;.exact⟨_,hT8 607 (.head _),[],rfl,rfl⟩
   .exact⟨_,hT8 614 (.tail _ (.head _)),[],rfl,rfl⟩
  .simp only[ao,cf,or_false] at hp
   rcases hp with rfl|rfl;.exact hno 607 (.head _)
   .exact hno 614 (.tail _ (.head _))
 have hi:Mine.gO G.prog G.w V0 [.lst (ns.map DV.int)] [.ref sa]:=aG.mpr (bO _ _ rfl (by show Exists _;exact(cJ sa _ ws.toArray 0 rfl (bT _ _ _) rfl ⟨rfl,rfl⟩ rfl (by rw[kA];exact Mi hws))) (be.mpr rfl));refine enter_call (dP (ID g Bm hsh ns (jd hlen rfl) hV0 callerA s_1 [.ref sa] ⟨by decide,by decide⟩ rfl (bq [] rfl (fun zz h=>nomatch h)) hP hi) fun r s' hr=>?_);rcases r with e|(v|_|_|_);.exact hr.elim
 all_goals first|exact hr.elim|skip
 refine bl hr ?_;clear hr;intro d Z' V' P iv y46;refine Ak y46 ?_;clear y46;intro z7 l1 l2 z8;subst z7;subst z8;refine aZ (aT.mp iv) fun z9 zz=>?_;subst z9;refine oX (.inl (cZ _ (.bool ai) [] rfl (fun zz=>rfl) (.bool ai) (by wrow_post) (fun zz=>⟨xB,fun zz h=>nomatch h⟩))) ⟨fun b o e=>?_,fun b o e=>?_⟩ P.rest.2.2 (.of_eq (P.rest.1.trans hg))
 .by_cases hb:b∈[607,614]
  .refine .inr (.inl ?_)
   have ho:=hT8 b hb;rw[e] at ho;(injection ho with ho;subst ho);simp only[ao,cf,or_false] at hb;rcases hb with rfl|rfl
   .refine Aj (P.mu _ (.head _)) fun o h1 l z10 zz=>?_
    subst z10;exact⟨Cb (mj g _ KX),rfl,#[],(triples l).toArray,rfl,by rw[FN];exact h1⟩
   .refine Aj (P.mu _ (.tail _ (.head _))) fun o h1 l z11 zz=>?_
    subst z11;exact⟨Cb (Cc g _ KX),rfl,#[],(triples l).toArray,rfl,by rw[FN];exact h1⟩
  .refine ar (P.pr b o hb e) fun o' h1 h2=>?_
   refine .inl ?_;rw[h1,h2.1 (fun h=>nomatch h)]
 .by_cases hb:b∈[607,614]
  .simp only[ao,cf,or_false] at hb
   rcases hb with rfl|rfl;.exact(P.mu _ (.head _)).at
   .exact(P.mu _ (.tail _ (.head _))).at
  .refine ar (P.pr b o hb e) fun o' h1 zz=>?_
   exact⟨o',h1⟩
theorem YT{R:WRecords}(hsh:∀many,many<9->∀w:Int,w=2\/w=3->di many w)(w s_0 s_1 mg mb)(Gr:Ground q loose R XP w s_0 mg mb s_1.heap)(KX:(hdP.heap_1 w.params).In s_1.heap)(hT8:∀P∈[607,614],s_1.heap.get? P=ac (tabObj #[]))(a)(hmg:mg (aa "law")=ac (.ref a))(hg:s_1.gens=#[])(args vals)(hpre:tV.claim.pre args=ai)(hwl:WellAll w.params s_1.heap vals args):bd (bf tV.prog w) callerA (RJ (.ref a) vals) (fun v s'=>W8 tV.claim (Rj s_0.heap) (pS s_0.heap) args s_1 (.ok (.ret v)) s') (fun e s'=>W8 tV.claim (Rj s_0.heap) (pS s_0.heap) args s_1 (.error e) s') s_1:=GU (Qm hsh) ⟨tV.prog,w,qX s_1.heap (0::4::(hdP.heap_1 w.params).map (·.1)),mg,mb⟩ _ _ _ _ s_0 s_1 Gr KX hT8 a hmg hg args vals hpre hwl rfl rfl
noncomputable def gj(n p:Int):Int×Int×PV:=(n,0,.dict [(aa "MediaBox",.arr [.int 0,.int 0,.int 9,.int (n-1)]),(aa "Type",.name (aa "Page")),(aa "Parent",.ref p 0)])
noncomputable def nt(n:Int)(ks:List Int)(p c:Int):Int×Int×PV:=(n,0,.dict (gY ks++[(aa "Parent",.ref p 0),(aa "Count",.int c)]))
noncomputable def AL(n:Int)(ks:List Int)(c:Int):Int×Int×PV:=(n,0,.dict (gY ks++[(aa "Count",.int c)]))
noncomputable def AN(n root:Int):Int×Int×PV:=(n,0,.dict [(aa "Type",.name (aa "Catalog")),(aa "Pages",.ref root 0)])
noncomputable def jA(n:Int):List (aV×PV):=[(aa "Root",.ref n 0)]
noncomputable def WH:dE:=[AL 1 [] 0,AN 2 1]
theorem SX:eJ (jM 0) 2=ac (WH,jA 2,1):=by kernel_rfl
theorem SV:fz WH (jA 2) 1 0 1=ai:=by k_qdec
theorem SW:(dQ WH).all (fi WH (jA 2) 1 0)=ai:=by k_qdec
theorem OY:di 0 2:=⟨_,_,_,_,SX,SV,SW⟩
noncomputable def WG:dE:=[AL 1 [] 0,AN 2 1]
theorem SU:eJ (jM 0) 3=ac (WG,jA 2,1):=by kernel_rfl
theorem SR:fz WG (jA 2) 1 0 1=ai:=by k_qdec
theorem SS:(dQ WG).all (fi WG (jA 2) 1 0)=ai:=by k_qdec
theorem OX:di 0 3:=⟨_,_,_,_,SU,SR,SS⟩
noncomputable def WF:dE:=[gj 1 2,AL 2 [1] 1,AN 3 2]
theorem SQ:eJ (jM 1) 2=ac (WF,jA 3,2):=by kernel_rfl
theorem SO:fz WF (jA 3) 2 1 2=ai:=by k_qdec
theorem SP:(dQ WF).all (fi WF (jA 3) 2 1)=ai:=by k_qdec
theorem OW:di 1 2:=⟨_,_,_,_,SQ,SO,SP⟩
noncomputable def WE:dE:=[gj 1 2,AL 2 [1] 1,AN 3 2]
theorem SN:eJ (jM 1) 3=ac (WE,jA 3,2):=by kernel_rfl
theorem SL:fz WE (jA 3) 2 1 2=ai:=by k_qdec
theorem SM:(dQ WE).all (fi WE (jA 3) 2 1)=ai:=by k_qdec
theorem OV:di 1 3:=⟨_,_,_,_,SN,SL,SM⟩
noncomputable def WD:dE:=[gj 1 3,gj 2 3,AL 3 [1,2] 2,AN 4 3]
theorem SK:eJ (jM 2) 2=ac (WD,jA 4,3):=by kernel_rfl
theorem SI:fz WD (jA 4) 3 2 3=ai:=by k_qdec
theorem SJ:(dQ WD).all (fi WD (jA 4) 3 2)=ai:=by k_qdec
theorem OU:di 2 2:=⟨_,_,_,_,SK,SI,SJ⟩
noncomputable def WC:dE:=[gj 1 3,gj 2 3,AL 3 [1,2] 2,AN 4 3]
theorem SH:eJ (jM 2) 3=ac (WC,jA 4,3):=by kernel_rfl
theorem SE:fz WC (jA 4) 3 2 3=ai:=by k_qdec
theorem SG:(dQ WC).all (fi WC (jA 4) 3 2)=ai:=by k_qdec
theorem OT:di 2 3:=⟨_,_,_,_,SH,SE,SG⟩
noncomputable def WB:dE:=[gj 1 4,gj 2 5,gj 3 5,nt 4 [1] 6 1,nt 5 [2,3] 6 2,AL 6 [4,5] 3,AN 7 6]
theorem SD:eJ (jM 3) 2=ac (WB,jA 7,6):=by kernel_rfl
theorem SB:fz WB (jA 7) 6 3 4=ai:=by k_qdec
theorem SC:(dQ WB).all (fi WB (jA 7) 6 3)=ai:=by k_qdec
theorem OS:di 3 2:=⟨_,_,_,_,SD,SB,SC⟩
noncomputable def WA:dE:=[gj 1 4,gj 2 4,gj 3 4,AL 4 [1,2,3] 3,AN 5 4]
theorem SA:eJ (jM 3) 3=ac (WA,jA 5,4):=by kernel_rfl
theorem Sy:fz WA (jA 5) 4 3 4=ai:=by k_qdec
theorem Sz:(dQ WA).all (fi WA (jA 5) 4 3)=ai:=by k_qdec
theorem OR:di 3 3:=⟨_,_,_,_,SA,Sy,Sz⟩
noncomputable def Wz:dE:=[gj 1 5,gj 2 5,gj 3 6,gj 4 6,nt 5 [1,2] 7 2,nt 6 [3,4] 7 2,AL 7 [5,6] 4,AN 8 7]
theorem Sx:eJ (jM 4) 2=ac (Wz,jA 8,7):=by kernel_rfl
theorem Sv:fz Wz (jA 8) 7 4 5=ai:=by k_qdec
theorem Sw:(dQ Wz).all (fi Wz (jA 8) 7 4)=ai:=by k_qdec
theorem OQ:di 4 2:=⟨_,_,_,_,Sx,Sv,Sw⟩
noncomputable def Wy:dE:=[gj 1 5,gj 2 5,gj 3 6,gj 4 6,nt 5 [1,2] 7 2,nt 6 [3,4] 7 2,AL 7 [5,6] 4,AN 8 7]
theorem Su:eJ (jM 4) 3=ac (Wy,jA 8,7):=by kernel_rfl
theorem Sr:fz Wy (jA 8) 7 4 5=ai:=by k_qdec
theorem Ss:(dQ Wy).all (fi Wy (jA 8) 7 4)=ai:=by k_qdec
theorem OP:di 4 3:=⟨_,_,_,_,Su,Sr,Ss⟩
noncomputable def Ww:dE:=[gj 1 6,gj 2 7,gj 3 7,gj 4 8,gj 5 8,nt 6 [1] 9 1,nt 7 [2,3] 10 2,nt 8 [4,5] 10 2,nt 9 [6] 11 1,nt 10 [7,8] 11 4,AL 11 [9,10] 5,AN 12 11]
theorem Sq:eJ (jM 5) 2=ac (Ww,jA 12,11):=by kernel_rfl
theorem So:fz Ww (jA 12) 11 5 6=ai:=by k_qdec
theorem Sp:(dQ Ww).all (fi Ww (jA 12) 11 5)=ai:=by k_qdec
theorem OO:di 5 2:=⟨_,_,_,_,Sq,So,Sp⟩
noncomputable def Wv:dE:=[gj 1 6,gj 2 6,gj 3 7,gj 4 7,gj 5 7,nt 6 [1,2] 8 2,nt 7 [3,4,5] 8 3,AL 8 [6,7] 5,AN 9 8]
theorem Sn:eJ (jM 5) 3=ac (Wv,jA 9,8):=by kernel_rfl
theorem Sl:fz Wv (jA 9) 8 5 6=ai:=by k_qdec
theorem Sm:(dQ Wv).all (fi Wv (jA 9) 8 5)=ai:=by k_qdec
theorem ON:di 5 3:=⟨_,_,_,_,Sn,Sl,Sm⟩
noncomputable def Wu:dE:=[gj 1 7,gj 2 7,gj 3 8,gj 4 8,gj 5 9,gj 6 9,nt 7 [1,2] 10 2,nt 8 [3,4] 11 2,nt 9 [5,6] 11 2,nt 10 [7] 12 2,nt 11 [8,9] 12 4,AL 12 [10,11] 6,AN 13 12]
theorem Sk:eJ (jM 6) 2=ac (Wu,jA 13,12):=by kernel_rfl
theorem Si:fz Wu (jA 13) 12 6 7=ai:=by k_qdec
theorem Sj:(dQ Wu).all (fi Wu (jA 13) 12 6)=ai:=by k_qdec
theorem OM:di 6 2:=⟨_,_,_,_,Sk,Si,Sj⟩
noncomputable def Wt:dE:=[gj 1 7,gj 2 7,gj 3 7,gj 4 8,gj 5 8,gj 6 8,nt 7 [1,2,3] 9 3,nt 8 [4,5,6] 9 3,AL 9 [7,8] 6,AN 10 9]
theorem Sh:eJ (jM 6) 3=ac (Wt,jA 10,9):=by kernel_rfl
theorem Sf:fz Wt (jA 10) 9 6 7=ai:=by k_qdec
theorem Sg:(dQ Wt).all (fi Wt (jA 10) 9 6)=ai:=by k_qdec
theorem OK:di 6 3:=⟨_,_,_,_,Sh,Sf,Sg⟩
noncomputable def Ws:dE:=[gj 1 8,gj 2 9,gj 3 9,gj 4 10,gj 5 10,gj 6 11,gj 7 11,nt 8 [1] 12 1,nt 9 [2,3] 12 2,nt 10 [4,5] 13 2,nt 11 [6,7] 13 2,nt 12 [8,9] 14 3,nt 13 [10,11] 14 4,AL 14 [12,13] 7,AN 15 14]
theorem Se:eJ (jM 7) 2=ac (Ws,jA 15,14):=by kernel_rfl
theorem Sc:fz Ws (jA 15) 14 7 8=ai:=by k_qdec
theorem Sd:(dQ Ws).all (fi Ws (jA 15) 14 7)=ai:=by k_qdec
theorem OJ:di 7 2:=⟨_,_,_,_,Se,Sc,Sd⟩
noncomputable def Wq:dE:=[gj 1 8,gj 2 8,gj 3 9,gj 4 9,gj 5 10,gj 6 10,gj 7 10,nt 8 [1,2] 11 2,nt 9 [3,4] 11 2,nt 10 [5,6,7] 11 3,AL 11 [8,9,10] 7,AN 12 11]
theorem Sb:eJ (jM 7) 3=ac (Wq,jA 12,11):=by kernel_rfl
theorem R9:fz Wq (jA 12) 11 7 8=ai:=by k_qdec
theorem Sa:(dQ Wq).all (fi Wq (jA 12) 11 7)=ai:=by k_qdec
theorem OI:di 7 3:=⟨_,_,_,_,Sb,R9,Sa⟩
noncomputable def Wp:dE:=[gj 1 9,gj 2 9,gj 3 10,gj 4 10,gj 5 11,gj 6 11,gj 7 12,gj 8 12,nt 9 [1,2] 13 2,nt 10 [3,4] 13 2,nt 11 [5,6] 14 2,nt 12 [7,8] 14 2,nt 13 [9,10] 15 4,nt 14 [11,12] 15 4,AL 15 [13,14] 8,AN 16 15]
theorem R8:eJ (jM 8) 2=ac (Wp,jA 16,15):=by kernel_rfl
theorem R6:fz Wp (jA 16) 15 8 9=ai:=by k_qdec
theorem R7:(dQ Wp).all (fi Wp (jA 16) 15 8)=ai:=by k_qdec
theorem OH:di 8 2:=⟨_,_,_,_,R8,R6,R7⟩
noncomputable def Wo:dE:=[gj 1 9,gj 2 9,gj 3 10,gj 4 10,gj 5 10,gj 6 11,gj 7 11,gj 8 11,nt 9 [1,2] 12 2,nt 10 [3,4,5] 12 3,nt 11 [6,7,8] 12 3,AL 12 [9,10,11] 8,AN 13 12]
theorem R5:eJ (jM 8) 3=ac (Wo,jA 13,12):=by kernel_rfl
theorem R3:fz Wo (jA 13) 12 8 9=ai:=by k_qdec
theorem R4:(dQ Wo).all (fi Wo (jA 13) 12 8)=ai:=by k_qdec
theorem OG:di 8 3:=⟨_,_,_,_,R5,R3,R4⟩
theorem AM{P:Nat->Prop}{n:Nat}(a:P 0)(b:∀m,m<n->P (m+1))(m:Nat):m<n+1->P m:=Nat.casesOn (motive:=fun m=>m<n+1->P m) m (fun _=>a) fun m h=>b m (f6 h)
theorem O5(many:Nat)(h:many<9)(w:Int)(hw:w=2\/w=3):di many w:=hw.elim (fun e=>e▸AM (P:=fun m=>di m 2) OY (AM OW (AM OU (AM OS (AM OQ (AM OO (AM OM (AM OJ (AM OH fun m h=>absurd h (iJ m))))))))) many h) fun e=>e▸AM (P:=fun m=>di m 3) OX (AM OV (AM OT (AM OR (AM OP (AM ON (AM OK (AM OI (AM OG fun m h=>absurd h (iJ m))))))))) many h
theorem law_holds:ck.Holds:=hdP.2 (by intro w s_0 s_1 mg mb Gr Yy a o pm cd doc dV kV ho hd' hcd hD hmg hg args vals as hpre hlay hrd hwl hlo;exact YT O5 w s_0 s_1 mg mb Gr (km_in_of Yy) (km_tabs_of Yy) a hmg hg args vals hpre hwl)
end Mine
theorem PySem.Challenge.cw_sa0516_01_holds : PySem.Challenge.rw_sa0516_01.Holds :=
 Mine.law_holds
