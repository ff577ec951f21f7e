import PyProof.Rows.All
import Wide.All
import OpenK.AllK
import Wide.FinOn
import PyProof.ExcBaseAll.Exception
import Lean
import PySem.Challenge.RW_qd0003_02
set_option maxRecDepth 100000
set_option linter.all false
set_option genSizeOf false
set_option genSizeOfSpec false
set_option genInjectivity false
set_option Elab.async false
set_option bootstrap.genMatcherCode false
set_option tactic.hygienic false

open Array renaming length_toList->bF,getElem?_eq_some_iff->bQ,getElem?_toList->dW,getElem?_setIfInBounds_self_of_lt->d8,getElem?_eq_getElem->eG,getElem?_setIfInBounds_ne->fB,toList_push->gY,eraseIdxIfInBounds->ia,size_eq_one_iff->iZ,mem_toList_iff->i9
open Bool renaming and_eq_true_iff->bj,and_eq_true->bO,eq_false_iff->b9,false_ne_true->cy,and_false->cC,or_eq_true_iff->eK,false_eq_true->gA,or_true->iD,or_eq_true->iS,or_false->jB,eq_iff_iff->kX,and_true->lQ,false_or->lR,not_true->lU
open Eq renaming trans->lw
open ForInStep renaming yield->cH
open Int renaming le_trans->bP,toNat_of_nonneg->bV,toNat_natCast->dZ,add_le_add_right->fQ,ofNat_le->gm,ofNat_lt->gq,not_le->gI,neg_nonneg_of_nonpos->ib,le_of_lt->iF,neg_le_of_neg_le->ja,lt_of_le_of_lt->jJ,ne_of_gt->jX,toNat_lt->jY,emod_nonneg->la,natCast_add->lc,not_lt->ly,toNat_le->mi
open List renaming mem_cons_self->ah,mem_singleton->am,mem_cons_of_mem->ao,getElem?_eq_some_iff->aq,getElem?_eq_getElem->au,getElem?_append_left->ay,mem_cons->aA,getElem?_append_right->aE,mem_of_getElem?->aF,mem_append->aG,all_eq_true->aJ,length_append->aL,range->aM,append_assoc->aP,length_map->aU,size_toArray->aY,append_nil->ba,getElem?_set_self->bh,getElem?_set_ne->bl,getElem?_map->br,getElem?_eq_none->bx,nodup_range->bC,length_set->bG,mem_map->bK,nodup_cons->bM,mem_append_left->bR,any_eq_true->bU,replicate->ch,mem_append_right->cw,contains_cons->cz,lookup_cons->cA,getElem?_of_mem->cE,mem_filterMap->cQ,contains_iff_mem->cV,filterMap_cons->da,map_congr_left->db,range'->dn,pairwise_cons->du,dropLast_eq_take->dX,getElem?_toArray->dY,getElem?_concat_length->d3,length_range->d4,nodup_append->d6,getElem?_eq_none_iff->eI,getLast?_eq_getElem?->eJ,getElem_of_mem->eO,mem_map_of_mem->eP,length_eq_zero_iff->fh,ext_getElem?->fm,getElem?_inj->fo,eraseIdx_eq_take_drop_succ->fC,eq_nil_of_length_eq_zero->fR,find?_cons->fY,getElem?_range->gc,zip_cons_cons->gL,findIdx?_eq_none_iff->gW,mem_of_find?_eq_some->gX,any_eq_false->g8,map_cons->ie,getElem?_replicate->ir,not_mem_nil->iu,pairwise_singleton->iw,eraseIdx_toArray->i5,getElem?_mapIdx->jc,getElem?_range'->jd,length->je,length_eraseIdx->jf,nodup_nil->jg,append_toArray->jx,findIdx?_cons->jK,length_range'->jL,push_toArray->jZ,reverse_cons->j0,getElem_inj->kq,getElem_mem->kr,find?_some->lf,forIn_cons->lg,map_append->lh,mem_range->lz,all_cons->lW,any_cons->lX,map_map->mn
open List.Pairwise renaming nil->mM
open List.Perm renaming refl->gK,eq_of_pairwise->ic
open List.cons renaming inj->dP
open Nat renaming le_trans->az,le_add_right->aN,le_refl->aQ,lt_succ_self->aR,ne_of_lt->aS,zero_le->bc,add_le_add_left->bd,lt_or_ge->bE,add_le_add_right->bS,add_right_comm->bT,lt_succ_of_lt->ci,add_assoc->cL,lt_of_lt_of_le->cR,lt_of_sub_eq_succ->cW,le_antisymm->cY,succ_le_succ->dg,le_of_eq->dv,le_of_succ_le_succ->dw,lt_of_le_of_lt->dy,ne_of_gt->dz,sub_self->dB,not_succ_le_zero->eh,add_left_cancel->eQ,add_sub_cancel_left->fi,lt_irrefl->fP,mul_le_mul_left->gf,le_of_lt->gr,zero_add->gu,lt_one_iff->gM,not_lt->gN,sub_eq_zero_iff_le->iG,add_le_add->jh,succ->ji,add_lt_add_left->jy,le_of_lt_succ->j1,le_of_succ_le->j2,lt_succ_of_le->j3,lt_trans->j4,le_of_not_lt->kt,succ_ne_self->ku,zero_lt_succ->kz,le_succ->kP,min_le_left->li,add_comm->mo
open Nat.succ renaming inj->c0
open Ne renaming symm->eZ
open Option renaming isSome_iff_exists->aV,bind_some->b5,map->cj,getD_some->ix,bind->mF
open Option.some renaming inj->ae
open Prod.mk renaming inj->mG
open PyProof.Rows renaming subscriptTail->dQ,StrsAre->fq,tail_any->jn,assign_Tuple_tuple->jO
open PyProof.Rows.F renaming plain_set_update_loop->bW,entry_set_update_loop->eR
open PySem renaming Expr->aa,wpAny_bind->ac,Value->af,Shared->ag,Addr->ai,wpAny_pure->al,wpAny->an,Heap->aB,strKind->aC,Around->aH,Str->aI,wpAny_holding->aK,model->aO,wpAny_newObj_type->aZ,wpAny_field->a8,wpAny_call_entry->a9,Stmt->bo,sizeLine->bp,wpAny_callSpecial?_slot->bt,wpAny_standAt->bv,Program->bA,wpAny_mono->bB,rawInt->bH,NameKind->bN,wpAny_loadPart_at->bY,mainGlobals->b6,Builtin->b7,Pos->b8,callEnvC->cq,sizeLine_eq->cu,wpAny_Call_NameR->cB,wpAny_seqItems->cF,wpAny_isSubtype_exc->cI,World->cM,wpAny_attempt->cN,wpAny_askSetting->cO,IsPair->cP,Result->cT,assignEach->cU,wpAny_setState_of->c6,wpAny_truthy_bool->c7,assignInOrder->c9,codeAny->dc,wpAny_setEntries_of->de,compEnvC->di,recursionLimit->dk,wpAny_setField->dm,wpAny_of_eq->dq,builtinsNs->dG,strKind_is->dH,sysModules->dJ,wpAny_setField_rec->dK,codeAny_builtin->dM,wpAny_execs_nil->dN,swappedStores->dR,swapsWith->dU,wpAny_pyIter_list->d7,Env->d9,pyNext->eB,wpAny_Name->eC,getMethod->eF,wpAt_of_wpAny->eS,Obj->eT,Comprehension->eU,FuncData->eV,wpAny_Constant_str->eW,SetTable->eX,wpAny_call->fc,wpAny_pyIter_tuple->fe,DictEntry->fg,subscripted->fj,ExcBaseFacts->fk,binaryOp->ft,callWith->fv,spliced->fw,wpAny_pyIter_slot->fA,Scope->fD,builtinLookup_eq_fast->fE,Flow->fF,compareOp->fJ,pyIter->fK,stored->fM,wpAny_isInstance->fN,wpAny_rule->fO,codeAny_call_builtin->fS,excClassObj->fT,Model->ge,bootBuiltins->gv,notedBy->gw,valueAt->gx,noteFrame->gy,storeName->gz,IsZip->gJ,cameBackBy->gQ,firstArgMember->gR,isInstance->gS,isSubtype_type->gT,methodCallForm->gU,wpAny_fieldsOf->gV,assign_Name->hJ,wpAny_nsGet->hW,comprehension->ii,methodCallPos->ij,plainId_quiet->ik,wpAny_onRaise->im,noFill_tuple_add->iz,relayAll->iA,starEach->iB,wpAny_comp_letGo->iC,cellOf->iH,assign->iI,call_meets->iJ,codeAny_compStart_list->iK,concat_meets->iL,holding->iM,newList->iN,setNext->iO,setsByText->iP,wpAny_pyNext_list_item->iQ,wpAny_typeOf->iR,wpAt_bind->iU,codeAny_of_tree->iV,letOwnedTupleGo->iW,typeLookup_type->iY,wpAny_pyIter_listiter->i7,wpAny_pyNext_list_end->i8,checkBoundCall->jk,importBound->jl,isSubtype_stop->jm,wpAny_loadName_local->jo,wpAny_loadPart->jp,wpAny_updateSeq_pair->jq,operate->jr,scanBound->jt,seqIndex?->ju,wpAny_isTrue_BoolOp->jz,wpAny_loadName_free->jA,frameOf->jD,attributeBase->jE,seq_tuple_add->jF,Sem->jM,wpAny_Constant_int->jQ,wpAny_load->jR,GenState->jV,cLine->j5,call_meetsIn->j6,codeAny_mono->j7,fits_of_scanBound->j8,foldedSetIterable->j9,wpAny_collect_seq->kb,wpAny_pyIter_enum->kg,wpAny_storeSet_of->kh,ClassData->ki,seqSlot_of->kA,cellsFrom->kB,checkBuiltinCall->kC,entryFor_of_tree->kE,newFields->kF,opaqueClassAbove->kG,pastItsLine_dict->kI,wpAny_execs_cons->kJ,wpAny_lookBehind->kK,wpAny_madeBy_exc->kM,wpAny_pyIter_zip->kN,field->kR,keywordEach->kS,wpAny_throw->kW,Data->kZ,Keyword->ll,OsState->lm,callEnv->ln,hashStr->lp,standAt->lq,Const->lu,wpAt->lB,ZipApart->lE,argsOk->lF,closureFor->lG,entryFor->lI,loadGlobal->lJ,loadName->lK,newTuple->lL,refuseLoop->lM,Tok->lP,Reads->l7,pushCells->ma,setFlight->mc,ElemsOf->mf,IsEnum->mj,passOn->mr,backTo->mu,callAny->mw,collect->mx,relabel->mB,Drawn->mD
open PySem.Around renaming under_plainId->ec
open PySem.Builtin.Frozenset renaming updateFrom->kY,newClass->lr,sizeOf->lV,slot0->l6
open PySem.Builtin.List renaming listExtendWith->gh,listLengthHint->gj
open PySem.Builtin.Range renaming rangeSize->cG,small->eM,rangeFitsLong->lk
open PySem.Builtin.Slice renaming sliceAdjust->eH,sliceApplied->gB,sliceFields->lN,slicePlaces->lO
open PySem.Builtin.SmallTypes renaming nextOf->bI,ownedTupleIsFree->bZ,ownedTupleHandOut->eN
open PySem.Builtin.Tuple renaming tupleExact->c8,tupleItemsOf->ls
open PySem.Calls renaming spliced_cons->gC,spliced_nil->jS
open PySem.Challenge renaming rw_qd0003_02->bD
open PySem.Code renaming builtin->ce,quiet_builtin->fb
open PySem.Comprehension renaming mk->mN
open PySem.DictEntry renaming refKey->kj
open PySem.EntryCells renaming newEntry->fZ
open PySem.Env renaming kindOf->gD
open PySem.ExceptHandler renaming casesOn->mC
open PySem.Expr renaming casesOn->av
open PySem.F renaming called_set->b4,slot_tuple_iterator_next->cg,slot_tuple_getitem->cZ,args_tuple_iterator_next_1->fU,slot_dict_get->fV,slot_list_pop->fW,slot_zip_next->fX,entry_tuple_iterator_next->gk,args_tuple_add_2->gE,ks_slot_super_ga->gF,slot_range_iterator_iter->gG,slot_tuple_iterator_iter->gH,entry_tuple_add->gZ,plainAttrs_dict->g6,plainAttrs_list->g7,slot_tuple_add->ip,slot_tuple_mul->iq,plain_list_iadd->iy,args_tuple_getitem_2->iE,entry_tuple_getitem->i3,slot_enumerate_next->i4,slot_set_iter->i6,slot_list_getitem->jv,slot_dict_update->jG,slot_list_append->jH,args_zip_next_1->jT,slot_tuple_rmul->jU,entry_dict_get->kl,entry_list_pop->km,entry_zip_next->kn,slot_int_rmul->k6,type_dict_get->k7,type_list_pop->k8
open PySem.Heap renaming get?_push_of_some->aj,get?_push_size->ax,get?_update_self->aW,lt_size->aX,SameBut->bf,get?_update_other->bg,size_push->bk,get?_none_of_le->ef,get?_update_ne->jw,get?_push_at->jW,MadeExcOf->lx,IsTuple->mh
open PySem.Heap.DictOf renaming new->k9
open PySem.Heap.IsSliceOf renaming new->jI
open PySem.Heap.SameBut renaming update->ct
open PySem.IsRange renaming new->mE
open PySem.NameKind renaming free->cJ,cell->jC
open PySem.Obj renaming data_mapFields->bL,isFreed_of_fields->cx,mapSeq->cS,putNameByArray->dC,putName->em,cls_mapFields->g9,putName_eq->jj,putSet->lA,mapFields->lY
open PySem.PyData renaming keyHash->dh,strOk->dD,eqv->fG,depthAll->iT,eqvAll->lZ
open PySem.ScopeKind renaming function->gP
open PySem.SetTable renaming grown->ew
open PySem.Shared renaming TypeIs->eY,heap->kQ
open PySem.Spec renaming ltCps->fH
open PySem.Stmt renaming casesOn->aT
open PySem.Str renaming ofString->bw,length_append->hU
open PySem.Txt renaming charAt->lC,item->mH
open PySem.Value renaming ref->bJ,none->bX,isStrOf->ig,type->lD,bool->mJ
open PySem.Value.type renaming inj->ez
open PySem.W renaming Frag->cX,findIn->dj,ks_superIn->eA,emptyDict->eE,takerIn->fy,looks_clsIn->hV,mroIn->iX,typeIn->jP,Looks->kO,looks_mroIn->kU,ownOf->l4,methodObj->l9,lookIn->my,clsIn->mI
open PySem.W.WData renaming bool->mK
open PySem.W.WShape renaming hasItems->lj,hasAll->l5
open PySem.W.WTm renaming holds->l8
open PySem.Walks renaming list->jN
open PySem.pickOrder renaming go->mz
namespace Mine.Internal
open PySem PySem.W PyProof.Rows PySem.Calls
variable {h h' TY T1:aB}{pos apos:b8}{α β a0 a1 a2 a3 γ ε a4:Type}{y fl:af}{Q E UR:af->ag->Prop}{b L I TI l1 C i1 i2 l2 sl:ai}{φ F X ws TV own Y:List ai}{xs ys vals rest:List af}{target Ui Ue value slice Uv:aa}{D j d m c k1 sp:Nat}{mg mb:aI->Option af}{ks ss ps:List Nat}{K:cX}{scope:fD}{vars lv:List (aI×Nat)}{S attrs params:List aI}{vs items:Array af}{p0 p1:Prop}{w:cM}{A:aH}{R':cT->ag->Prop}{tw loc sh pr:Bool}{prog:bA}{attr:aI}{s' s₀ TW:ag}{kvs:List (aI×af)}{UQ ifs:List aa}{env':d9}{pl:jM Bool}{body:List Stmt}{names:List (aI×bN)}{tk:lP}
theorem nE{P:Prop}(h:p0/\p1)(k:p0->p1->P):P:=k h.1 h.2
theorem m4{p0:a0->Prop}{P:Prop}(h:∃x0,p0 x0)(k:∀x0,p0 x0->P):P:=h.elim λx0 h0=>k x0 h0
theorem sH{p2 P:Prop}(h:p0/\p1/\p2)(k:p0->p1->p2->P):P:=k h.1 h.2.1 h.2.2
theorem IY{p1:a1->Prop}{P:Prop}(h:p0/\∃x1,p1 x1)(k:p0->∀x1,p1 x1->P):P:=h.2.elim λx1 h1=>k h.1 x1 h1
theorem mO{p0 p1:a0->Prop}{P:Prop}(h:∃x0,p0 x0/\p1 x0)(k:∀x0,p0 x0->p1 x0->P):P:=h.elim λx0 h0=>k x0 h0.1 h0.2
theorem xK{p0:a0->a1->Prop}{P:Prop}(h:∃x0,∃x1,p0 x0 x1)(k:∀x0,∀x1,p0 x0 x1->P):P:=h.elim λx0 h0=>h0.elim λx1 h1=>k x0 x1 h1
theorem DM{p2 p3 P:Prop}(h:p0/\p1/\p2/\p3)(k:p0->p1->p2->p3->P):P:=k h.1 h.2.1 h.2.2.1 h.2.2.2
theorem OH{p2:a2->Prop}{P:Prop}(h:p0/\p1/\∃x2,p2 x2)(k:p0->p1->∀x2,p2 x2->P):P:=h.2.2.elim λx2 h2=>k h.1 h.2.1 x2 h2
theorem nP{p0 p1 p2:a0->Prop}{P:Prop}(h:∃x0,p0 x0/\p1 x0/\p2 x0)(k:∀x0,p0 x0->p1 x0->p2 x0->P):P:=h.elim λx0 h0=>k x0 h0.1 h0.2.1 h0.2.2
theorem OI{p0:a0->Prop}{p1:a0->a2->Prop}{P:Prop}(h:∃x0,p0 x0/\∃x2,p1 x0 x2)(k:∀x0,p0 x0->∀x2,p1 x0 x2->P):P:=h.elim λx0 h0=>h0.2.elim λx2 h2=>k x0 h0.1 x2 h2
theorem nr{p0 p1:a0->a1->Prop}{P:Prop}(h:∃x0,∃x1,p0 x0 x1/\p1 x0 x1)(k:∀x0,∀x1,p0 x0 x1->p1 x0 x1->P):P:=h.elim λx0 h0=>h0.elim λx1 h1=>k x0 x1 h1.1 h1.2
theorem xL{p0:a0->a1->a2->Prop}{P:Prop}(h:∃x0,∃x1,∃x2,p0 x0 x1 x2)(k:∀x0,∀x1,∀x2,p0 x0 x1 x2->P):P:=h.elim λx0 h0=>h0.elim λx1 h1=>h1.elim λx2 h2=>k x0 x1 x2 h2
theorem Lq{p2 p3:a2->Prop}{P:Prop}(h:p0/\p1/\∃x2,p2 x2/\p3 x2)(k:p0->p1->∀x2,p2 x2->p3 x2->P):P:=h.2.2.elim λx2 h2=>k h.1 h.2.1 x2 h2.1 h2.2
theorem n9{p0 p1 p2 p3:a0->Prop}{P:Prop}(h:∃x0,p0 x0/\p1 x0/\p2 x0/\p3 x0)(k:∀x0,p0 x0->p1 x0->p2 x0->p3 x0->P):P:=h.elim λx0 h0=>k x0 h0.1 h0.2.1 h0.2.2.1 h0.2.2.2
theorem Fs{p0 p1:a0->Prop}{p2:a0->a3->Prop}{P:Prop}(h:∃x0,p0 x0/\p1 x0/\∃x3,p2 x0 x3)(k:∀x0,p0 x0->p1 x0->∀x3,p2 x0 x3->P):P:=h.elim λx0 h0=>h0.2.2.elim λx3 h3=>k x0 h0.1 h0.2.1 x3 h3
theorem Ah{p0:a0->Prop}{p1 p2:a0->a2->Prop}{P:Prop}(h:∃x0,p0 x0/\∃x2,p1 x0 x2/\p2 x0 x2)(k:∀x0,p0 x0->∀x2,p1 x0 x2->p2 x0 x2->P):P:=h.elim λx0 h0=>h0.2.elim λx2 h2=>k x0 h0.1 x2 h2.1 h2.2
theorem mU{p0 p1 p2:a0->a1->Prop}{P:Prop}(h:∃x0,∃x1,p0 x0 x1/\p1 x0 x1/\p2 x0 x1)(k:∀x0,∀x1,p0 x0 x1->p1 x0 x1->p2 x0 x1->P):P:=h.elim λx0 h0=>h0.elim λx1 h1=>k x0 x1 h1.1 h1.2.1 h1.2.2
theorem oI{p0 p1:a0->a1->a2->Prop}{P:Prop}(h:∃x0,∃x1,∃x2,p0 x0 x1 x2/\p1 x0 x1 x2)(k:∀x0,∀x1,∀x2,p0 x0 x1 x2->p1 x0 x1 x2->P):P:=h.elim λx0 h0=>h0.elim λx1 h1=>h1.elim λx2 h2=>k x0 x1 x2 h2.1 h2.2
theorem Lr{p0:a0->a1->a2->a3->Prop}{P:Prop}(h:∃x0,∃x1,∃x2,∃x3,p0 x0 x1 x2 x3)(k:∀x0,∀x1,∀x2,∀x3,p0 x0 x1 x2 x3->P):P:=h.elim λx0 h0=>h0.elim λx1 h1=>h1.elim λx2 h2=>h2.elim λx3 h3=>k x0 x1 x2 x3 h3
theorem oC{p2:Prop}{p3 p4:a3->Prop}{P:Prop}(h:p0/\p1/\p2/\∃x3,p3 x3/\p4 x3)(k:p0->p1->p2->∀x3,p3 x3->p4 x3->P):P:=h.2.2.2.elim λx3 h3=>k h.1 h.2.1 h.2.2.1 x3 h3.1 h3.2
theorem IX{p2 p3 p4:a2->Prop}{P:Prop}(h:p0/\p1/\∃x2,p2 x2/\p3 x2/\p4 x2)(k:p0->p1->∀x2,p2 x2->p3 x2->p4 x2->P):P:=h.2.2.elim λx2 h2=>k h.1 h.2.1 x2 h2.1 h2.2.1 h2.2.2
theorem IZ{p0 p1 p2 p3 p4:a0->Prop}{P:Prop}(h:∃x0,p0 x0/\p1 x0/\p2 x0/\p3 x0/\p4 x0)(k:∀x0,p0 x0->p1 x0->p2 x0->p3 x0->p4 x0->P):P:=h.elim λx0 h0=>k x0 h0.1 h0.2.1 h0.2.2.1 h0.2.2.2.1 h0.2.2.2.2
theorem I1{p0:a0->Prop}{p1 p2:a0->a2->a3->Prop}{P:Prop}(h:∃x0,p0 x0/\∃x2,∃x3,p1 x0 x2 x3/\p2 x0 x2 x3)(k:∀x0,p0 x0->∀x2,∀x3,p1 x0 x2 x3->p2 x0 x2 x3->P):P:=h.elim λx0 h0=>h0.2.elim λx2 h2=>h2.elim λx3 h3=>k x0 h0.1 x2 x3 h3.1 h3.2
theorem pN{p0 p1 p2 p3:a0->a1->Prop}{P:Prop}(h:∃x0,∃x1,p0 x0 x1/\p1 x0 x1/\p2 x0 x1/\p3 x0 x1)(k:∀x0,∀x1,p0 x0 x1->p1 x0 x1->p2 x0 x1->p3 x0 x1->P):P:=h.elim λx0 h0=>h0.elim λx1 h1=>k x0 x1 h1.1 h1.2.1 h1.2.2.1 h1.2.2.2
theorem pO{p0 p1 p2:a0->a1->a2->Prop}{P:Prop}(h:∃x0,∃x1,∃x2,p0 x0 x1 x2/\p1 x0 x1 x2/\p2 x0 x1 x2)(k:∀x0,∀x1,∀x2,p0 x0 x1 x2->p1 x0 x1 x2->p2 x0 x1 x2->P):P:=h.elim λx0 h0=>h0.elim λx1 h1=>h1.elim λx2 h2=>k x0 x1 x2 h2.1 h2.2.1 h2.2.2
theorem xM{p0 p1:a0->a1->a2->a3->Prop}{P:Prop}(h:∃x0,∃x1,∃x2,∃x3,p0 x0 x1 x2 x3/\p1 x0 x1 x2 x3)(k:∀x0,∀x1,∀x2,∀x3,p0 x0 x1 x2 x3->p1 x0 x1 x2 x3->P):P:=h.elim λx0 h0=>h0.elim λx1 h1=>h1.elim λx2 h2=>h2.elim λx3 h3=>k x0 x1 x2 x3 h3.1 h3.2
theorem y4{p2 p3:a2->a3->a4->Prop}{P:Prop}(h:p0/\p1/\∃x2,∃x3,∃x4,p2 x2 x3 x4/\p3 x2 x3 x4)(k:p0->p1->∀x2,∀x3,∀x4,p2 x2 x3 x4->p3 x2 x3 x4->P):P:=h.2.2.elim λx2 h2=>h2.elim λx3 h3=>h3.elim λx4 h4=>k h.1 h.2.1 x2 x3 x4 h4.1 h4.2
theorem y5{p0 p1 p2:a0->Prop}{p3 p4:a0->a4->Prop}{P:Prop}(h:∃x0,p0 x0/\p1 x0/\p2 x0/\∃x4,p3 x0 x4/\p4 x0 x4)(k:∀x0,p0 x0->p1 x0->p2 x0->∀x4,p3 x0 x4->p4 x0 x4->P):P:=h.elim λx0 h0=>h0.2.2.2.elim λx4 h4=>k x0 h0.1 h0.2.1 h0.2.2.1 x4 h4.1 h4.2
theorem vY{p0 p1 p2 p3 p4:a0->a1->Prop}{P:Prop}(h:∃x0,∃x1,p0 x0 x1/\p1 x0 x1/\p2 x0 x1/\p3 x0 x1/\p4 x0 x1)(k:∀x0,∀x1,p0 x0 x1->p1 x0 x1->p2 x0 x1->p3 x0 x1->p4 x0 x1->P):P:=h.elim λx0 h0=>h0.elim λx1 h1=>k x0 x1 h1.1 h1.2.1 h1.2.2.1 h1.2.2.2.1 h1.2.2.2.2
theorem mZ{p0 p1 p2 p3:a0->a1->a2->Prop}{P:Prop}(h:∃x0,∃x1,∃x2,p0 x0 x1 x2/\p1 x0 x1 x2/\p2 x0 x1 x2/\p3 x0 x1 x2)(k:∀x0,∀x1,∀x2,p0 x0 x1 x2->p1 x0 x1 x2->p2 x0 x1 x2->p3 x0 x1 x2->P):P:=h.elim λx0 h0=>h0.elim λx1 h1=>h1.elim λx2 h2=>k x0 x1 x2 h2.1 h2.2.1 h2.2.2.1 h2.2.2.2
theorem vZ{p0 p1 p2:a0->a1->a2->a3->Prop}{P:Prop}(h:∃x0,∃x1,∃x2,∃x3,p0 x0 x1 x2 x3/\p1 x0 x1 x2 x3/\p2 x0 x1 x2 x3)(k:∀x0,∀x1,∀x2,∀x3,p0 x0 x1 x2 x3->p1 x0 x1 x2 x3->p2 x0 x1 x2 x3->P):P:=h.elim λx0 h0=>h0.elim λx1 h1=>h1.elim λx2 h2=>h2.elim λx3 h3=>k x0 x1 x2 x3 h3.1 h3.2.1 h3.2.2
theorem DN{p2 p3 p4:a2->a3->a4->Prop}{P:Prop}(h:p0/\p1/\∃x2,∃x3,∃x4,p2 x2 x3 x4/\p3 x2 x3 x4/\p4 x2 x3 x4)(k:p0->p1->∀x2,∀x3,∀x4,p2 x2 x3 x4->p3 x2 x3 x4->p4 x2 x3 x4->P):P:=h.2.2.elim λx2 h2=>h2.elim λx3 h3=>h3.elim λx4 h4=>k h.1 h.2.1 x2 x3 x4 h4.1 h4.2.1 h4.2.2
theorem DO{p0 p1 p2 p3 p4 p5:a0->a1->Prop}{P:Prop}(h:∃x0,∃x1,p0 x0 x1/\p1 x0 x1/\p2 x0 x1/\p3 x0 x1/\p4 x0 x1/\p5 x0 x1)(k:∀x0,∀x1,p0 x0 x1->p1 x0 x1->p2 x0 x1->p3 x0 x1->p4 x0 x1->p5 x0 x1->P):P:=h.elim λx0 h0=>h0.elim λx1 h1=>k x0 x1 h1.1 h1.2.1 h1.2.2.1 h1.2.2.2.1 h1.2.2.2.2.1 h1.2.2.2.2.2
theorem nk{p0 p1 p2 p3 p4:a0->a1->a2->Prop}{P:Prop}(h:∃x0,∃x1,∃x2,p0 x0 x1 x2/\p1 x0 x1 x2/\p2 x0 x1 x2/\p3 x0 x1 x2/\p4 x0 x1 x2)(k:∀x0,∀x1,∀x2,p0 x0 x1 x2->p1 x0 x1 x2->p2 x0 x1 x2->p3 x0 x1 x2->p4 x0 x1 x2->P):P:=h.elim λx0 h0=>h0.elim λx1 h1=>h1.elim λx2 h2=>k x0 x1 x2 h2.1 h2.2.1 h2.2.2.1 h2.2.2.2.1 h2.2.2.2.2
theorem ux{p0 p1 p2 p3:a0->a1->a2->a3->Prop}{P:Prop}(h:∃x0,∃x1,∃x2,∃x3,p0 x0 x1 x2 x3/\p1 x0 x1 x2 x3/\p2 x0 x1 x2 x3/\p3 x0 x1 x2 x3)(k:∀x0,∀x1,∀x2,∀x3,p0 x0 x1 x2 x3->p1 x0 x1 x2 x3->p2 x0 x1 x2 x3->p3 x0 x1 x2 x3->P):P:=h.elim λx0 h0=>h0.elim λx1 h1=>h1.elim λx2 h2=>h2.elim λx3 h3=>k x0 x1 x2 x3 h3.1 h3.2.1 h3.2.2.1 h3.2.2.2
theorem Ch{a5:Type}{p0 p1:a0->a1->Prop}{p2 p3 p4:a0->a1->a4->a5->Prop}{P:Prop}(h:∃x0,∃x1,p0 x0 x1/\p1 x0 x1/\∃x4,∃x5,p2 x0 x1 x4 x5/\p3 x0 x1 x4 x5/\p4 x0 x1 x4 x5)(k:∀x0,∀x1,p0 x0 x1->p1 x0 x1->∀x4,∀x5,p2 x0 x1 x4 x5->p3 x0 x1 x4 x5->p4 x0 x1 x4 x5->P):P:=h.elim λx0 h0=>h0.elim λx1 h1=>h1.2.2.elim λx4 h4=>h4.elim λx5 h5=>k x0 x1 h1.1 h1.2.1 x4 x5 h5.1 h5.2.1 h5.2.2
theorem qd{p0 p1 p2 p3 p4 p5:a0->a1->a2->Prop}{P:Prop}(h:∃x0,∃x1,∃x2,p0 x0 x1 x2/\p1 x0 x1 x2/\p2 x0 x1 x2/\p3 x0 x1 x2/\p4 x0 x1 x2/\p5 x0 x1 x2)(k:∀x0,∀x1,∀x2,p0 x0 x1 x2->p1 x0 x1 x2->p2 x0 x1 x2->p3 x0 x1 x2->p4 x0 x1 x2->p5 x0 x1 x2->P):P:=h.elim λx0 h0=>h0.elim λx1 h1=>h1.elim λx2 h2=>k x0 x1 x2 h2.1 h2.2.1 h2.2.2.1 h2.2.2.2.1 h2.2.2.2.2.1 h2.2.2.2.2.2
theorem wt{p0 p1 p2 p3 p4:a0->a1->a2->a3->Prop}{P:Prop}(h:∃x0,∃x1,∃x2,∃x3,p0 x0 x1 x2 x3/\p1 x0 x1 x2 x3/\p2 x0 x1 x2 x3/\p3 x0 x1 x2 x3/\p4 x0 x1 x2 x3)(k:∀x0,∀x1,∀x2,∀x3,p0 x0 x1 x2 x3->p1 x0 x1 x2 x3->p2 x0 x1 x2 x3->p3 x0 x1 x2 x3->p4 x0 x1 x2 x3->P):P:=h.elim λx0 h0=>h0.elim λx1 h1=>h1.elim λx2 h2=>h2.elim λx3 h3=>k x0 x1 x2 x3 h3.1 h3.2.1 h3.2.2.1 h3.2.2.2.1 h3.2.2.2.2
theorem uw{p1 p2 p3 p4 p5:a1->a2->Prop}{P:Prop}(h:p0/\∃x1,∃x2,p1 x1 x2/\p2 x1 x2/\p3 x1 x2/\p4 x1 x2/\p5 x1 x2)(k:p0->∀x1,∀x2,p1 x1 x2->p2 x1 x2->p3 x1 x2->p4 x1 x2->p5 x1 x2->P):P:=h.2.elim λx1 h1=>h1.elim λx2 h2=>k h.1 x1 x2 h2.1 h2.2.1 h2.2.2.1 h2.2.2.2.1 h2.2.2.2.2
theorem mV{a:α}{p:Prop}(e:(none:Option α)=some a):p:=nomatch e
theorem mP{p:Prop}(e:false=true):p:=nomatch e
inductive V where
 |none
 |bool (b:Bool)
 |int (i:Int)
 |sym (k:Nat)
 |txt (n:Nat)
 |tup (l:List V)
 |lst (l:List V)
 |dct (l:List (Nat×V))
 |obj (n:Nat)
inductive O where
 |list (l:List V)
 |dict (l:List (Nat×V))
 |inst (c d:Nat)
noncomputable abbrev St:=List O
noncomputable abbrev qY(xs:List af)(n:Nat):eT:={cls:=.type "tuple",dict:=none,data:=.seq xs.toArray n,slots:=#[]}
noncomputable abbrev pF(xs:List af)(n:Nat):eT:={cls:=.type "list",dict:=none,data:=.seq xs.toArray n,slots:=#[]}
structure Wd where
 prog:bA
 w:cM
 S:List aI
 base:aB
 cls:Nat->ai
 exc:ai
 hid:List ai
noncomputable abbrev Wd.M(W:Wd):ge:=aO W.prog W.w
mutual
noncomputable def mT(W:Wd)(φ:List ai)(h:aB):V->af->Prop
 |.none,x=>x=.none
 |.bool b,x=>x=.bool b
 |.int i,x=>∃t,x=.int i t
 |.sym k,x=>∃s t,W.S[k]?=some s/\x=.str s t
 |.txt n,x=>∃s t,s.length<=n/\x=.str s t
 |.tup l,x=>∃a xs n,x=.ref a/\(a∉φ/\a∉W.hid)/\xs.length<=bp/\h.get? a=some (qY xs n)/\nf W φ h l xs
 |.lst l,x=>∃a xs n,x=.ref a/\(a∉φ/\a∉W.hid)/\xs.length<=bp/\h.get? a=some (pF xs n)/\nf W φ h l xs
 |.dct l,x=>∃a kvs,x=.ref a/\(a∉φ/\∃o,W.base.get? a=some o)/\a≠dJ/\h.DictOf (strKind W.prog W.w) a kvs/\n8 W φ h l kvs
 |.obj n,x=>∃a,φ[n]?=some a/\x=.ref a
noncomputable def nf(W:Wd)(φ:List ai)(h:aB):List V->List af->Prop
 |[],xs=>xs=[]
 |v::l,xs=>∃x r,xs=x::r/\mT W φ h v x/\nf W φ h l r
noncomputable def n8(W:Wd)(φ:List ai)(h:aB):List (Nat×V)->List (aI×af)->Prop
 |[],es=>es=[]
 |(k,v)::l,es=>∃s x r,es=(s,x)::r/\W.S[k]?=some s/\mT W φ h v x/\n8 W φ h l r
end
structure qZ(φ:List ai)(h h':aB):Prop where
 there:∀b o,h.get? b=some o->∃o',h'.get? b=some o'
 keep:∀b o,h.get? b=some o->b∉φ->∃sl,h'.get? b=some {o with slots:=sl}/\(o.cls≠.type "frame" -> sl=o.slots)
theorem qZ.refl(φ:List ai)(h:aB):qZ φ h h:=⟨λZ o e=>⟨o,e⟩,λZ o e Z=>⟨o.slots,e,λZ=>rfl⟩⟩
theorem qZ.exact(x:qZ φ h h'){o:eT}(e:h.get? b=some o)(hb:b∉φ)(hf:o.cls≠.type "frame"):h'.get? b=some o:=by
 refine mO (x.keep b o e hb) λsl e' hs=>?_;rw[e',hs hf]
def Grows(h:aB)(φ TV:List ai):Prop:=∃ψ,TV=φ++ψ/\∀a∈ψ,h.get? a=none
theorem Grows.refl(h:aB)(φ:List ai):Grows h φ φ:=⟨[],by simp,by simp⟩
theorem Grows.one(h:aB)(φ:List ai){a:ai}(ha:h.get? a=none):Grows h φ (φ++[a]):=⟨[a],rfl,by simpa using ha⟩
theorem Grows.notin(g:Grows h φ TV){o:eT}(e:h.get? b=some o)(hb:b∉φ):b∉TV:=by
 refine mO g λψ T6 WP=>?_;subst T6;intro hm
 rcases aG.mp hm with hm | hm
 .exact hb hm
 .rw[WP b hm] at e;cases e
theorem Grows.get(g:Grows h φ TV){n:Nat}{a:ai}(e:φ[n]?=some a):TV[n]?=some a:=by
 refine mO g λψ T6 Z=>?_;subst T6
 have hn:n < φ.length:=by
  rcases bE n φ.length with hl | hl
  .exact hl
  .rw[bx hl] at e;cases e
 rw[ay hn];exact e
theorem qZ.fresh(x:qZ X h h'){a:ai}(e:h'.get? a=none):h.get? a=none:=by
 cases q:h.get? a with
 |none=>rfl
 |some o=>refine m4 (x.there a o q) λo' e'=>?_;rw[e] at e';cases e'
theorem Grows.trans{Up:List ai}(x:qZ X h h')(g:Grows h φ TV)(g':Grows h' TV Up):Grows h φ Up:=by
 refine mO g λψ T6 WP=>?_;subst T6;refine mO g' λZs T6 WO=>?_;subst T6;refine⟨ψ++Zs,by simp,λa ha=>?_⟩
 rcases aG.mp ha with ha | ha
 .exact WP a ha
 .exact x.fresh (WO a ha)
theorem qZ.mono(x:qZ X h h')(hs:∀b∈X,b∈Y):qZ Y h h':=⟨x.there,λb o e hb=>x.keep b o e λhm=>hb (hs b hm)⟩
theorem qZ.trans{UE:aB}(x:qZ X h h')(y:qZ Y h' UE)(hY:∀b∈Y,b∈X\/h.get? b=none):qZ X h UE:=by
 refine⟨λb o e=>?_,λb o e hb=>?_⟩
 .refine m4 (x.there b o e) λo' e'=>?_;exact y.there b o' e'
 .refine mO (x.keep b o e hb) λsl e' hs=>?_
  obtain ⟨Xe,Vc,Um⟩:=y.keep b _ e' λhm=>by
   rcases hY b hm with q | q
   .exact hb q
   .rw[e] at q;cases q
  exact⟨Xe,Vc,λhf=>(Um hf).trans (hs hf)⟩
theorem s8{n:Nat}:(qY xs n).cls≠.type "frame" := by simp
theorem qv{n:Nat}:(pF xs n).cls≠.type "frame" := by simp
def Apart(W:Wd)(φ X:List ai)(h:aB):Prop:=∀b∈X,b∉φ->W.base.get? b=none/\(b∈W.hid\/∀o,h.get? b=some o->∀xs n,o.data≠.seq xs n)
theorem Apart.self(W:Wd)(φ:List ai)(h:aB):Apart W φ φ h:=λZ hb hn=>absurd hb hn
theorem Apart.nil(W:Wd)(φ:List ai)(h:aB):Apart W φ [] h:=λZ hb=>nomatch hb
theorem Apart.append{W:Wd}(x:Apart W φ X h)(y:Apart W φ Y h):Apart W φ (X++Y) h:=λb hb=>(aG.mp hb).elim (x b) (y b)
theorem Apart.seq{W:Wd}(x:Apart W φ X h){o:eT}(hb:b∉φ/\b∉W.hid)(e:h.get? b=some o)(hd:∃xs n,o.data=.seq xs n):b∉X:=λhm=>by
 refine xK hd λxs n hd=>?_;exact (x b hm hb.1).2.resolve_left hb.2 o e xs n hd
abbrev Kp(X:List ai)(h h':aB):Prop:=∀b o,h.get? b=some o->b∉X->∃sl,h'.get? b=some {o with slots:=sl}/\(o.cls≠.type "frame" -> sl=o.slots)
theorem Kp.exact(x:Kp φ h h'){o:eT}(e:h.get? b=some o)(hb:b∉φ)(hf:o.cls≠.type "frame"):h'.get? b=some o:=by
 refine mO (x b o e hb) λsl e' hs=>?_;rw[e',hs hf]
section
variable {W:Wd}
mutual
theorem mT.kp(x:Kp X h h')(ap:Apart W φ X h)(g:Grows h φ TV):∀{v:V} {y:af},mT W φ h v y->mT W TV h' v y
 |.none,_,r=>r
 |.bool _,_,r=>r
 |.int _,_,r=>r
 |.sym _,_,r=>r
 |.txt _,_,r=>r
 |.tup l,_,r=>by
  obtain ⟨a,xs,n,rfl,ha,hz,e,r⟩:=r;exact⟨a,xs,n,rfl,⟨g.notin e ha.1,ha.2⟩,hz,x.exact e (ap.seq ha e ⟨_,_,rfl⟩) s8,nf.kp x ap g r⟩
 |.lst l,_,r=>by
  obtain ⟨a,xs,n,rfl,ha,hz,e,r⟩:=r;exact⟨a,xs,n,rfl,⟨g.notin e ha.1,ha.2⟩,hz,x.exact e (ap.seq ha e ⟨_,_,rfl⟩) qv,nf.kp x ap g r⟩
 |.dct l,_,r=>by
  obtain ⟨a,kvs,rfl,ha,hs,⟨o,es,ep,e,c,q⟩,r⟩:=r
  exact⟨a,kvs,rfl,⟨g.notin e ha.1,ha.2⟩,hs,⟨o,es,ep,x.exact e (λhm=>by
   refine m4 ha.2 λo' WU=>?_
   rw[(ap a hm ha.1).1] at WU;cases WU) (by rw[c.1];simp),c,q⟩,n8.kp x ap g r⟩
 |.obj n,_,r=>by
  refine mO r λa e Ua=>?_;subst Ua;exact⟨a,g.get e,rfl⟩
theorem nf.kp(x:Kp X h h')(ap:Apart W φ X h)(g:Grows h φ TV):∀{l:List V} {ys:List af},nf W φ h l ys->nf W TV h' l ys
 |[],_,r=>r
 |v::l,_,r=>by
  refine mU r λy ys Ua a b=>?_;subst Ua;exact⟨y,ys,rfl,mT.kp x ap g a,nf.kp x ap g b⟩
theorem n8.kp(x:Kp X h h')(ap:Apart W φ X h)(g:Grows h φ TV):∀{l:List (Nat×V)} {es:List (aI×af)},n8 W φ h l es->n8 W TV h' l es
 |[],_,r=>r
 |(k,v)::l,_,r=>by
  refine mZ r λs y es Uc hk a b=>?_;subst Uc;exact⟨s,y,es,rfl,hk,mT.kp x ap g a,n8.kp x ap g b⟩
end
end
section
variable {W:Wd}
theorem mT.evo(x:qZ X h h')(ap:Apart W φ X h)(g:Grows h φ TV){v:V}(r:mT W φ h v y):mT W TV h' v y:=r.kp x.keep ap g
theorem nf.evo(x:qZ X h h')(ap:Apart W φ X h)(g:Grows h φ TV){l:List V}(r:nf W φ h l ys):nf W TV h' l ys:=r.kp x.keep ap g
theorem n8.evo(x:qZ X h h')(ap:Apart W φ X h)(g:Grows h φ TV){l:List (Nat×V)}{es:List (aI×af)}(r:n8 W φ h l es):n8 W TV h' l es:=r.kp x.keep ap g
end
def qm(W:Wd)(φ:List ai)(h:aB):O->ai->Prop
 |.list l,a=>∃xs n,xs.length<=bp/\h.get? a=some (pF xs n)/\nf W φ h l xs
 |.dict l,a=>∃kvs,h.DictOf (strKind W.prog W.w) a kvs/\n8 W φ h l kvs
 |.inst c d,a=>∃b,φ[d]?=some b/\h.get? a=some {cls:=.ref (W.cls c),dict:=some b,data:=.plain,slots:=#[]}
structure Inv(W:Wd)(φ:List ai)(σ:St)(h:aB):Prop where
 base:W.base.StaysIn h
 len:φ.length=σ.length
 nodup:φ.Nodup
 new:∀a∈φ,W.base.get? a=none
 hid:∀a∈W.hid,∃o,h.get? a=some o
 rep:∀(n:Nat) (o:O) (a:ai),σ[n]?=some o->φ[n]?=some a->qm W φ h o a
theorem qm.kp{W:Wd}(x:Kp X h h')(ap:Apart W φ X h)(g:Grows h φ TV){o:O}{a:ai}(hX:a∉X)(r:qm W φ h o a):qm W TV h' o a:=by
 cases o with
 |list l=>
  refine mU r λxs n hz e r=>?_;exact⟨xs,n,hz,x.exact e hX qv,r.kp x ap g⟩
 |dict l=>
  refine mO r λkvs UJ r=>?_;obtain ⟨o,es,ep,e,c,q⟩:=UJ;exact⟨kvs,⟨o,es,ep,x.exact e hX (by rw[c.1];simp),c,q⟩,r.kp x ap g⟩
 |inst c d=>
  refine mO r λb hb e=>?_;exact⟨b,g.get hb,x.exact e hX (by simp)⟩
theorem qm.evo{W:Wd}(x:qZ X h h')(ap:Apart W φ X h)(g:Grows h φ TV){o:O}{a:ai}(hX:a∉X)(r:qm W φ h o a):qm W TV h' o a:=r.kp x.keep ap g hX
theorem Inv.evo{W:Wd}{σ:St}(i:Inv W φ σ h)(x:qZ X h h')(ap:Apart W φ X h)(hX:∀a∈φ,a∉X)(hb:W.base.StaysIn h'):Inv W φ σ h':=
 ⟨hb,i.len,i.nodup,i.new,λa ha=>let ⟨o,e⟩:=i.hid a ha;x.there a o e,λn o a e1 e2=>(i.rep n o a e1 e2).evo x ap (.refl _ _) (hX a (aF e2))⟩
theorem Inv.kp{W:Wd}{σ:St}(i:Inv W φ σ h)(x:Kp X h h')(ap:Apart W φ X h)(hX:∀a∈φ,a∉X)(hb:W.base.StaysIn h')(hh:∀a∈W.hid,∃o,h'.get? a=some o):Inv W φ σ h':=
 ⟨hb,i.len,i.nodup,i.new,hh,λn o a e1 e2=>(i.rep n o a e1 e2).kp x ap (.refl _ _) (hX a (aF e2))⟩
structure Good(W:Wd)(own φ:List ai)(s:ag)(σ':St)(TV:List ai)(s':ag):Prop where
 grows:Grows s.heap φ TV
 evo:qZ (φ++own) s.heap s'.heap
 inv:Inv W TV σ' s'.heap
 gens:s'.gens=s.gens
 os:s'.os=s.os
theorem Good.refl{W:Wd}{σ:St}{s:ag}(i:Inv W φ σ s.heap):Good W own φ s σ φ s:=⟨Grows.refl _ _,qZ.refl _ _,i,rfl,rfl⟩
theorem Grows.either(g:Grows h φ TV)(hb:b∈TV):b∈φ\/h.get? b=none:=by
 refine mO g λψ T6 WP=>?_;subst T6;exact (aG.mp hb).imp id (WP b)
theorem Good.trans{W:Wd}{T9 Uf:List ai}{T5 Ul:St}{s T2:ag}(x:Good W own φ s T5 T9 TW)(y:Good W own T9 TW Ul Uf T2):Good W own φ s Ul Uf T2:=by
 refine⟨x.grows.trans x.evo y.grows,x.evo.trans y.evo λb hb=>?_,y.inv,y.gens.trans x.gens,y.os.trans x.os⟩
 rcases aG.mp hb with hb | hb
 .exact (x.grows.either hb).imp (bR _) id
 .exact .inl (cw _ hb)
theorem Good.more{W:Wd}{Xi:List ai}{σ':St}{s:ag}(x:Good W own φ s σ' TV s')(hs:∀a∈own,a∈Xi):Good W Xi φ s σ' TV s':=
 ⟨x.grows,x.evo.mono λb hb=>(aG.mp hb).elim (bR _) λh=>cw _ (hs b h),x.inv,x.gens,x.os⟩
theorem Good.up{W:Wd}{σ':St}{s:ag}(x:Good W [] φ s σ' TV s'):Good W own φ s σ' TV s':=x.more λZ h=>nomatch h
theorem Good.rep{W:Wd}{σ':St}{s:ag}(x:Good W [] φ s σ' TV s'){v:V}(r:mT W φ s.heap v y):mT W TV s'.heap v y:=
 r.evo x.evo ((Apart.self _ _ _).append (Apart.nil _ _ _)) x.grows
theorem Good.repL{W:Wd}{σ':St}{s:ag}(x:Good W [] φ s σ' TV s'){v:List V}{y:List af}(r:nf W φ s.heap v y):nf W TV s'.heap v y:=
 r.evo x.evo ((Apart.self _ _ _).append (Apart.nil _ _ _)) x.grows
theorem QH{n:Int}(a:-100000000<=n)(b:n<=100000000):-2 ^ 63<=n/\n < 2 ^ 63:=⟨bP (by decide) a,jJ b (by decide)⟩
theorem Se{a L:Nat}(h:a+3 * (d+1)+3<=L):a+1+3 * d+5<=L:=(bT a 1 (3 * d)).symm▸h
theorem Sf{a L:Nat}(h:a+20 * (d+1)+200<=L):a+3+20 * d+210<=L:=by
 rw[Nat.mul_succ,<-cL,cL _ 20] at h;rw[bT a 3,cL _ 3];exact az (bd (by decide) _) h
theorem Sg{a u L:Nat}(hw:u<=2)(h:a+3 * d+5<=L):a+u+3 * d+3<=L:=az (by rw[bT a u];exact bd (bS hw 3) (a+3 * d)) h
theorem Sh{a u L:Nat}(hw:u<=5)(h:a+20 * d+210<=L):a+u+20 * d+200<=L:=by
 rw[bT a u,cL _ u];exact az (bd (az (bS hw 200) (by decide)) _) h
theorem Si{a b L:Nat}(h:a+b+3<=L):a < L:=cR (j3 (az (aN a b) (aN _ 2))) h
theorem Sj{a u L:Nat}(hw:u<=2)(h:a+3 * d+5<=L):a+u+1 < L:=
 have h2:a+3<=a+3 * d+4:=jh (aN a (3 * d)) (by decide)
 cR (j3 (az (bS (bd hw a) 1) h2)) h
theorem u1{l:List α}{a b:α}{n:Nat}(hl:l.length<=n)(e:(l++[a])[n]?=some b):n=l.length/\a=b:=by
 have h:=(aq.mp e).1;rw[aL] at h;obtain rfl:=cY hl (j1 h);exact⟨rfl,ae (d3.symm.trans e)⟩
variable {l ts ι TZ κ:List V}{W W':Wd}{σ σ' cs T0:St}{T:Nat->V->Prop}{o':Option β}{Q₁:β->ag->Prop}{p2:a0->Prop}
inductive R(ε α:Type)where
 |ok (a:α) (σ:St)
 |exc (e:ε) (σ:St)
 |bad
namespace R
variable {ε Us α β:Type}
noncomputable def bind:R ε α->(α->St->R ε β)->R ε β
 |.ok a σ,f=>f a σ
 |.exc e σ,_=>.exc e σ
 |.bad,_=>.bad
noncomputable def lift(e:ε):R Unit α->R ε α
 |.ok a σ=>.ok a σ
 |.exc _ σ=>.exc e σ
 |.bad=>.bad
noncomputable def of(o:Option α)(σ:St):R ε α:=match o with
 |some a=>.ok a σ
 |none=>.bad
@[simp] theorem bind_ok(a:α)(σ:St)(f:α->St->R ε β):(R.ok a σ).bind f=f a σ:=rfl
@[simp] theorem bind_exc(e:ε)(σ:St)(f:α->St->R ε β):(R.exc e σ).bind f=.exc e σ:=rfl
@[simp] theorem bind_bad(f:α->St->R ε β):(R.bad:R ε α).bind f=.bad:=rfl
@[simp] theorem lift_ok(e:ε)(a:α)(σ:St):(R.ok a σ).lift e=.ok a σ:=rfl
@[simp] theorem lift_exc(e:ε)(u:Unit)(σ:St):(R.exc u σ:R Unit α).lift e=.exc e σ:=rfl
@[simp] theorem lift_bad(e:ε):(R.bad:R Unit α).lift e=.bad:=rfl
@[simp] theorem of_some(a:α)(σ:St):(R.of (some a) σ:R ε α)=.ok a σ:=rfl
@[simp] theorem of_none(σ:St):(R.of none σ:R ε α)=.bad:=rfl
noncomputable def opt(o:Option α)(f:α->R ε β):R ε β:=match o with
 |some a=>f a
 |none=>.bad
end R
noncomputable def gd{ε α:Type}(p:Prop)[Decidable p](r:R ε α):R ε α:=if p then r else .bad
noncomputable def og{α:Type}(p:Prop)[Decidable p](a:α):Option α:=if p then some a else none
theorem nu{p:Prop}[Decidable p]{a b:α}(h:og p a=some b):p/\a=b:=
 if c:p then ⟨c,ae ((if_pos c).symm.trans h)⟩ else mV ((if_neg c).symm.trans h)
theorem bs{o:Option α}{f:α->Option β}{b:β}(h:o.bind f=some b):∃a,o=some a/\f a=some b:=by
 cases o with
 |none=>exact mV h
 |some a=>exact⟨a,rfl,h⟩
theorem ms{o:Option α}{f:α->β}{b:β}(h:o.map f=some b):∃a,o=some a/\f a=b:=by
 cases o with
 |none=>exact mV h
 |some a=>exact⟨a,rfl,ae h⟩
theorem b2{a b:Bool}(h:(a&&b)=true):a=true/\b=true:=bj.mp h
inductive Kn where
 |add | sub | mul | mod
inductive Hl where
 |eq | ne | lt | gt | isin | notin | is | isnt
set_option genCtorIdx false in
set_option genCtorIdx false in
inductive BI where
 |len | any | sorted (m:Bool) | list (m:Bool) | tuple | dict
inductive BM where
 |append | pop0 | pop1 | get1 | get2 | update
set_option genCtorIdx false in
set_option genCtorIdx false in
inductive MX where
 |lit (v:V)
 |var (i:Nat)
 |glob (k:Nat)
 |nil
 |cons (e es:MX)
 |tup (es:MX)
 |lst (m:Bool) (es:MX)
 |dict (ks:List Nat) (es:MX)
 |attr (e:MX) (k:Nat)
 |idx (e i:MX)
 |upto (e i:MX)
 |bin (op:Kn) (a b:MX)
 |cmp (op:Hl) (a b:MX)
 |not (a:MX)
 |and (es:MX)
 |or (es:MX)
 |ite (c a b:MX)
 |call (f:Nat) (es:MX)
 |meth (e:MX) (k:Nat) (es:MX)
 |bi (b:BI) (e:MX)
 |bm (m:BM) (e es:MX)
 |new (c:Nat)
 |sset (a b:MX)
 |fstr (n:Nat) (es:MX)
 |comp (t T8 cond Uv:MX)
 |inEach (T8:MX) (j:Nat)
 |rng (es:MX)
 |enum (e:MX)
 |zip (a b:MX)
set_option genCtorIdx false in
set_option genCtorIdx false in
inductive MS where
 |skip
 |seq (a b:MS)
 |expr (e:MX)
 |asg (t e:MX)
 |ret (e:MX)
 |iff (c:MX) (a b:MS)
 |whl (c:MX) (b:MS)
 |for (t it:MX) (b:MS)
 |raise (a b:MX)
 |tryf (b f:MS)
 |tryx (b h:MS)
 |hole
noncomputable abbrev mQ:=List (Option V)
set_option genCtorIdx false in
set_option genCtorIdx false in
inductive Fl where
 |next
 |ret (v:V)
structure C6 where
 params:Nat
 slots:Nat
 body:MS
structure Pg where
 fn:Nat->Option C6
 const:Nat->V
 meth:Nat->Nat->Option Nat
 init:Nat->Option Nat
 pick:Nat->Int->Option Nat
 slen:Nat->Nat
noncomputable def pB:V->Option Nat
 |.obj n=>some n
 |_=>none
noncomputable def pC:V->Option Nat
 |.sym n=>some n
 |_=>none
noncomputable def nI:V->Option Int
 |.int n=>some n
 |_=>none
noncomputable def pQ:V->Option (List V)
 |.tup l=>some l
 |_=>none
noncomputable def Gs:V->Option (List V)
 |.lst l=>some l
 |_=>none
theorem nJ{v:V}{n:Nat}:pB v=some n->v=.obj n:=V.casesOn (motive_1:=λv=>pB v=some n->v=.obj n) v mV (λZ=>mV) (λZ=>mV) (λZ=>mV) (λZ=>mV) (λZ=>mV) (λZ=>mV) (λZ=>mV) (λZ h=>congrArg V.obj (ae h))
theorem oF{v:V}{n:Nat}:pC v=some n->v=.sym n:=V.casesOn (motive_1:=λv=>pC v=some n->v=.sym n) v mV (λZ=>mV) (λZ=>mV) (λZ h=>congrArg V.sym (ae h)) (λZ=>mV) (λZ=>mV) (λZ=>mV) (λZ=>mV) (λZ=>mV)
theorem nS{v:V}{n:Int}:nI v=some n->v=.int n:=V.casesOn (motive_1:=λv=>nI v=some n->v=.int n) v mV (λZ=>mV) (λZ h=>congrArg V.int (ae h)) (λZ=>mV) (λZ=>mV) (λZ=>mV) (λZ=>mV) (λZ=>mV) (λZ=>mV)
theorem oy{v:V}{n:List V}:pQ v=some n->v=.tup n:=V.casesOn (motive_1:=λv=>pQ v=some n->v=.tup n) v mV (λZ=>mV) (λZ=>mV) (λZ=>mV) (λZ=>mV) (λZ h=>congrArg V.tup (ae h)) (λZ=>mV) (λZ=>mV) (λZ=>mV)
theorem u3{v:V}{n:List V}:Gs v=some n->v=.lst n:=V.casesOn (motive_1:=λv=>Gs v=some n->v=.lst n) v mV (λZ=>mV) (λZ=>mV) (λZ=>mV) (λZ=>mV) (λZ=>mV) (λZ h=>congrArg V.lst (ae h)) (λZ=>mV) (λZ=>mV)
noncomputable def pp:V->Option Bool
 |.bool b=>some b
 |_=>none
theorem pP{v:V}{n:Bool}:pp v=some n->v=.bool n:=V.casesOn (motive_1:=λv=>pp v=some n->v=.bool n) v mV (λZ h=>congrArg V.bool (ae h)) (λZ=>mV) (λZ=>mV) (λZ=>mV) (λZ=>mV) (λZ=>mV) (λZ=>mV) (λZ=>mV)
noncomputable def pJ:V->Option Unit
 |.none=>some ()
 |_=>none
theorem rF{v:V}{u:Unit}:pJ v=some u->v=.none:=V.casesOn (motive_1:=λv=>pJ v=some u->v=.none) v (λZ=>rfl) (λZ=>mV) (λZ=>mV) (λZ=>mV) (λZ=>mV) (λZ=>mV) (λZ=>mV) (λZ=>mV) (λZ=>mV)
noncomputable def CQ:V->Option Nat
 |.txt n=>some n
 |_=>none
theorem vA{v:V}{n:Nat}:CQ v=some n->v=.txt n:=V.casesOn (motive_1:=λv=>CQ v=some n->v=.txt n) v mV (λZ=>mV) (λZ=>mV) (λZ=>mV) (λZ h=>congrArg V.txt (ae h)) (λZ=>mV) (λZ=>mV) (λZ=>mV) (λZ=>mV)
noncomputable def O.l?:O->Option (List V)
 |.list l=>some l
 |_=>none
noncomputable def O.d?:O->Option (List (Nat×V))
 |.dict l=>some l
 |_=>none
noncomputable def O.i?:O->Option (Nat×Nat)
 |.inst c d=>some (c,d)
 |_=>none
noncomputable def listAt(σ:St)(n:Nat):Option (List V):=(σ[n]?).bind O.l?
noncomputable def dictAt(σ:St)(n:Nat):Option (List (Nat×V)):=(σ[n]?).bind O.d?
noncomputable def uq(σ:St)(n:Nat):Option (Nat×Nat):=(σ[n]?).bind O.i?
theorem O.l_eq{o:O}:o.l?=some l->o=.list l:=O.casesOn (motive:=λo=>o.l?=some l->o=.list l) o (λZ h=>congrArg O.list (ae h)) (λZ=>mV) (λZ Z=>mV)
theorem O.d_eq{o:O}{l:List (Nat×V)}:o.d?=some l->o=.dict l:=O.casesOn (motive:=λo=>o.d?=some l->o=.dict l) o (λZ=>mV) (λZ h=>congrArg O.dict (ae h)) (λZ Z=>mV)
theorem O.i_eq{o:O}{l:Nat×Nat}:o.i?=some l->o=.inst l.1 l.2:=O.casesOn (motive:=λo=>o.i?=some l->o=.inst l.1 l.2) o (λZ=>mV) (λZ=>mV) (λZ Z h=>congrArg (λp:Nat×Nat=>O.inst p.1 p.2) (ae h))
theorem AL{o:Option α}{a b:α}(e:o=some a)(h:a=b):o=some b:=h▸e
theorem listAt_eq{n:Nat}(h:listAt σ n=some l):σ[n]?=some (.list l):=(bs h).elim λZ h=>AL h.1 (O.l_eq h.2)
theorem rD{n:Nat}{l:List (Nat×V)}(h:dictAt σ n=some l):σ[n]?=some (.dict l):=(bs h).elim λZ h=>AL h.1 (O.d_eq h.2)
theorem yS{n:Nat}{l:Nat×Nat}(h:uq σ n=some l):σ[n]?=some (.inst l.1 l.2):=(bs h).elim λZ h=>AL h.1 (O.i_eq h.2)
noncomputable def hd:List V->Option V
 |x::_=>some x
 |[]=>none
noncomputable def tl:List V->List V
 |_::l=>l
 |[]=>[]
noncomputable def sP:List V->Option Unit
 |[]=>some ()
 |_=>none
theorem s6{x:V}(h:hd l=some x):l=x::tl l:=by cases l with
 |nil=>exact mV h
 |cons a l=>exact congrArg (·::l) (ae h)
theorem rj{x:Unit}(h:sP l=some x):l=[]:=by cases l with
 |nil=>rfl
 |cons a l=>exact mV h
theorem Be{x:V}{u:Unit}(h:hd l=some x)(h0:sP (tl l)=some u):l=[x]:=(s6 h).trans (congrArg (x::·) (rj h0))
theorem PX{x y:V}{u:Unit}(h:hd l=some x)(h':hd (tl l)=some y)(h0:sP (tl (tl l))=some u):l=[x,y]:=(s6 h).trans (congrArg (x::·) (Be h' h0))
noncomputable def orElse{α:Type}(a b:Option α):Option α:=match a with
 |some x=>some x
 |none=>b
theorem m8{a b:Option α}{x:α}(h:orElse a b=some x):a=some x\/b=some x:=by
 cases a with
 |none=>exact .inr h
 |some y=>exact .inl h
noncomputable def pV(σ:St)(v:V):Option (List V):=(pB v).bind (listAt σ)
noncomputable def sU(σ:St)(v:V):Option (List (Nat×V)):=(pB v).bind (dictAt σ)
noncomputable def r4(σ:St)(v:V):Option (List V):=orElse (Gs v) (pV σ v)
noncomputable def sd(σ:St)(v:V):Option (List V):=orElse (pQ v) (r4 σ v)
noncomputable def Dq:V->Option (List (Nat×V))
 |.dct l=>some l
 |_=>none
theorem wQ{v:V}{n:List (Nat×V)}:Dq v=some n->v=.dct n:=V.casesOn (motive_1:=λv=>Dq v=some n->v=.dct n) v mV (λZ=>mV) (λZ=>mV) (λZ=>mV) (λZ=>mV) (λZ=>mV) (λZ=>mV) (λZ h=>congrArg V.dct (ae h)) (λZ=>mV)
noncomputable def qr(σ:St)(v:V):Option (List (Nat×V)):=orElse (Dq v) (sU σ v)
mutual
noncomputable def pL:V->V->Bool
 |.none,b=>match b with | .none=>true | _=>false
 |.bool a,b=>match b with | .bool b=>a==b | .int j=>(if a then 1 else 0)==j | _=>false
 |.int i,b=>match b with | .bool b=>i==(if b then 1 else 0) | .int j=>i==j | _=>false
 |.sym a,b=>match b with | .sym b=>a==b | _=>false
 |.tup a,b=>match b with | .tup l=>vC a l | _=>false
 |.lst a,b=>match b with | .lst l=>vC a l | _=>false
 |_,_=>false
noncomputable def vC:List V->List V->Bool
 |[],r=>match r with | []=>true | _=>false
 |a::l,r=>match r with | b::r=>pL a b&&vC l r | []=>false
end
mutual
noncomputable def nM(n:Nat):V->Bool
 |.none | .bool _ | .int _ | .sym _=>true
 |.tup l=>match n with
  |0=>false
  |n+1=>nD n l
 |.lst l=>match n with
  |0=>false
  |n+1=>nD n l
 |_=>false
noncomputable def nD(n:Nat):List V->Bool
 |[]=>true
 |v::l=>nM n v&&nD n l
end
noncomputable def uf(σ:St)(v:V):V:=match pV σ v with
 |some l=>.lst l
 |none=>v
noncomputable def Ct(σ:St)(a b:V):Option Bool:=og (nM 40 (uf σ a)&&nM 40 (uf σ b)) (pL (uf σ a) (uf σ b))
noncomputable def Ie(σ:St)(x c:V):Option Bool:=(sd σ c).bind λl=>og (nM 40 x&&nD 40 l) (l.any λy=>pL y x)
noncomputable def MB(σ:St)(x c:V):Option Bool:=(qr σ c).bind λl=>(pC x).map λk=>l.any λp=>p.1==k
noncomputable def Cu(σ:St)(x c:V):Option Bool:=orElse (MB σ x c) (Ie σ x c)
noncomputable def isNone(a b:V):Option Bool:=(pJ b).map λZ=>(pJ a).isSome
noncomputable def N9(a b:V):Option Bool:=(pp a).bind λx=>(pp b).map λy=>x==y
noncomputable def Jh(a b:V):Option Bool:=orElse (isNone a b) (N9 a b)
noncomputable def Cs(σ:St)(op:Hl)(a b:V):Option Bool:=match op with
 |.eq=>Ct σ a b
 |.ne=>(Ct σ a b).map not
 |.lt=>(nI a).bind λa=>(nI b).map λb=>decide (a < b)
 |.gt=>(nI a).bind λa=>(nI b).map λb=>decide (a > b)
 |.isin=>Cu σ a b
 |.notin=>(Cu σ a b).map not
 |.is=>Jh a b
 |.isnt=>(Jh a b).map not
noncomputable def AT(P:Pg)(v:V):Option Nat:=orElse ((pC v).map P.slen) (CQ v)
noncomputable def ni:Nat:=100000
noncomputable def Ht(a b:V):Option V:=(nI a).bind λi=>(nI b).map λj=>.int (i+j)
noncomputable def Hv(a b:V):Option V:=(pQ a).bind λl=>(pQ b).bind λr=>og ((l++r).length<=ni) (.tup (l++r))
noncomputable def w9(P:Pg)(a b:V):Option V:=(AT P a).bind λm=>(AT P b).bind λn=>og (m+n<=ni) (.txt (m+n))
noncomputable def w8(σ:St)(a b:V):Option V:=(r4 σ a).bind λl=>(r4 σ b).bind λr=>og ((l++r).length<=ni) (.lst (l++r))
noncomputable def Hu(P:Pg)(σ:St)(a b:V):Option V:=orElse (Ht a b) (orElse (Hv a b) (orElse (w9 P a b) (w8 σ a b)))
noncomputable def IF(a b:V):Option V:=(nI a).bind λi=>(nI b).bind λj=>og (-1000000<=i/\i<=1000000) (.int (i * j))
noncomputable def IG(a b:V):Option V:=(pQ a).bind λl=>(nI b).bind λj=>og (j=1) (.tup l)
noncomputable def Ra(a b:V):Option V:=orElse (IF a b) (IG a b)
noncomputable def wv(P:Pg)(σ:St)(op:Kn)(a b:V):Option V:=match op with
 |.add=>Hu P σ a b
 |.sub=>(nI a).bind λi=>(nI b).map λj=>.int (i - j)
 |.mul=>Ra a b
 |.mod=>(nI a).bind λi=>(nI b).bind λj=>og (0 < j) (.int (i % j))
noncomputable def Hf(l:List V)(i:Int):Option V:=
 if 0<=i then l[i.toNat]? else if 0<=i+l.length then l[(i+l.length).toNat]? else none
noncomputable def qj(l:List (Nat×V))(k:Nat):Option V:=(l.find? λp=>p.1==k).map (·.2)
noncomputable def rW:List (Nat×V)->Nat->V->List (Nat×V)
 |[],k,v=>[(k,v)]
 |(k',v')::r,k,v=>if k'==k then (k',v)::r else (k',v')::rW r k v
noncomputable def pickOf(P:Pg)(c i:V):Option V:=(nI i).bind λi=>(pC c).bind λs=>(P.pick s i).map .sym
noncomputable def itemOf(σ:St)(c i:V):Option V:=(nI i).bind λi=>(sd σ c).bind λl=>Hf l i
noncomputable def QK(σ:St)(c i:V):Option V:=(pC i).bind λk=>(qr σ c).bind λl=>qj l k
noncomputable def tL(P:Pg)(σ:St)(c i:V):Option V:=orElse (pickOf P c i) (orElse (itemOf σ c i) (QK σ c i))
noncomputable def wm(n:Nat)(i:Int):Nat:=if 0<=i then min i.toNat n else (i+n).toNat
noncomputable def L4(c i:V):Option V:=(nI i).bind λi=>(pQ c).bind λl=>og (i=0/\0 < l.length/\l.length<=ni) (.tup [])
noncomputable def L1(σ:St)(c i:V):Option V:=(nI i).bind λi=>(r4 σ c).bind λl=>og (-1000000<=i/\i<=1000000/\l.length<=ni) (.lst (l.take (wm l.length i)))
noncomputable def uB(σ:St)(c i:V):Option V:=orElse (L4 c i) (L1 σ c i)
noncomputable def yf:List V->Option (List Nat)
 |[]=>some []
 |v::l=>(pC v).bind λk=>(yf l).map (k::·)
noncomputable def Ks(k:Nat):List Nat->List Nat
 |[]=>[k]
 |a::l=>if k<=a then k::a::l else a::Ks k l
noncomputable def rP:List Nat->List Nat
 |[]=>[]
 |a::l=>Ks a (rP l)
noncomputable def tX:List V->Option (List Bool)
 |[]=>some []
 |v::l=>(pp v).bind λb=>(tX l).map (b::·)
noncomputable def newO{ε:Type}(σ:St)(o:O):R ε V:=.ok (.obj σ.length) (σ++[o])
noncomputable def newL(m:Bool)(l:List V)(σ:St):R Unit V:=if m then newO σ (.list l) else .ok (.lst l) σ
noncomputable def keysOf(σ:St)(v:V):Option (List Nat):=orElse ((qr σ v).map λl=>l.map (·.1)) ((sd σ v).bind yf)
noncomputable def DX(σ:St)(b:BI)(v:V):R Unit V:=match b with
 |.len=>R.of ((sd σ v).map λl=>.int l.length) σ
 |.any=>R.of ((r4 σ v).bind λl=>(tX l).map λbs=>.bool (bs.any id)) σ
 |.sorted m=>R.opt (keysOf σ v) λks=>gd (ks.length<=16) (newL m ((rP ks).map .sym) σ)
 |.list m=>R.opt (sd σ v) λl=>gd (l.length<=ni) (newL m l σ)
 |.tuple=>R.of ((r4 σ v).bind λl=>og (l.length<=ni) (.tup l)) σ
 |.dict=>R.opt (qr σ v) λl=>gd (l.length<=ni) (newO σ (.dict l))
noncomputable def yt(l:List (Nat×V)):List (Nat×V)->List (Nat×V)
 |[]=>l
 |(k,v)::r=>yt (rW l k v) r
noncomputable def xW(d:V)(n:Nat):Bool:=pB d != some n
noncomputable def onL(σ:St)(v:V)(f:Nat->List V->R Unit V):R Unit V:=R.opt (pB v) λn=>R.opt (listAt σ n) λl=>f n l
noncomputable def xU(σ:St)(m:BM)(v:V)(l:List V):R Unit V:=match m with
 |.append=>R.opt (hd l) λx=>R.opt (sP (tl l)) λZ=>onL σ v λn l=>gd (l.length < ni) (.ok .none (σ.set n (.list (l++[x]))))
 |.pop0=>R.opt (sP l) λZ=>onL σ v λn l=>R.opt (l.getLast?) λv=>.ok v (σ.set n (.list l.dropLast))
 |.pop1=>R.opt ((hd l).bind nI) λi=>R.opt (sP (tl l)) λZ=>onL σ v λn l=>gd (0<=i) (R.opt (l[i.toNat]?) λv=>.ok v (σ.set n (.list (l.eraseIdx i.toNat))))
 |.get1=>R.opt ((hd l).bind pC) λk=>R.opt (sP (tl l)) λZ=>R.of ((qr σ v).map λl=>(qj l k).getD .none) σ
 |.get2=>R.opt ((hd l).bind pC) λk=>R.opt (hd (tl l)) λx=>R.opt (sP (tl (tl l))) λZ=>R.of ((qr σ v).map λl=>(qj l k).getD x) σ
 |.update=>R.opt (hd l) λd=>R.opt (sP (tl l)) λZ=>R.opt (pB v) λn=>R.opt (dictAt σ n) λl=>R.opt (qr σ d) λr=>
   gd (l.length+r.length<=ni/\xW d n=true) (.ok .none (σ.set n (.dict (yt l r))))
noncomputable def HB(σ:St)(m:BM)(v:V):Bool:=match m with
 |.append | .pop0 | .pop1=>(pV σ v).isSome
 |.get1 | .get2=>(qr σ v).isSome
 |.update=>(sU σ v).isSome
noncomputable def BI.loud:BI->Bool
 |.any=>true
 |.sorted _=>true
 |_=>false
variable {e es cond Uq Uo T8:MX}{ρ:mQ}{op:Hl}
set_option genCtorIdx false in
set_option genCtorIdx false in
inductive It where
 |items (l:List V)
 |live (n:Nat)
noncomputable def It.at:It->Nat->St->Option (Option V)
 |.items l,i,_=>some l[i]?
 |.live n,i,σ=>(listAt σ n).map λl=>l[i]?
noncomputable def It.fuel:It->St->Nat
 |.items l,_=>l.length+1
 |.live n,σ=>((listAt σ n).map λl=>l.length+1).getD 0
noncomputable def after(g:mQ->St->R mQ (Fl×mQ))(r:Fl×mQ)(σ:St):R mQ (Fl×mQ):=match r.1 with
 |.next=>g r.2 σ
 |.ret _=>.ok r σ
noncomputable def loopC(it:It)(f:V->St->R Unit (Option V)):Nat->Nat->List V->St->R Unit (List V)
 |0,_,_,_=>.bad
 |k+1,i,acc,σ=>R.opt (it.at i σ) λw=>match w with
  |none=>.ok acc σ
  |some v=>(f v σ).bind λr σ'=>match r with
   |some x=>gd (acc.length < ni) (loopC it f k (i+1) (acc++[x]) σ')
   |none=>loopC it f k (i+1) acc σ'
noncomputable def loopS(it:It)(f:V->mQ->St->R mQ (Fl×mQ)):Nat->Nat->mQ->St->R mQ (Fl×mQ)
 |0,_,_,_=>.bad
 |k+1,i,ρ,σ=>R.opt (it.at i σ) λw=>match w with
  |none=>.ok (.next,ρ) σ
  |some v=>(f v ρ σ).bind (after (loopS it f k (i+1)))
noncomputable def loopW(c:mQ->St->R Unit Bool)(f:mQ->St->R mQ (Fl×mQ)):Nat->mQ->St->R mQ (Fl×mQ)
 |0,_,_=>.bad
 |k+1,ρ,σ=>((c ρ σ).lift ρ).bind λb T5=>match b with
  |true=>(f ρ T5).bind (after (loopW c f k))
  |false=>.ok (.next,ρ) T5
noncomputable def AC(n:Int):List V:=(aM n.toNat).map λ(i:Nat)=>V.int i
noncomputable def wa(hi:Int):List V:=(aM (hi+1).toNat).map λ(i:Nat)=>V.int (hi - i)
noncomputable def uT(l:List V):List V:=l.zipIdx.map λp=>.tup [.int p.2,p.1]
noncomputable def yE(l r:List V):List V:=(l.zip r).map λp=>.tup [p.1,p.2]
noncomputable def CT:MX->Option Nat
 |.var i=>some i
 |_=>none
noncomputable def sY:MX->Option (List Nat)
 |.nil=>some []
 |.cons e es=>(CT e).bind λi=>(sY es).map (i::·)
 |_=>none
noncomputable def bindL:List Nat->List V->mQ->Option mQ
 |[],l,ρ=>(sP l).map λZ=>ρ
 |i::is,l,ρ=>(hd l).bind λv=>(og (i < ρ.length) (ρ.set i (some v))).bind λρ=>bindL is (tl l) ρ
noncomputable def wZ:MX->Option (List Nat)
 |.var i=>some [i]
 |.tup ts=>sY ts
 |_=>none
noncomputable def AM(t:MX)(v:V):Option (List V):=match t with
 |.tup _=>pQ v
 |_=>some [v]
noncomputable def qo(t:MX)(v:V)(ρ:mQ):Option mQ:=(wZ t).bind λis=>(AM t v).bind λl=>bindL is l ρ
noncomputable abbrev Call:=Nat->List V->St->R Unit V
noncomputable def ul(ks:List Nat)(vs:List V)(σ:St):R Unit V:=
 gd (ks.length=vs.length/\ks.length<=8) (newO σ (.dict (yt [] (ks.zip vs))))
noncomputable def vl(P:Pg)(v:V):Option Nat:=orElse ((nI v).bind λi=>og (-1000<=i/\i<=1000) 5) (AT P v)
noncomputable def rN(σ:St)(v:V)(f:Nat->List (Nat×V)->Nat->Option α):Option α:=(pB v).bind λn=>(uq σ n).bind λc=>(dictAt σ c.2).bind λl=>f c.1 l c.2
noncomputable def Db(σ:St)(v:V)(k:Nat):Option V:=rN σ v λZ l Z=>qj l k
noncomputable def DH(P:Pg)(σ:St)(v:V)(k:Nat):Option Nat:=rN σ v λc l Z=>if (qj l k).isNone then P.meth c k else none
noncomputable def JI(σ:St)(v:V)(k:Nat)(x:V):Option St:=rN σ v λZ l d=>og (l.length < ni) (σ.set d (.dict (rW l k x)))
noncomputable def yb(σ:St)(c i x:V):Option St:=(pB c).bind λn=>(pC i).bind λk=>(dictAt σ n).bind λl=>og (l.length < ni) (σ.set n (.dict (rW l k x)))
noncomputable def Li:MX->Nat
 |.cons _ t=>Li t+1
 |_=>0
structure wB where
 E:mQ->St->R Unit V
 T:mQ->St->R Unit Bool
 L:mQ->St->R Unit (List V)
 F:mQ->St->R Unit Nat
 and:mQ->St->R Unit V
 or:mQ->St->R Unit V
 all:mQ->St->R Unit Bool
 any:mQ->St->R Unit Bool
 I:mQ->St->R Unit It
 A:V->mQ->St->R mQ mQ
 As:List V->mQ->St->R mQ mQ
 nil:Bool
noncomputable def xp(v:V)(σ:St):R Unit It:=match v with
 |.tup l=>.ok (.items l) σ
 |.lst l=>.ok (.items l) σ
 |.obj n=>R.opt (listAt σ n) λZ=>.ok (.live n) σ
 |_=>.bad
noncomputable def wB.no:wB:=⟨λZ Z=>.bad,λZ Z=>.bad,λZ Z=>.bad,λZ Z=>.bad,λZ Z=>.bad,λZ Z=>.bad,λZ Z=>.bad,λZ Z=>.bad,λZ Z=>.bad,λZ Z Z=>.bad,λZ Z Z=>.bad,false⟩
noncomputable def wB.ofT(f:mQ->St->R Unit V)(t:mQ->St->R Unit Bool):wB:={wB.no with E:=f,T:=t,I:=λρ σ=>(f ρ σ).bind xp}
noncomputable def wB.ofE(f:mQ->St->R Unit V):wB:=.ofT f λρ σ=>(f ρ σ).bind λv σ=>R.of (pp v) σ
noncomputable def wB.ofI(f:mQ->St->R Unit It):wB:={wB.no with I:=f}
noncomputable def Rf(l:List V)(σ:St):R Unit It:=R.opt ((hd l).bind nI) λn=>gd (0<=n/\n<=ni) (.ok (.items (AC n)) σ)
noncomputable def LD(l:List V)(σ:St):R Unit It:=R.opt ((hd l).bind nI) λa=>R.opt ((hd (tl l)).bind nI) λb=>R.opt ((hd (tl (tl l))).bind nI) λc=>R.opt (sP (tl (tl (tl l)))) λZ=>
 gd (b=-1/\c=-1/\-1<=a/\a<=ni) (.ok (.items (wa a)) σ)
noncomputable def xZ(l:List V)(σ:St):R Unit It:=match sP (tl l) with
 |some _=>Rf l σ
 |none=>LD l σ
noncomputable def FX(a b:V)(σ:St):R Unit It:=R.opt (Gs a) λl=>R.opt (pQ b) λr=>gd (l.length=r.length) (.ok (.items (yE l r)) σ)
noncomputable def uF(a b:V)(σ:St):R Unit V:=R.opt (pC a) λi=>R.opt (pC b) λj=>.ok (.lst ((if i=j then [i] else rP [i,j]).map .sym)) σ
noncomputable def Af(v:V)(σ:St):R Unit V:=R.opt (pB v) λn=>R.opt (dictAt σ n) λl=>gd (l.length=0) (.ok (.lst []) σ)
noncomputable def Oy(n:Nat)(v:V)(σ:St):R Unit V:=match v with
 |.none=>.ok (.obj n) σ
 |_=>.bad
noncomputable def OJ(P:Pg)(v:V)(σ:St)(f:Nat->St->R Unit Nat):R Unit Nat:=R.opt (vl P v) λk=>gd (k<=1000) (f k σ)
section
variable (P:Pg)(q:Bool)(C:Call)
noncomputable def nF:MX->wB
 |.lit v=>.ofE λZ σ=>.ok v σ
 |.glob k=>.ofE λZ σ=>.ok (P.const k) σ
 |.var i=>{wB.ofE (λρ σ=>R.of (ρ[i]?.join) σ) with A:=λv ρ σ=>if i < ρ.length then .ok (ρ.set i (some v)) σ else .bad}
 |.nil=>{wB.no with L:=λZ σ=>.ok [] σ,F:=λZ σ=>.ok 0 σ,T:=λZ σ=>.ok true σ,all:=λZ σ=>.ok true σ,any:=λZ σ=>.ok false σ,As:=λl ρ σ=>match l with | []=>.ok ρ σ | _=>.bad,nil:=true}
 |.cons e es=>{wB.no with
   L:=λρ σ=>((nF e).E ρ σ).bind λv σ=>((nF es).L ρ σ).bind λl σ=>.ok (v::l) σ
   F:=λρ σ=>((nF e).E ρ σ).bind λv σ=>OJ P v σ λk σ=>((nF es).F ρ σ).bind λn σ=>.ok (k+n) σ
   and:=λρ σ=>if (nF es).nil then (nF e).E ρ σ else ((nF e).E ρ σ).bind λv σ=>match pp v with
    |some true=>(nF es).and ρ σ
    |some false=>.ok v σ
    |none=>.bad
   or:=λρ σ=>if (nF es).nil then (nF e).E ρ σ else ((nF e).E ρ σ).bind λv σ=>match pp v with
    |some true=>.ok v σ
    |some false=>(nF es).or ρ σ
    |none=>.bad
   all:=λρ σ=>((nF e).T ρ σ).bind λb σ=>if b then (nF es).all ρ σ else .ok false σ
   any:=λρ σ=>((nF e).T ρ σ).bind λb σ=>if b then .ok true σ else (nF es).any ρ σ
   As:=λl ρ σ=>match l with
    |v::l=>((nF e).A v ρ σ).bind λρ σ=>(nF es).As l ρ σ
    |[]=>.bad}
 |.tup es=>{wB.ofE (λρ σ=>((nF es).L ρ σ).bind λl σ=>gd (l.length<=ni) (.ok (.tup l) σ)) with
   A:=λv ρ σ=>gd (q=false) (R.opt (pQ v) λl=>gd (Li es=l.length) ((nF es).As l ρ σ))}
 |.lst m es=>.ofE λρ σ=>((nF es).L ρ σ).bind λl σ=>gd (l.length<=ni) (newL m l σ)
 |.dict ks es=>.ofE λρ σ=>((nF es).L ρ σ).bind λl σ=>ul ks l σ
 |.attr e k=>{wB.ofE (λρ σ=>((nF e).E ρ σ).bind λv σ=>R.of (Db σ v k) σ) with
   A:=λx ρ σ=>(((nF e).E ρ σ).lift ρ).bind λv σ=>R.opt (JI σ v k x) λσ'=>.ok ρ σ'}
 |.idx e i=>{wB.ofE (λρ σ=>((nF e).E ρ σ).bind λc σ=>((nF i).E ρ σ).bind λi σ=>R.of (tL P σ c i) σ) with
   A:=λx ρ σ=>(((nF e).E ρ σ).lift ρ).bind λc σ=>(((nF i).E ρ σ).lift ρ).bind λi σ=>R.opt (yb σ c i x) λσ'=>.ok ρ σ'}
 |.upto e i=>.ofE λρ σ=>((nF e).E ρ σ).bind λc σ=>((nF i).E ρ σ).bind λi σ=>R.of (uB σ c i) σ
 |.bin op a b=>.ofE λρ σ=>((nF a).E ρ σ).bind λa σ=>((nF b).E ρ σ).bind λb σ=>R.of (wv P σ op a b) σ
 |.cmp op a b=>.ofT (λρ σ=>((nF a).E ρ σ).bind λa σ=>((nF b).E ρ σ).bind λb σ=>R.of ((Cs σ op a b).map .bool) σ)
   λρ σ=>((nF a).E ρ σ).bind λa σ=>((nF b).E ρ σ).bind λb σ=>R.of (Cs σ op a b) σ
 |.not a=>.ofT (λρ σ=>((nF a).E ρ σ).bind λv σ=>R.of ((pp v).map λb=>.bool !b) σ) λρ σ=>((nF a).T ρ σ).bind λb σ=>.ok (!b) σ
 |.and es=>.ofT (nF es).and (nF es).all
 |.or es=>.ofT (nF es).or (nF es).any
 |.ite c a b=>.ofT (λρ σ=>((nF c).T ρ σ).bind λt σ=>if t then (nF a).E ρ σ else (nF b).E ρ σ) λρ σ=>((nF c).T ρ σ).bind λt σ=>if t then (nF a).T ρ σ else (nF b).T ρ σ
 |.call f es=>.ofE λρ σ=>((nF es).L ρ σ).bind λl σ=>C f l σ
 |.meth e k es=>.ofE λρ σ=>((nF e).E ρ σ).bind λv σ=>R.opt (DH P σ v k) λf=>((nF es).L ρ σ).bind λl σ=>C f (v::l) σ
 |.bi b e=>.ofE λρ σ=>gd ((q&&b.loud)=false) (((nF e).E ρ σ).bind λv σ=>DX σ b v)
 |.bm m e es=>.ofE λρ σ=>((nF e).E ρ σ).bind λv σ=>gd (HB σ m v) (((nF es).L ρ σ).bind λl σ=>xU σ m v l)
 |.new c=>.ofE λZ σ=>R.opt (P.init c) λf=>(C f [.obj (σ.length+1)] (σ++[.dict [],.inst c σ.length])).bind λr σ'=>Oy (σ.length+1) r σ'
 |.sset a b=>.ofE λρ σ=>gd (q=false) (((nF a).E ρ σ).bind λa σ=>((nF b).E ρ σ).bind λb σ=>uF a b σ)
 |.inEach T8 _=>.ofE λρ σ=>gd (q=false) (((nF T8).E ρ σ).bind Af)
 |.fstr n es=>.ofE λρ σ=>((nF es).F ρ σ).bind λk σ=>gd (n+k<=ni) (.ok (.txt (n+k)) σ)
 |.comp t T8 cond Uv=>.ofE λρ σ=>gd (q=false) (((nF T8).I ρ σ).bind λit σ=>
   (loopC it (λv σ=>R.opt (qo t v ρ) λρ'=>((nF cond).T ρ' σ).bind λb σ=>if b then ((nF Uv).E ρ' σ).bind λx σ=>.ok (some x) σ else .ok none σ) (it.fuel σ) 0 [] σ).bind λl σ=>.ok (.lst l) σ)
 |.rng es=>.ofI λρ σ=>((nF es).L ρ σ).bind xZ
 |.enum e=>.ofI λρ σ=>((nF e).E ρ σ).bind λv σ=>R.of ((pQ v).map λl=>.items (uT l)) σ
 |.zip a b=>.ofI λρ σ=>((nF a).E ρ σ).bind λa σ=>((nF b).E ρ σ).bind λb σ=>FX a b σ
noncomputable def dE(e:MX):mQ->St->R Unit V:=(nF P q C e).E
noncomputable def dT(e:MX):mQ->St->R Unit Bool:=(nF P q C e).T
noncomputable def dL(e:MX):mQ->St->R Unit (List V):=(nF P q C e).L
noncomputable def dF(e:MX):mQ->St->R Unit Nat:=(nF P q C e).F
noncomputable def R9(e:MX):mQ->St->R Unit V:=(nF P q C e).and
noncomputable def TF(e:MX):mQ->St->R Unit V:=(nF P q C e).or
noncomputable def R8(e:MX):mQ->St->R Unit Bool:=(nF P q C e).all
noncomputable def Sa(e:MX):mQ->St->R Unit Bool:=(nF P q C e).any
noncomputable def dI(e:MX):mQ->St->R Unit It:=(nF P q C e).I
noncomputable def dA(e:MX):V->mQ->St->R mQ mQ:=(nF P q C e).A
noncomputable def S9(e:MX):List V->mQ->St->R mQ mQ:=(nF P q C e).As
end
noncomputable def AY:Nat:=10000
noncomputable def MD:V->Bool
 |.sym _=>true
 |.txt _=>true
 |_=>false
noncomputable def isInt:V->Bool
 |.int _=>true
 |_=>false
noncomputable def R.fin{ε Us α β:Type}(r:R ε α)(f:α->St->R Us β)(g:ε->St->R Us β):R Us β:=match r with
 |.ok a σ=>f a σ
 |.exc e σ=>g e σ
 |.bad=>.bad
noncomputable def vz(r:R mQ (Fl×mQ))(k:mQ->St->R mQ (Fl×mQ)):R mQ (Fl×mQ):=match r with
 |.ok p σ=>match p.1 with
  |.next=>k p.2 σ
  |.ret _=>.bad
 |_=>.bad
noncomputable def dS(P:Pg)(C:Bool->Call):Bool->MS->mQ->St->R mQ (Fl×mQ)
 |_,.skip,ρ,σ=>.ok (.next,ρ) σ
 |q,.seq a b,ρ,σ=>(dS P C q a ρ σ).bind (after (dS P C q b))
 |q,.expr e,ρ,σ=>((dE P q (C q) e ρ σ).lift ρ).bind λZ σ=>.ok (.next,ρ) σ
 |q,.asg t e,ρ,σ=>((dE P q (C q) e ρ σ).lift ρ).bind λv σ=>(dA P q (C q) t v ρ σ).bind λρ σ=>.ok (.next,ρ) σ
 |q,.ret e,ρ,σ=>((dE P q (C q) e ρ σ).lift ρ).bind λv σ=>.ok (.ret v,ρ) σ
 |q,.iff c a b,ρ,σ=>((dT P q (C q) c ρ σ).lift ρ).bind λt σ=>if t then dS P C q a ρ σ else dS P C q b ρ σ
 |q,.whl c b,ρ,σ=>gd (q=false) (loopW (dT P q (C q) c) (dS P C q b) AY ρ σ)
 |q,.for t it b,ρ,σ=>gd (q=false) (((dI P q (C q) it ρ σ).lift ρ).bind λi σ=>
   loopS i (λv ρ σ=>R.opt (qo t v ρ) λρ'=>dS P C q b ρ' σ) (i.fuel σ) 0 ρ σ)
 |q,.raise a b,ρ,σ=>gd (q=false) (((dE P q (C q) a ρ σ).lift ρ).bind λv σ=>((dE P q (C q) b ρ σ).lift ρ).bind λx σ=>
   gd (MD v&&isInt x) (.exc ρ σ))
 |q,.tryf b f,ρ,σ=>gd (q=false) ((dS P C q b ρ σ).fin (λp σ=>vz (dS P C q f p.2 σ) λρ σ=>.ok (p.1,ρ) σ) λρ σ=>vz (dS P C true f ρ σ) λρ σ=>.exc ρ σ)
 |q,.tryx b h,ρ,σ=>gd (q=false) ((dS P C q b ρ σ).fin (λp σ=>.ok p σ) λρ σ=>(dS P C true h ρ σ).fin (λp σ=>.ok p σ) λZ Z=>.bad)
 |_,.hole,_,_=>.bad
noncomputable def ended(r:R mQ (Fl×mQ)):R Unit V:=match r with
 |.ok p σ=>.ok (match p.1 with | .ret v=>v | .next=>.none) σ
 |.exc _ σ=>.exc () σ
 |.bad=>.bad
noncomputable def qX(F:C6)(args:List V):mQ:=args.map some++ch (F.slots - F.params) none
noncomputable def oP(P:Pg):Nat->Bool->Call
 |0,_,_,_,_=>.bad
 |d+1,q,f,args,σ=>R.opt (P.fn f) λF=>gd (args.length=F.params) (ended (dS P (oP P d) q F.body (qX F args) σ))
variable {it U0:It}
theorem m9(h:aB):h.get? h.objs.size=none:=by
 cases q:h.get? h.objs.size with
 |none=>rfl
 |some o=>exact absurd (aX q) (fP _)
theorem qZ.push(X:List ai)(h:aB)(o:eT):qZ X h (h.push o):=
 ⟨λb o' e=>⟨o',aj _ e⟩,λb o' e Z=>⟨o'.slots,aj _ e,λZ=>rfl⟩⟩
theorem qZ.of_keeps(k:∀b o,h.get? b=some o->h'.get? b=some o):qZ X h h':=
 ⟨λb o' e=>⟨o',k b o' e⟩,λb o' e Z=>⟨o'.slots,k b o' e,λZ=>rfl⟩⟩
section
variable {s:ag}
theorem Inv.keeps(i:Inv W φ σ h)(k:∀b o,h.get? b=some o->h'.get? b=some o):Inv W φ σ h':=
 i.evo (X:=[]) (qZ.of_keeps k) (Apart.nil _ _ _) (λZ Z hm=>nomatch hm) λb o e=>k b o (i.base b o e)
theorem Good.keeps(i:Inv W φ σ s.heap){t:Nat}(k:∀b o,s.heap.get? b=some o->h'.get? b=some o):Good W own φ s σ φ {s with heap:=h',toks:=t}:=
 ⟨.refl _ _,.of_keeps k,i.keeps k,rfl,rfl⟩
theorem Good.push(i:Inv W φ σ s.heap)(o:eT):Good W own φ s σ φ {s with heap:=s.heap.push o}:=
 ⟨.refl _ _,.push _ _ _,i.keeps λZ Z e=>aj _ e,rfl,rfl⟩
theorem Good.tok(i:Inv W φ σ s.heap){t:Nat}:Good W own φ s σ φ {s with toks:=t}:=
 ⟨.refl _ _,.refl _ _,i,rfl,rfl⟩
theorem nO{l:List α}{n:Nat}{a:α}(e:l[n]?=some a):n < l.length:=by
 rcases bE n l.length with hl | hl
 .exact hl
 .rw[bx hl] at e;cases e
theorem Good.alloc(i:Inv W φ σ s.heap)(o:eT)(o':O)(hf:o.isFreed=false)(hr:qm W (φ++[s.heap.objs.size]) (s.heap.push o) o' s.heap.objs.size):Good W own φ s (σ++[o']) (φ++[s.heap.objs.size]) {s with heap:=s.heap.push o}:=by
 have hn:=m9 s.heap;have g:Grows s.heap φ (φ++[s.heap.objs.size]):=.one _ _ hn;refine⟨g,.push _ _ _,⟨λb Xj e=>aj _ (i.base b Xj e),by simp [i.len],?_,?_,λa ha=>let ⟨o,e⟩:=i.hid a ha;⟨o,aj _ e⟩,?_⟩,rfl,rfl⟩
 .refine d6.mpr ⟨i.nodup,by simp,?_⟩;intro a ha b hb e;rw[am.mp hb] at e;obtain ⟨n,U1,e'⟩:=eO ha;have hσ:n < σ.length:=i.len▸U1;have r:=i.rep n σ[n] a (au hσ) (by rw[au U1,e'])
  have:∃o,s.heap.get? a=some o:=by
   cases hq:σ[n] with
   |list l=>rw[hq] at r;refine mU r λZ Z Z e Z=>?_;exact⟨_,e⟩
   |dict l=>rw[hq] at r;refine mO r λZ UJ Z=>?_;obtain ⟨_,_,_,e,_⟩:=UJ;exact⟨_,e⟩
   |inst c d=>rw[hq] at r;refine mO r λZ Z e=>?_;exact⟨_,e⟩
  refine m4 this λo Vc=>?_;rw[e,hn] at Vc;cases Vc
 .intro a ha
  rcases aG.mp ha with ha | ha
  .exact i.new a ha
  .rw[am.mp ha]
   cases q:W.base.get? s.heap.objs.size with
   |none=>rfl
   |some o=>rw[i.base _ _ q] at hn;cases hn
 .intro n UC a e1 e2
  rcases bE n σ.length with hl | hl
  .rw[ay hl] at e1;rw[ay (i.len.symm▸hl)] at e2;have ha:a∈φ:=aF e2;exact (i.rep n UC a e1 e2).evo (X:=[]) (.push _ _ _) (Apart.nil _ _ _) g (λhm=>nomatch hm)
  .obtain ⟨rfl,rfl⟩:=u1 hl e1;obtain ⟨_,rfl⟩:=u1 (dv i.len) e2;exact hr
theorem Good.allocAt(i:Inv W φ σ s.heap)(o':O){a:ai}{t:Nat}(ha:s.heap.get? a=none)(k:∀b o,s.heap.get? b=some o->h'.get? b=some o)(hr:qm W (φ++[a]) h' o' a):Good W own φ s (σ++[o']) (φ++[a]) {s with heap:=h',toks:=t}:=by
 have g:Grows s.heap φ (φ++[a]):=.one _ _ ha;refine⟨g,.of_keeps k,⟨λb Xj e=>k b _ (i.base b Xj e),by simp [i.len],?_,?_,λa ha=>let ⟨o,e⟩:=i.hid a ha;⟨o,k _ _ e⟩,?_⟩,rfl,rfl⟩
 .refine d6.mpr ⟨i.nodup,by simp,?_⟩;intro c hc b hb e;rw[am.mp hb] at e;obtain ⟨n,U1,e'⟩:=eO hc;have hσ:n < σ.length:=i.len▸U1;have r:=i.rep n σ[n] c (au hσ) (by rw[au U1,e'])
  have:∃o,s.heap.get? c=some o:=by
   cases hq:σ[n] with
   |list l=>rw[hq] at r;refine mU r λZ Z Z e Z=>?_;exact⟨_,e⟩
   |dict l=>rw[hq] at r;refine mO r λZ UJ Z=>?_;obtain ⟨_,_,_,e,_⟩:=UJ;exact⟨_,e⟩
   |inst c d=>rw[hq] at r;refine mO r λZ Z e=>?_;exact⟨_,e⟩
  refine m4 this λo Vc=>?_;rw[e,ha] at Vc;cases Vc
 .intro c hc
  rcases aG.mp hc with hc | hc
  .exact i.new c hc
  .rw[am.mp hc]
   cases q:W.base.get? a with
   |none=>rfl
   |some o=>rw[i.base _ _ q] at ha;cases ha
 .intro n UC c e1 e2
  rcases bE n σ.length with hl | hl
  .rw[ay hl] at e1;rw[ay (i.len.symm▸hl)] at e2;exact (i.rep n UC c e1 e2).evo (X:=[]) (.of_keeps k) (Apart.nil _ _ _) g (λhm=>nomatch hm)
  .obtain ⟨rfl,rfl⟩:=u1 hl e1;obtain ⟨_,rfl⟩:=u1 (dv i.len) e2;exact hr
theorem Good.set(i:Inv W φ σ s.heap){n:Nat}{a:ai}{UO o':O}{t:Nat}(hn:σ[n]?=some UO)(ha:φ[n]?=some a)(hs:bf a s.heap h')(hx:∃o,h'.get? a=some o)(hr:qm W φ h' o' a):Good W own φ s (σ.set n o') φ {s with heap:=h',toks:=t}:=by
 have ham:a∈φ:=aF ha;have k:∀b o,b≠a->s.heap.get? b=some o->h'.get? b=some o:=λb o hb e=>(hs.2 b hb).trans e
 have x:qZ [a] s.heap h':=by
  refine⟨λb o e=>?_,λb o e hb=>⟨o.slots,k b o (by simpa using hb) e,λZ=>rfl⟩⟩
  by_cases hb:b=a
  .subst hb;exact hx
  .exact⟨o,k b o hb e⟩
 have ap:Apart W φ [a] s.heap:=λb hb Yx=>absurd (am.mp hb▸ham) Yx;refine⟨.refl _ _,x.mono λb hb=>bR _ (am.mp hb▸ham),⟨λb o e=>k b o ?_ (i.base b o e),by simp [i.len],i.nodup,i.new,λb hb=>let ⟨o,e⟩:=i.hid b hb;x.there b o e,?_⟩,rfl,rfl⟩
 .rintro rfl
  rw[i.new b ham] at e;cases e
 .intro m UC b e1 e2
  by_cases hm:m=n
  .subst hm;rw[ha] at e2;cases e2;rw[bh (nO hn)] at e1;cases e1;exact hr
  .rw[bl (eZ hm)] at e1
   have hb:b≠a:=by
    rintro rfl
    exact hm ((fo (nO e2) i.nodup).mp (e2.trans ha.symm))
   exact (i.rep m UC b e1 e2).evo x ap (.refl _ _) (by simpa using hb)
theorem r8{a:ai}(ham:a∈φ)(hs:bf a s.heap h')(hx:∃o,h'.get? a=some o):qZ [a] s.heap h'/\Apart W φ [a] s.heap:=by
 refine⟨⟨λb o e=>?_,λb o e hb=>⟨o.slots,(hs.2 b (by simpa using hb)).trans e,λZ=>rfl⟩⟩,λb hb Yx=>absurd (am.mp hb▸ham) Yx⟩
 by_cases hb:b=a
 .subst hb;exact hx
 .exact⟨o,(hs.2 b hb).trans e⟩
end
theorem n5{n:Nat}(h:n<=ni):n<=bp:=by rw[cu];unfold ni at h;omega
section
variable {W:Wd}{φ:List ai}{h:aB}
theorem nf.length:∀{xs:List af},nf W φ h l xs->xs.length=l.length:=by
 induction l with
 |nil=>intro xs r;exact congrArg je r
 |cons v l ih=>intro xs r;refine mU r λx ys e Z r=>?_;rw[e];exact congrArg ji (ih r)
theorem nf.get:∀{xs:List af} {n:Nat} {v:V},nf W φ h l xs->l[n]?=some v->∃x,xs[n]?=some x/\mT W φ h v x:=by
 induction l with
 |nil=>intro xs n v r e;exact mV (List.getElem?_nil.symm.trans e)
 |cons u l ih=>
  intro xs n v r e;obtain ⟨x,ys,rfl,ru,r⟩:=r
  cases n with
  |zero=>exact⟨x,rfl,(ae e:u=v)▸ru⟩
  |succ n=>exact ih (n:=n) r e
theorem nf.before{r:List V}(b:nf W φ h r ys):∀{xs:List af},nf W φ h l xs->nf W φ h (l++r) (xs++ys):=by
 induction l with
 |nil=>intro xs a;rw[show xs=[] from a];exact b
 |cons v l ih=>intro xs a;refine mU a λx zs e rv a=>?_;rw[e];exact⟨x,_,rfl,rv,ih a⟩
theorem nf.append{r:List V}(a:nf W φ h l xs)(b:nf W φ h r ys):nf W φ h (l++r) (xs++ys):=b.before a
theorem nf.one{v:V}{x:af}(r:mT W φ h v x):nf W φ h [v] [x]:=⟨x,[],rfl,r,rfl⟩
theorem nf.nil':nf W φ h [] []:=rfl
theorem nf.cons'{v:V}{x:af}(r:mT W φ h v x)(q:nf W φ h l xs):nf W φ h (v::l) (x::xs):=⟨x,xs,rfl,r,q⟩
theorem nf.uncons{v:V}(r:nf W φ h (v::l) xs):∃x ys,xs=x::ys/\mT W φ h v x/\nf W φ h l ys:=r
theorem nf.one_inv{v:V}(r:nf W φ h [v] ys):∃y,ys=[y]/\mT W φ h v y:=by
 refine mU r λy zs e rv e'=>?_;exact⟨y,e.trans (congrArg (y::·) e'),rv⟩
theorem nf.two_inv{u v:V}(r:nf W φ h [u,v] ys):∃x y,ys=[x,y]/\mT W φ h u x/\mT W φ h v y:=by
 refine mU r λx zs e ru r=>?_;refine mO r.one_inv λy e' rv=>?_;exact⟨x,y,e.trans (congrArg (x::·) e'),ru,rv⟩
theorem nf.take:∀{xs:List af} (n:Nat),nf W φ h l xs->nf W φ h (l.take n) (xs.take n):=by
 induction l with
 |nil=>intro xs n r;rw[show xs=[] from r];cases n<;>rfl
 |cons v l ih=>
  intro xs n r;refine mU r λx ys e a b=>?_;rw[e]
  cases n with
  |zero=>rfl
  |succ n=>exact⟨x,_,rfl,a,ih n b⟩
theorem nf.eraseIdx:∀{xs:List af} (n:Nat),nf W φ h l xs->nf W φ h (l.eraseIdx n) (xs.eraseIdx n):=by
 induction l with
 |nil=>intro xs n r;rw[show xs=[] from r];rfl
 |cons v l ih=>
  intro xs n r;refine mU r λx ys e a b=>?_;rw[e]
  cases n with
  |zero=>exact b
  |succ n=>exact⟨x,_,rfl,a,ih n b⟩
theorem n8.length{l:List (Nat×V)}:∀{xs:List (aI×af)},n8 W φ h l xs->xs.length=l.length:=by
 induction l with
 |nil=>intro xs r;exact congrArg je r
 |cons p l ih=>intro xs r;refine mZ r λs x ys e Z Z r=>?_;rw[e];exact congrArg ji (ih r)
theorem n8.cons'{k:Nat}{v:V}{l:List (Nat×V)}{s:aI}{x:af}{xs:List (aI×af)}(hk:W.S[k]?=some s)(rv:mT W φ h v x)(r:n8 W φ h l xs):n8 W φ h ((k,v)::l) ((s,x)::xs):=⟨s,x,xs,rfl,hk,rv,r⟩
theorem n8.nil':n8 W φ h [] []:=rfl
theorem FK(hS:W.S.Nodup){i:Nat}{s:aI}(hi:W.S[i]?=some s)(hj:W.S[j]?=some s):i=j:=
 (fo (nO hi) hS).mp (hi.trans hj.symm)
theorem yL(k':Nat)(v':V)(l:List (Nat×V))(k:Nat):qj ((k',v')::l) k=if k'=k then some v' else qj l k:=by
 unfold qj;rw[fY]
 by_cases e:k'=k
 .rw[if_pos e,show (k'==k)=true from beq_iff_eq.mpr e];rfl
 .rw[if_neg e,show (k'==k)=false from beq_eq_false_iff_ne.mpr e]
theorem AV(s':aI)(x:af)(ys:List (aI×af))(s:aI):gx ((s',x)::ys) s=if s'=s then some x else gx ys s:=by
 unfold gx;rw[fY]
 by_cases e:s'=s
 .rw[if_pos e,show decide (s'=s)=true from decide_eq_true e];rfl
 .rw[if_neg e,show decide (s'=s)=false from decide_eq_false e]
def RX(W:Wd)(φ:List ai)(h:aB):Option V->Option af->Prop
 |some v,o=>∃x,o=some x/\mT W φ h v x
 |none,o=>o=none
theorem n8.look(hS:W.S.Nodup){k:Nat}{s:aI}(hk:W.S[k]?=some s){l:List (Nat×V)}:∀{xs:List (aI×af)},n8 W φ h l xs->RX W φ h (qj l k) (gx xs s):=by
 induction l with
 |nil=>intro xs r;rw[show xs=[] from r];rfl
 |cons p l ih=>
  intro xs r;refine mZ r λs' x ys e hk' rv r=>?_;rw[e,yL,AV]
  by_cases e:p.1=k
  .rw[if_pos e,if_pos (ae (hk'.symm.trans (e▸hk)))];exact⟨x,rfl,rv⟩
  .rw[if_neg e,if_neg λq:s'=s=>e (FK hS hk' (q▸hk))];exact ih r
theorem n8.get(hS:W.S.Nodup){k:Nat}{s:aI}(hk:W.S[k]?=some s){l:List (Nat×V)}{xs:List (aI×af)}(r:n8 W φ h l xs){v:V}(e:qj l k=some v):∃x,gx xs s=some x/\mT W φ h v x:=by
 have:=r.look hS hk;rw[e] at this;exact this
theorem n8.getNone(hS:W.S.Nodup){k:Nat}{s:aI}(hk:W.S[k]?=some s){l:List (Nat×V)}{xs:List (aI×af)}(r:n8 W φ h l xs)(e:qj l k=none):gx xs s=none:=by
 have:=r.look hS hk;rw[e] at this;exact this
theorem Br(l:List (Nat×V))(k:Nat):(l.any λp=>p.1==k)=(qj l k).isSome:=by
 induction l with
 |nil=>rfl
 |cons p l ih=>
  rw[lX,yL,ih]
  by_cases e:p.1=k
  .rw[if_pos e,show (p.1==k)=true from beq_iff_eq.mpr e];rfl
  .rw[if_neg e,show (p.1==k)=false from beq_eq_false_iff_ne.mpr e];rfl
theorem n8.any(hS:W.S.Nodup){k:Nat}{s:aI}(hk:W.S[k]?=some s){l:List (Nat×V)}{xs:List (aI×af)}(r:n8 W φ h l xs):(l.any λp=>p.1==k)=(gx xs s).isSome:=by
 rw[Br];have:=r.look hS hk
 cases e:qj l k with
 |none=>rw[e] at this;rw[show gx xs s=none from this];rfl
 |some v=>rw[e] at this;refine mO this λx hx Z=>?_;rw[hx];rfl
theorem Gf(k':Nat)(v':V)(l:List (Nat×V))(k:Nat)(v:V):rW ((k',v')::l) k v=if k'=k then (k',v)::l else (k',v')::rW l k v:=by
 show (if (k'==k)=true then (k',v)::l else (k',v')::rW l k v)=_
 by_cases e:k'=k
 .rw[if_pos e,if_pos (beq_iff_eq.mpr e)]
 .rw[if_neg e,if_neg (λh=>e (beq_iff_eq.mp h))]
theorem CK{s:aI}{x:af}{ys:List (aI×af)}(hn:s∉ys.map (·.1)):fM ((s,y)::ys) s x=(s,x)::ys:=by
 have:=map_store_of_not_mem ys s x hn;simp [fM];exact this
theorem GV{s s':aI}{x:af}{ys:List (aI×af)}(hs:s'≠s):fM ((s',y)::ys) s x=(s',y)::fM ys s x:=by
 simp only[fM,lX,hs,decide_false,lR,ie,if_false]
 split<;>simp
theorem n8.set(hS:W.S.Nodup){k:Nat}{s:aI}(hk:W.S[k]?=some s){v:V}{x:af}(rv:mT W φ h v x){l:List (Nat×V)}:∀{xs:List (aI×af)},n8 W φ h l xs->(xs.map (·.1)).Nodup->n8 W φ h (rW l k v) (fM xs s x):=by
 induction l with
 |nil=>intro xs r _;rw[show xs=[] from r];exact .cons' hk rv .nil'
 |cons p l ih=>
  intro xs r hn;refine mZ r λs' y ys e hk' Vj r=>?_;rw[e] at hn ⊢;have U1:=bM.mp hn;rw[Gf]
  by_cases e:p.1=k
  .have hs:s'=s:=ae (hk'.symm.trans (e▸hk));rw[if_pos e,hs,CK (hs▸U1.1)];exact .cons' (hs▸hk') rv r
  .rw[if_neg e,GV λq:s'=s=>e (FK hS hk' (q▸hk))];exact .cons' hk' Vj (ih r U1.2)
end
section
variable {s:ag}
theorem qm.there{o:O}{a:ai}:qm W φ h o a->∃o,h.get? a=some o:=by
 cases o with
 |list l=>intro r;refine mU r λZ Z Z e Z=>?_;exact⟨_,e⟩
 |dict l=>intro r;refine mO r λZ UJ Z=>?_;obtain ⟨_,_,_,e,_⟩:=UJ;exact⟨_,e⟩
 |inst c d=>intro r;refine mO r λZ Z e=>?_;exact⟨_,e⟩
theorem Inv.here(i:Inv W φ σ h){a:ai}(ha:a∈φ):∃o,h.get? a=some o:=by
 obtain ⟨n,hn,e⟩:=eO ha;have hσ:n < σ.length:=i.len▸hn;exact (i.rep n σ[n] a (au hσ) (by rw[au hn,e])).there
theorem Inv.notin(i:Inv W φ σ h){a:ai}(ha:h.get? a=none):a∉φ/\a∉W.hid:=
 ⟨λhm=>(i.here hm).elim λZ e=>mV (ha.symm.trans e),λhm=>(i.hid _ hm).elim λZ e=>mV (ha.symm.trans e)⟩
theorem Inv.last(i:Inv W φ σ h)(a:ai):(φ++[a])[σ.length]?=some a:=by
 rw[<-i.len];exact d3
theorem Inv.size_notin(i:Inv W φ σ h):h.objs.size∉φ/\h.objs.size∉W.hid:=i.notin (m9 _)
theorem En(i:Inv W φ σ s.heap)(r:nf W φ s.heap l xs)(hl:l.length<=ni)(h:∀x s',Good W [] φ s σ φ s'->mT W φ s'.heap (.tup l) x->Q x s'):an W.M A (lL xs) Q E s:=by
 have g:=Good.push (own:=[]) i (qY xs 0);refine aZ (h _ _ g ?_) (by show xs.toArray.size<=bp;rw[aY,r.length];exact n5 hl);exact⟨_,xs,0,rfl,i.size_notin,by rw[r.length];exact n5 hl,ax _ rfl,g.repL r⟩
theorem CX(i:Inv W φ σ s.heap)(r:nf W φ s.heap l xs)(hl:l.length<=ni)(h:∀x s',Good W [] φ s σ φ s'->mT W φ s'.heap (.lst l) x->Q x s'):an W.M A (iN xs) Q E s:=by
 have g:=Good.push (own:=[]) i (pF xs 0);refine aZ (h _ _ g ?_) (by show xs.toArray.size<=bp;rw[aY,r.length];exact n5 hl);exact⟨_,xs,0,rfl,i.size_notin,by rw[r.length];exact n5 hl,ax _ rfl,g.repL r⟩
theorem G6(i:Inv W φ σ s.heap)(r:nf W φ s.heap l xs)(hl:l.length<=ni)(h:∀x s' TV,Good W [] φ s (σ++[.list l]) TV s'->mT W TV s'.heap (.obj σ.length) x->Q x s'):an W.M A (iN xs) Q E s:=by
 have hn:=m9 s.heap;have g:=Good.alloc (own:=[]) i (pF xs 0) (.list l) rfl ⟨xs,0,by rw[r.length];exact n5 hl,ax _ rfl,r.evo (X:=[]) (.push _ _ _) (Apart.nil _ _ _) (.one _ _ hn)⟩;refine aZ (h _ _ _ g ?_) (by show xs.toArray.size<=bp;rw[aY,r.length];exact n5 hl);exact⟨_,i.last _,rfl⟩
end
section
variable {W:Wd}{A:aH}{E:af->ag->Prop}{s:ag}{φ:List ai}{σ:St}{Q:af->ag->Prop}
def LstAt(W:Wd)(φ:List ai)(h:aB)(x:af)(l:List V):Prop:=∃a xs n,x=.ref a/\xs.length<=bp/\nf W φ h l xs/\h.get? a=some (pF xs n)
def SeqAt(W:Wd)(φ:List ai)(h:aB)(x:af)(l:List V):Prop:=∃a xs n,x=.ref a/\xs.length<=bp/\nf W φ h l xs/\(h.get? a=some (qY xs n)\/h.get? a=some (pF xs n))
def Ex(W:Wd)(φ:List ai)(h:aB)(x:af)(l:List (Nat×V)):Prop:=∃a kvs,x=.ref a/\n8 W φ h l kvs/\h.DictOf (strKind W.prog W.w) a kvs/\(a==dJ)=false
theorem LstAt.seq{x:af}(r:LstAt W φ h x l):SeqAt W φ h x l:=by
 refine mZ r λa xs n h1 h2 h3 h4=>?_;exact⟨a,xs,n,h1,h2,h3,.inr h4⟩
theorem xO(i:Inv W φ σ s.heap){v:V}{x:af}(r:mT W φ s.heap v x)(e:pV σ v=some l):LstAt W φ s.heap x l:=by
 refine mO (bs e) λn e1 e2=>?_;rw[nJ e1] at r;refine mO r λa ha h1=>?_;refine mU (i.rep n _ a (listAt_eq e2) ha) λxs m hz e r=>?_;exact⟨a,xs,m,h1,hz,r,e⟩
theorem sE(i:Inv W φ σ s.heap){v:V}{x:af}(r:mT W φ s.heap v x)(e:r4 σ v=some l):LstAt W φ s.heap x l:=by
 rcases m8 e with e | e
 .rw[u3 e] at r;refine nk r λa xs n h1 Z hz e r=>?_;exact⟨a,xs,n,h1,hz,r,e⟩
 .exact xO i r e
theorem tQ(i:Inv W φ σ s.heap){v:V}{x:af}(r:mT W φ s.heap v x)(e:sd σ v=some l):SeqAt W φ s.heap x l:=by
 rcases m8 e with e | e
 .rw[oy e] at r;refine nk r λa xs n h1 Z hz e r=>?_;exact⟨a,xs,n,h1,hz,r,.inl e⟩
 .exact (sE i r e).seq
theorem Lo(i:Inv W φ σ s.heap)(Uz:∃o,W.base.get? dJ=some o){a:ai}(ha:a∈φ):(a==dJ)=false:=by
 rw[beq_eq_false_iff_ne]
 rintro rfl
 refine m4 Uz λo ho=>?_;exact mV ((i.new _ ha).symm.trans ho)
theorem xN(Uz:∃o,W.base.get? dJ=some o)(i:Inv W φ σ s.heap){v:V}{x:af}{l:List (Nat×V)}(r:mT W φ s.heap v x)(e:sU σ v=some l):Ex W φ s.heap x l:=by
 refine mO (bs e) λn e1 e2=>?_;rw[nJ e1] at r;refine mO r λa ha h1=>?_;refine mO (i.rep n _ a (rD e2) ha) λkvs e r=>?_;exact⟨a,kvs,h1,r,e,Lo i Uz (aF ha)⟩
theorem qS(Uz:∃o,W.base.get? dJ=some o)(i:Inv W φ σ s.heap){v:V}{x:af}{l:List (Nat×V)}(r:mT W φ s.heap v x)(e:qr σ v=some l):Ex W φ s.heap x l:=by
 rcases m8 e with e | e
 .rw[wQ e] at r;refine vY r λa kvs h1 Z hs e r=>?_;exact⟨a,kvs,h1,r,e,beq_eq_false_iff_ne.mpr hs⟩
 .exact xN Uz i r e
theorem vw{i:Int}{n:Nat}(h0:0<=i)(h:i.toNat < n):ju i n=some i.toNat:=by
 have e:(if i < 0 then i+(n:Int) else i)=i:=if_neg (ly.mpr h0);unfold ju;rw[e];exact if_pos (bj.mpr ⟨decide_eq_true h0,decide_eq_true ((jY h0).mp h)⟩)
theorem seqIndex_neg{i:Int}{n:Nat}(h0:i < 0)(h1:0<=i+n):ju i n=some (i+n).toNat:=by
 have e:(if i < 0 then i+(n:Int) else i)=i+n:=if_pos h0;unfold ju;rw[e];exact if_pos (bj.mpr ⟨decide_eq_true h1,decide_eq_true (by omega)⟩)
def M4(W:Wd)(φ:List ai)(h:aB)(xs:List af)(i:Int)(v:V):Prop:=
 ∃k x,ju i xs.length=some k/\xs[k]?=some x/\mT W φ h v x/\(0<=i->k=i.toNat)/\(i < 0->-(xs.length:Int)<=i/\k=(i+xs.length).toNat)/\k < xs.length
theorem Hz{i:Int}{v:V}(r:nf W φ s.heap l xs)(e:Hf l i=some v):M4 W φ s.heap xs i v:=by
 have hl:=r.length
 by_cases h0:0<=i
 .refine mO (r.get ((if_pos h0).symm.trans e)) λx hx rx=>?_;have hk:=nO hx;exact⟨i.toNat,x,vw h0 hk,hx,rx,λZ=>rfl,λh=>absurd h0 (gI.mpr h),hk⟩
 .have e:=(if_neg h0).symm.trans e
  by_cases h1:0<=i+l.length
  .refine mO (r.get ((if_pos h1).symm.trans e)) λx hx rx=>?_;have hk:=nO hx;rw[<-hl] at h1 hx hk;exact⟨(i+xs.length).toNat,x,seqIndex_neg (gI.mp h0) h1,hx,rx,λh=>absurd h h0,λZ=>⟨by omega,rfl⟩,hk⟩
  .exact mV ((if_neg h1).symm.trans e)
theorem Kt{xs:List α}{y:α}(h:xs[j]?=some y):xs.toArray[j]?=some y:=(dY).trans h
theorem F3{i:Int}{n k:Nat}(hz:n<=bp)(h1:0<=i->k=i.toNat)(h2:i < 0->-(n:Int)<=i)(hlt:k < n):-2 ^ 63<=i/\i < 2 ^ 63:=by
 rw[cu] at hz
 rcases Int.lt_or_le i 0 with h | h
 .exact QH (bP (bP (by decide:(-100000000:Int)<=-(16777216:Nat)) (Int.neg_le_neg (gm.mpr hz))) (h2 h)) (bP (iF h) (by decide))
 .exact QH (bP (by decide) h) (bV h▸h1 h▸bP (gm.mpr (az (gr hlt) hz)) (by decide))
theorem Ph(i:Inv W φ σ s.heap){v:V}{x:af}(r:mT W φ s.heap v x)(e:sd σ v=some l){k:Int}{t:lP}{u:V}(hk:Hf l k=some u)(hs:∀a b,fj slice false a b=jr [a,b] (getItem a b))(h:∀y,mT W φ s.heap u y->Q y s):an W.M A (dQ value slice x (.int k t)) Q E s:=by
 refine mZ (tQ i r e) λa xs n Uc Yi rl ho=>?_;subst Uc;refine DO (Hz rl hk) λj y hj hy ry h1 h2 hlt=>?_;have hb:=F3 Yi h1 (λq=>(h2 q).1) hlt
 rcases ho with ho | ho
 .have hT:s.TypeIs (.ref a) "tuple" := ⟨_,ho,rfl⟩
  exact jn hT cZ.lookup (getItem_meets hT (by decide) cZ i3 (iE _ _)
   (MeetsSeq.tuple_getitem_at a xs.toArray n k t j y hb.1 hb.2 hj (Kt hy)) ⟨ho,h y ry⟩) (hs _ _)
 .have hl:s.heap.IsList a xs.toArray:=⟨_,ho,rfl,n,rfl⟩;refine jn ⟨_,ho,rfl⟩ jv.lookup ?_ (hs _ _)
  by_cases h0:0<=k
  .exact wpAny_getItem_list hl h0 hb.2 (Kt (h1 h0▸hy)) (h y ry)
  .have q:=h2 (gI.mp h0);exact wpAny_getItem_list_neg hl (gI.mp h0) q.1 hb.1 (Kt (q.2▸hy)) (h y ry)
theorem CD{lo up:Option aa}(a b:af):fj (.Slice lo up none pos) false a b=jr [b,a] (getItem a b):=rfl
structure ot(W:Wd)(P:Pg):Prop where
 nodup:W.S.Nodup
 order:W.S.Pairwise λa b=>fH a.cps.toList b.cps.toList=true
 strOk:∀s∈W.S,dD s=true
 sys:∃o,W.base.get? dJ=some o
 slenLe:∀k:Nat,P.slen k<=bp
 slen:∀(k:Nat) (s:aI),W.S[k]?=some s->s.length<=P.slen k
 pick:∀(a:Nat) (i:Int) (c:Nat) (s:aI),P.pick a i=some c->W.S[a]?=some s->0<=i/\i < 2 ^ 62/\(lC s i).isSome=true/\W.S[c]?=some (mH s i)
variable {P:Pg}
theorem Ej(ok:ot W P)(i:Inv W φ σ s.heap){v:V}{x:af}{l:List (Nat×V)}(r:mT W φ s.heap v x)(e:qr σ v=some l){k:Nat}(rk:mT W φ s.heap (.sym k) y){u:V}(hk:qj l k=some u)(hs:∀a b,fj slice false a b=jr [a,b] (getItem a b))(h:∀z t,mT W φ s.heap u z->Q z {s with toks:=t}):an W.M A (dQ value slice x y) Q E s:=by
 refine pN (qS ok.sys i r e) λa kvs Ua rd hd Z=>?_;subst Ua;refine nr rk λnm t hS Uc=>?_;subst Uc;refine mO (rd.get ok.nodup hS hk) λz hz rz=>?_;exact jn hd.typeIs F.slot_dict_getitem.lookup (wpAny_getItem_of (knd:=aC W.prog W.w) (k:=nm) (dH _ _ nm t) hd.mapOf hz (h z _ rz)) (hs _ _)
theorem Pl(ok:ot W P){a:Nat}{x:af}(r:mT W φ s.heap (.sym a) x){k:Int}{t:lP}(hc:P.pick a k=some c)(hs:∀a b,fj slice false a b=jr [a,b] (getItem a b))(h:∀z t,mT W φ s.heap (.sym c) z->Q z {s with toks:=t}):an W.M A (dQ value slice x (.int k t)) Q E s:=by
 refine nr r λnm u hS Uc=>?_;subst Uc;refine DM (ok.pick a k c nm hc hS) λh0 h1 h2 h3=>?_;have hT:s.TypeIs (.str nm u) "str" := typeIs_str s nm u;refine jn hT F.slot_str_getitem.lookup (SB.getItem (by unfold fitsSsize;simp;omega) h2 (h _ _ ?_)) (hs _ _);exact⟨_,_,h3,rfl⟩
theorem C7(k:Int)(t:lP):IsPart (.int k t) (some k):=.int k t
theorem KT(n:Nat){k:Int}(h0:k < 0):n - (-k).toNat=(k+(n:Int)).toNat:=by
 have e:((-k).toNat:Int)=-k:=bV (ib (iF h0));rw[<-Int.toNat_sub n (-k).toNat,e,Int.sub_neg,Int.add_comm]
theorem Lc(n:Nat)(k:Int):kms_hi (some k) n=wm n k:=by
 show (if k < 0 then n - (-k).toNat else min k.toNat n)=_;unfold wm
 by_cases h0:k < 0
 .rw[if_pos h0,if_neg (gI.mpr h0)];exact KT n h0
 .rw[if_neg h0,if_pos (ly.mp h0)]
theorem Ji(xs:List af)(k:Int):slicePick xs.toArray none (some k) none=(xs.take (wm xs.length k)).toArray:=by
 rw[kms_pick_eq];show (((xs.drop (kms_lo none xs.length)).take (kms_hi (some k) xs.length - kms_lo none xs.length))).toArray=_;rw[Lc,show kms_lo none xs.length=0 from rfl,List.drop_zero,Nat.sub_zero]
theorem Eo(i:Inv W φ σ s.heap){v:V}{x:af}(r:mT W φ s.heap v x)(e:r4 σ v=some l){k:Int}{t:lP}(hk:-1000000<=k/\k<=1000000)(Yo:s.heap.IsSliceOf sl .none (.int k t) .none)(hs:∀a b,fj slice false a b=jr [b,a] (getItem a b))(h:∀y s',Good W [] φ s σ φ s'->mT W φ s'.heap (.lst (l.take (wm l.length k))) y->Q y s'):an W.M A (dQ value slice x (.ref sl)) Q E s:=by
 refine mZ (sE i r e) λa xs n Uc hz rl ho=>?_;subst Uc;have g:=Good.push (own:=[]) i (pF (xs.take (wm xs.length k)) 0);refine jn ⟨_,ho,rfl⟩ jv.lookup (wpAny_getItem_list_slice ⟨_,ho,rfl,n,rfl⟩ Yo .none (C7 k t) .none (by decide) ?_ hz) (hs _ _);rw[Ji];rw[<-rl.length] at h;exact h _ _ g ⟨_,_,0,rfl,i.size_notin,az (List.length_take_le' _ _) hz,ax _ rfl,(g.repL rl).take (wm xs.length k)⟩
end
section
variable {s:ag}
theorem Bc(n:Nat):eH none (some (0:Int)) 1 (n:Int)=(0,0):=by
 unfold eH;simp;exact Int.min_eq_left (Int.natCast_nonneg n)
theorem vx{n:Nat}{u:lP}{Q:Int×Int×Nat->ag->Prop}(hs:s.heap.IsSliceOf sl .none (.int 0 u) .none)(h:Q (0,1,0) s):
  an (aO prog w) A (gB (.ref sl) (pure (n:Int))) Q E s:=by
 refine nP (id hs) λos Vk Zb X2=>?_;unfold gB lN;refine ac (ac (a8 Vk X2 (x:=.none) rfl (ac (a8 Vk X2 (x:=.int 0 u) rfl (ac (a8 Vk X2 (x:=.none) rfl (al ?_)))))));refine ac (slicePart_none ?_);show an _ _ (if ((1:Int)==0)=true then _ else _) _ _ s;rw[if_neg (by decide)];refine ac (slicePart_none (ac (slicePart_int (ac (al ?_)))));show an _ _ (match eH none (some (0:Int)) 1 (n:Int) with | (lo,hi)=>pure (lo,(1:Int),lO lo hi 1)) _ _ s;rw[Bc];exact al h
theorem uo{t:ai}{u:lP}(ht:IsTup s.heap t items)(hs:s.heap.IsSliceOf sl .none (.int 0 u) .none)(h1:0 < items.size)(h:Q (.ref s.heap.objs.size) {s with heap:=s.heap.push {cls:=.type "tuple",data:=.seq #[]}}):an (aO prog w) A (getItem (.ref t) (.ref sl)) Q E s:=by
 refine nP (id hs) λos Vk Zb X2=>?_;have hTs:s.TypeIs (.ref sl) "slice" := ⟨os,Vk,Zb⟩;unfold getItem
 try with_reducible refine aK ?_
 first | refine ac (al ?_) | skip
 refine ac (wpAny_sequenceKey ht.typeIs (by decide) ?_)
 refine ac (bt (name:=bw "__getitem__") ht.typeIs cZ
  (a9 cZ ht.typeIs i3 ?_ (iE _ _)))
 show an _ _ (ls (.ref t) >>= _) _ _ s;refine ac (tupleItemsOf_ ht ?_);refine ac (iR hTs ?_);rw[if_pos (by decide)];refine ac (vx hs ?_)
 have hno:¬(((0:Int)==0&&(1:Int)==1&&(0==items.size))=true):=by
  rw[show (0==items.size)=false from beq_eq_false_iff_ne.mpr (aS h1)];decide
 show an _ _ (if ((0:Int)==0&&(1:Int)==1&&(0==items.size))=true then _ else _) _ _ s;rw[if_neg hno]
 have hz:sizeOk (.seq (#[]:Array af)):=by show (#[]:Array af).size<=bp;simp
 first
  |exact ac (m:=c8 _) (aZ (al ⟨_,rfl,al h⟩) hz)
  |exact ac (m:=c8 _) (aZ (ac (al (al ⟨_,rfl,al h⟩))) hz)
  |exact ac (ac (m:=c8 _) (aZ (al (al ⟨_,rfl,al h⟩)) hz))
  |exact ac (ac (m:=c8 _) (aZ (al ⟨_,rfl,al h⟩) hz))
end
section
variable {s:ag}{P:Pg}
theorem C0(i:Inv W φ σ s.heap){x:af}(r:mT W φ s.heap (.tup l) x)(hl:0 < l.length){t:lP}(Yo:s.heap.IsSliceOf sl .none (.int 0 t) .none)(hs:∀a b,fj slice false a b=jr [b,a] (getItem a b))(h:∀y s',Good W [] φ s σ φ s'->mT W φ s'.heap (.tup []) y->Q y s'):an W.M A (dQ value slice x (.ref sl)) Q E s:=by
 refine nk r λa xs n Uc Z hz ho rl=>?_;subst Uc;have hT:s.TypeIs (.ref a) "tuple" := ⟨_,ho,rfl⟩;have ht:IsTup s.heap a xs.toArray:=⟨_,ho,rfl,n,rfl⟩;have g:=Good.push (own:=[]) i (qY [] 0);refine jn hT cZ.lookup (uo ht Yo (by rw[aY,rl.length];exact hl) (h _ _ g ?_)) (hs _ _);exact⟨_,[],0,rfl,i.size_notin,bc _,ax _ rfl,.nil'⟩
theorem Aj(i:Inv W φ σ s.heap){n:Int}(h:∀y s',Good W [] φ s σ φ s'->mT W φ s'.heap (.int n) y->Q y s'):Q (.int n s.toks) {s with toks:=s.toks+1}:=
 h _ _ (Good.tok i) (⟨_,rfl⟩)
theorem JZ(i:Inv W φ σ s.heap){a b v:V}{x:af}(ra:mT W φ s.heap a x)(rb:mT W φ s.heap b y)(e:Ht a b=some v)(h:∀z s',Good W [] φ s σ φ s'->mT W φ s'.heap v z->Q z s'):an W.M A (ft .Add x y) Q E s:=by
 refine mO (bs e) λp ea e=>?_;refine mO (ms e) λq eb Ua=>?_;subst Ua;rw[nS ea] at ra;rw[nS eb] at rb;refine m4 ra λt T6=>?_;subst T6;refine m4 rb λu T6=>?_;subst T6;exact add_int (Aj i h)
theorem Kb(i:Inv W φ σ s.heap){a b v:V}{x:af}(ra:mT W φ s.heap a x)(rb:mT W φ s.heap b y)(e:((nI a).bind λi=>(nI b).map λj=>V.int (i - j))=some v)(h:∀z s',Good W [] φ s σ φ s'->mT W φ s'.heap v z->Q z s'):an W.M A (ft .Sub x y) Q E s:=by
 refine mO (bs e) λp ea e=>?_;refine mO (ms e) λq eb Ua=>?_;subst Ua;rw[nS ea] at ra;rw[nS eb] at rb;refine m4 ra λt T6=>?_;subst T6;refine m4 rb λu T6=>?_;subst T6;exact sub_int (Aj i h)
theorem J7(i:Inv W φ σ s.heap){a b v:V}{x:af}(ra:mT W φ s.heap a x)(rb:mT W φ s.heap b y)(e:IF a b=some v)(h:∀z s',Good W [] φ s σ φ s'->mT W φ s'.heap v z->Q z s'):an W.M A (ft .Mult x y) Q E s:=by
 refine mO (bs e) λp ea e=>?_;refine mO (bs e) λq eb e=>?_;refine nE (nu e) λhb T6=>?_;subst T6;rw[nS ea] at ra;rw[nS eb] at rb;refine m4 ra λt T6=>?_;subst T6;refine m4 rb λu T6=>?_;subst T6;exact mul_int (Aj i h) (IntMulOk.of_left (intBits_le_64 (bP (by decide) hb.1) (jJ hb.2 (by decide))))
theorem J6(i:Inv W φ σ s.heap){a b v:V}{x:af}(ra:mT W φ s.heap a x)(rb:mT W φ s.heap b y)(e:((nI a).bind λi=>(nI b).bind λj=>og (0 < j) (V.int (i % j)))=some v)(h:∀z s',Good W [] φ s σ φ s'->mT W φ s'.heap v z->Q z s'):an W.M A (ft .Mod x y) Q E s:=by
 refine mO (bs e) λp ea e=>?_;refine mO (bs e) λq eb e=>?_;refine nE (nu e) λhb T6=>?_;subst T6;rw[nS ea] at ra;rw[nS eb] at rb;refine m4 ra λt T6=>?_;subst T6;refine m4 rb λu T6=>?_;subst T6;exact mod_int (jX hb) (Aj i (by rw[Int.fmod_eq_emod_of_nonneg p (iF hb)];exact h))
end
def rI(h:aB)(L:ai):Prop:=∃o es ep,h.get? L=some o/\o.cls=.type "frame" /\ o.data=.dict es ep
noncomputable def tg(W:Wd)(φ:List ai)(h:aB):List d9->Prop
 |[]=>True
 |env::r=>env.scope.kind≠.module/\(∃L,env.frame=some L/\L∉φ/\W.base.get? L=none/\rI h L)/\tg W φ h r
noncomputable def oQ(l:List d9):List ai:=l.filterMap (·.frame)
theorem tg.mem{l:List d9}:tg W φ h l->∀{b:ai},b∈oQ l->b∉φ/\W.base.get? b=none/\rI h b:=by
 induction l with
 |nil=>exact λZ b hb=>nomatch hb
 |cons env r ih=>
  intro x b hb;refine sH x λZ UJ hr=>?_;obtain ⟨L,hf,hn,hb',ha⟩:=UJ;rw[oQ,da,hf] at hb
  rcases aA.mp hb with e | hb
  .rw[e];exact⟨hn,hb',ha⟩
  .exact ih hr hb
theorem tg.fun{l:List d9}:tg W φ h l->h.FunFrames {} l:=by
 induction l with
 |nil=>exact λZ=>trivial
 |cons env r ih=>
  intro x;refine sH x λhk UJ hr=>?_;obtain ⟨L,hf,hn,hb',o,es,ep,ho,hc,hd⟩:=UJ;exact⟨hk,⟨L,o,hf,rfl,ho,λvs q=>nomatch hd.symm.trans q⟩,ih hr⟩
structure Kept(X F:List ai)(h h':aB):Prop where
 there:∀b o,h.get? b=some o->∃o',h'.get? b=some o'
 keep:∀b o,b∉X->h.get? b=some o->∃sl,h'.get? b=some {o with slots:=sl}/\(b∉F->sl=o.slots)
theorem Kept.refl(X F:List ai)(h:aB):Kept X F h h:=⟨λb o e=>⟨o,e⟩,λb o Z e=>⟨o.slots,e,λZ=>rfl⟩⟩
theorem Kept.trans{UE:aB}(x:Kept X F h h')(y:Kept Y F h' UE):Kept (X++Y) F h UE:=by
 refine⟨λb o e=>?_,λb o hb e=>?_⟩
 .refine m4 (x.there b o e) λo' e'=>?_;exact y.there b o' e'
 .refine mO (x.keep b o (λhm=>hb (bR _ hm)) e) λsl e' q=>?_;refine mO (y.keep b _ (λhm=>hb (cw _ hm)) e') λXe Vc q'=>?_;exact⟨Xe,Vc,λhF=>(q' hF).trans (q hF)⟩
theorem Kept.frAt(x:Kept X F h h')(a:rI h L)(hX:L∉X):rI h' L:=by
 refine pO a λo es ep e c d=>?_;refine mO (x.keep L o hX e) λsl e' Z=>?_;exact⟨_,es,ep,e',c,d⟩
structure R0 where
 oe:eT
 vs:Array af
 a0:af
 T:ai
 oT:eT
 ts:Array af
structure PG(W:Wd)(TY h:aB)(fl:af)(e:ai)(d:R0):Prop where
 h0:TY.get? e=none
 he:h.get? e=some d.oe
 hc:d.oe.cls=.ref W.exc
 hd:d.oe.data=.fields d.vs
 v0:d.vs[0]?=some d.a0
 v1:d.vs[1]?=some (.ref d.T)
 ne:d.T≠e
 t0:TY.get? d.T=none
 hT:h.get? d.T=some d.oT
 dT:d.oT.data=.fields d.ts
 t3:d.ts[3]?=some fl
def oo(W:Wd)(TY:aB)(fl:af)(e:ai)(h:aB):Prop:=∃d,PG W TY h fl e d
structure M1(W:Wd)(TY:aB)(e:ai)(h:aB):Prop where
 h0:TY.get? e=none
 ex:∃oe vs a0,h.get? e=some oe/\oe.cls=.ref W.exc/\oe.data=.fields vs/\vs[0]?=some a0/\vs[1]?=some .none
def oO(W:Wd)(TY:aB)(own:Option ai)(e:ai)(h:aB):Prop:=M1 W TY e h\/∃fl,oo W TY fl e h/\(fl=.none\/∃L,own=some L/\fl=bH L)
theorem oo.held{e:ai}(x:oo W TY (bH L) e h):oO W TY (some L) e h:=.inr ⟨_,x,.inr ⟨L,rfl,rfl⟩⟩
theorem oo.flying{own:Option ai}{e:ai}(x:oo W TY .none e h):oO W TY own e h:=.inr ⟨_,x,.inl rfl⟩
theorem oo.born{e:ai}(x:oo W T1 fl e h)(hn:∀b,T1.get? b=none->TY.get? b=none):oo W TY fl e h:=by
 refine m4 x λd x=>?_;exact⟨d,hn _ x.h0,x.he,x.hc,x.hd,x.v0,x.v1,x.ne,hn _ x.t0,x.hT,x.dT,x.t3⟩
theorem oO.born{own:Option ai}{e:ai}(x:oO W T1 own e h)(hn:∀b,T1.get? b=none->TY.get? b=none):oO W TY own e h:=by
 rcases x with x | ⟨fl,x,y⟩
 .exact .inl ⟨hn _ x.h0,x.ex⟩
 .exact .inr ⟨fl,x.born hn,y⟩
structure yr(TY:aB)(F:List ai)(h h':aB):Prop where
 X:∃X,(∀b∈X,TY.get? b=none/\∀o,h.get? b=some o->∃vs,o.data=.fields vs)/\Kept X F h h'
theorem yr.fields_trans{UE:aB}(x:yr TY F h h')(y:yr TY F h' UE):yr TY F h UE:=by
 refine mO x.X λX hX kx=>?_;refine mO y.X λY hY ky=>?_;refine⟨X++Y,λb hb=>?_,kx.trans ky⟩
 rcases aG.mp hb with hb | hb
 .exact hX b hb
 .refine⟨(hY b hb).1,λo e=>?_⟩
  by_cases hm:b∈X
  .exact (hX b hm).2 o e
  .refine mO (kx.keep b o hm e) λsl e' Z=>?_;refine m4 ((hY b hb).2 _ e') λvs hv=>?_;exact⟨vs,hv⟩
theorem yr.frAt(x:yr TY F h h')(a:rI h L):rI h' L:=by
 refine mO x.X λX hX kx=>?_;refine kx.frAt a λhm=>?_;refine pO a λo es ep e Z d=>?_;refine m4 ((hX L hm).2 o e) λvs q=>?_;rw[d] at q;cases q
theorem tg.map{l:List d9}:(∀L,L∈oQ l->L∉φ->W.base.get? L=none->rI h L->L∉TV/\W'.base.get? L=none/\rI h' L)->tg W φ h l->tg W' TV h' l:=by
 induction l with
 |nil=>exact λZ Z=>trivial
 |cons env r ih=>
  intro k H
  have e1:∀{b},env.frame=some b->b∈oQ (env::r):=λhf=>by rw[oQ,da,hf];exact ah
  exact⟨H.1,n9 H.2.1 λL hf hn hb a=>⟨L,hf,k L (e1 hf) hn hb a⟩,ih (λL hm=>k L (cQ.mpr ((cQ.mp hm).imp λe he=>⟨ao _ he.1,he.2⟩))) H.2.2⟩
theorem yr.frs(x:yr TY F h h'){l:List d9}:tg W φ h l->tg W φ h' l:=tg.map λL Z hn hb a=>⟨hn,hb,x.frAt a⟩
section
variable {W:Wd}{own φ TV:List ai}{σ σ':St}{s₀ s:ag}
theorem yr.evo(x:yr TY F h h')(hF:∀b∈F,rI h b)(hb:W.base.StaysIn TY):∃X,qZ X h h'/\Apart W φ X h/\(∀b∈X,TY.get? b=none/\∀o,h.get? b=some o->∃vs,o.data=.fields vs):=by
 refine mO x.X λX hX kx=>?_
 have hbX:∀b∈X,W.base.get? b=none:=λb hm=>by
  cases q:W.base.get? b with
  |none=>rfl
  |some o=>have:=hb b o q;rw[(hX b hm).1] at this;cases this
 refine⟨X,⟨λb o e=>?_,λb o e hn=>?_⟩,λb hm Z=>⟨hbX b hm,.inr λo e xs n q=>by refine m4 ((hX b hm).2 o e) λvs hv=>?_;rw[hv] at q;cases q⟩,hX⟩
 .exact kx.there b o e
 .refine mO (kx.keep b o hn e) λsl e' q=>?_;refine⟨sl,e',λhc=>q λhm=>hc ?_⟩;refine pO (hF b hm) λo' Z Z Vc c Z=>?_;rw[e] at Vc;cases Vc;exact c
theorem qZ.frAt(x:qZ X h h')(a:rI h L)(hX:L∉X):rI h' L:=by
 refine pO a λo es ep e c d=>?_;refine mO (x.keep L o e hX) λsl e' Z=>?_;exact⟨_,es,ep,e',c,d⟩
theorem qZ.ns(x:qZ X h h'){m:aI->Option af}(a:h.Ns L m)(hX:L∉X):h'.Ns L m:=by
 refine oI a λo es ep e r=>?_;refine mO (x.keep L o e hX) λsl e' Z=>?_;exact⟨_,es,ep,e',r⟩
def A6(h:aB)(b:ai)(vs:Array af):Prop:=∃o,h.get? b=some o/\o.data=.fields vs
theorem A6.not(x:A6 h b vs){o:eT}(e:h.get? b=some o){p:Prop}(hd:o.data≠.fields vs):p:=by
 refine mO x λo' e' d=>?_;exact absurd ((ae (e.symm.trans e'))▸d) hd
theorem qm.notF{o:O}{p:Prop}(r:qm W φ h o b)(x:A6 h b vs):p:=by
 cases o with
 |list l=>refine mU r λZ Z Z e Z=>?_;exact x.not e nofun
 |dict l=>refine mO r λZ UJ Z=>?_;obtain ⟨_,_,_,e,_,d,_⟩:=UJ;exact x.not e (by rw[d];exact nofun)
 |inst _ _=>refine mO r λZ Z e=>?_;exact x.not e nofun
theorem Inv.notF{a:ai}{p:Prop}(i:Inv W φ σ h)(ha:a∈φ)(x:A6 h a vs):p:=by
 obtain ⟨n,hn,e⟩:=eO ha;have hσ:n < σ.length:=i.len▸hn;exact (i.rep n σ[n] a (au hσ) (by rw[au hn,e])).notF x
theorem Good.hop(x:Good W own φ s₀ σ' TV s)(hb:W.base.StaysIn s₀.heap)(y:yr s₀.heap F s.heap h')(hF:∀b∈F,rI s.heap b/\b∉TV/\W.base.get? b=none){t:Nat}:Good W own φ s₀ σ' TV {s with heap:=h',toks:=t}:=by
 obtain ⟨X,ev,ap,hX⟩:=y.evo (λb m=>(hF b m).1) hb
 have hφ:∀a∈TV,a∉X:=λa ha hm=>by
  refine m4 (x.inv.here ha) λo e=>?_;refine m4 ((hX a hm).2 o e) λvs q=>?_;exact x.inv.notF ha ⟨o,e,q⟩
 refine⟨x.grows,⟨λb o e=>?_,λb o e hn=>?_⟩,x.inv.evo ev ap hφ λb o e=>?_,x.gens,x.os⟩
 .refine m4 (x.evo.there b o e) λo' e'=>?_;exact ev.there b o' e'
 .refine mO (x.evo.keep b o e hn) λsl e' q=>?_
  obtain ⟨Xe,Vc,q'⟩:=ev.keep b _ e' λhm=>by rw[(hX b hm).1] at e;cases e
  exact⟨Xe,Vc,λhc=>(q' hc).trans (q hc)⟩
 .refine mO y.X λX' hX' kx=>?_;refine mO (kx.keep b o (λhm=>by have:=hb b o e;rw[(hX' b hm).1] at this;cases this) (x.inv.base b o e)) λsl e' q=>?_
  have:sl=o.slots:=q λhm=>by rw[(hF b hm).2.2] at e;cases e
  rw[e',this]
end
theorem wK{x:af}{env:d9}(h:env'.frame=env.frame):gy x env'=gy x env:=by
 unfold gy jD;rw[h]
section
variable {M:ge}{s:ag}
theorem L9{env:d9}{out:List d9}{e:ai}{oe:eT}{head:af}{Va:Bool}{Q:Unit->ag->Prop}(hfr:A.frames=some (env::out))(hl:tg W φ s.heap (env::out))(hf:env.frame=some L)(he:s.heap.get? e=some oe)(hd:oe.data=.fields vs)(hsz:1 < vs.size)(h:∀h' T,Kept [e] (oQ (env::out)) s.heap h'->s.heap.get? T=none->T≠e->h'.get? e=some (oe.mapFields (·.setIfInBounds 1 (.ref T)))->
   (∃oT ts,h'.get? T=some oT/\oT.data=.fields ts/\ts[3]?=some (bH L))->Q () {s with heap:=h'}):
  an M A (do let a <-jD env;let pl <-entryPlaceOf L Va;let b <-fZ head a .none (bH L) .none pl;setField (.ref e) 1 b) Q E s:=by
 have hene:e∉(env::out).filterMap (·.frame):=λhm=>by
  refine DN (hl.mem hm) λZ Z o es ep ho Z Za=>?_;rw[he] at ho;cases ho;rw[hd] at Za;cases Za
 refine ac (wpAny_frameOf_fun hfr hl.fun hf λT1 Un=>?_);refine ac (wpAny_entryPlaceOf λpl XX=>?_);unfold fZ kF;refine ac (aZ ?_ (XX.sizeOk5 _ _ _ _ _));generalize hO:({cls:=.type "traceback",dict:=none,data:=.fields ([head,.ref L,.none,bH L,.none]++(if pl.isEmpty then ch 6 bX else pl)).toArray}:eT)=O
 have hOf:O.isFreed=false:=by subst hO;rfl
 have he₁:T1.get? e=some oe:=(Un.2.1 e hene).trans he;have he₂:=aj (h:=T1) O he₁;refine dm he₂ hd hsz (h _ T1.objs.size ⟨λb o hb=>?_,λb o hbe hb=>?_⟩ ?_ (dz (aX he₁)) ?_ ?_)
 .by_cases q:b=e
  .subst q;exact⟨_,aW _ he₂ (cx (bL hd _))⟩
  .refine m4 (Un.2.2 b o hb) λsl e'=>?_;exact⟨_,(bg _ _ (eZ q)).trans (aj _ e')⟩
 .have q:b≠e:=by simpa using hbe
  refine m4 (Un.2.2 b o hb) λsl e'=>?_;refine⟨sl,(bg _ _ (eZ q)).trans (aj _ e'),λhF=>?_⟩;have:=Un.2.1 b hF;rw[e',hb] at this;exact congrArg eT.slots (ae this)
 .exact ef (by rw[Un.1];exact aQ _)
 .exact aW _ he₂ (cx (bL hd _))
 .refine⟨O,_,(bg _ _ (aS (aX he₁))).trans (ax T1 hOf),by rw[<-hO],?_⟩
  rcases XX with rfl | ⟨_,_,_,_,_,_,_,rfl⟩<;>simp
theorem CS{T:ai}{o o':eT}{f:eT->eT}(hT:h.get? T=some o)(hf:(f o).isFreed=false)(e:h.get? b=some o'):∃Xj,(h.update T f).get? b=some Xj:=by
 by_cases hb:b=T
 .rw[hb];exact⟨_,aW _ hT hf⟩
 .exact⟨o',(bg _ _ (eZ hb)).trans e⟩
theorem JX{T:ai}{o:eT}{f:eT->eT}{ts:Array af}(t0:TY.get? T=none)(hT:h.get? T=some o)(hd:o.data=.fields ts)(hf:(f o).isFreed=false):yr TY F h (h.update T f):=by
 refine⟨[T],λb hb=>?_,λb o e=>CS hT hf e,λb o hb q=>⟨o.slots,?_,λZ=>rfl⟩⟩
 .rw[am.mp hb];exact⟨t0,λo' q=>⟨ts,ae (hT.symm.trans q)▸hd⟩⟩
 .exact (bg _ _ λ(z:T=b)=>hb (am.mpr z.symm)).trans q
theorem J5{env:d9}{out:List d9}{e:ai}{oe:eT}{a0 head:af}{Va:Bool}{Q:Unit->ag->Prop}(hfr:A.frames=some (env::out))(hl:tg W φ s.heap (env::out))(hf:env.frame=some L)(hn:∀b,s.heap.get? b=none->TY.get? b=none)(h0:TY.get? e=none)(he:s.heap.get? e=some oe)(hc:oe.cls=.ref W.exc)(hd:oe.data=.fields vs)(v0:vs[0]?=some a0)(hsz:1 < vs.size)(h:∀h',yr TY (oQ (env::out)) s.heap h'->oo W TY (bH L) e h'->Q () {s with heap:=h'}):
  an M A (do let a <-jD env;let pl <-entryPlaceOf L Va;let b <-fZ head a .none (bH L) .none pl;setField (.ref e) 1 b) Q E s:=
 L9 hfr hl hf he hd hsz λh' T k hT hTe hE XH=>h h' ⟨[e],λb hb=>(am.mp hb)▸⟨h0,λo q=>⟨vs,ae (he.symm.trans q)▸hd⟩⟩,k⟩ (XH.elim λoT x=>x.elim λts y=>
  ⟨⟨_,_,a0,T,oT,ts⟩,h0,hE,(g9 _ _).trans hc,bL hd _,(fB (by decide)).trans v0,d8 hsz,hTe,hn _ hT,y.1,y.2.1,y.2.2⟩)
theorem AW{env:d9}{out:List d9}{e:ai}{Q:Unit->ag->Prop}(hfr:A.frames=some (env::out))(hl:tg W φ s.heap (env::out))(hf:env.frame=some L)(XB:env'.frame=env.frame)(hn:∀b,s.heap.get? b=none->TY.get? b=none)(x:oO W TY (some L) e s.heap)(h:∀h',yr TY (oQ (env::out)) s.heap h'->oo W TY (bH L) e h'->Q () {s with heap:=h'}):an M A (gy (.ref e) env') Q E s:=by
 rw[wK XB];unfold gy;simp only[hf]
 rcases x with x | ⟨fl,⟨d,x⟩,Z6⟩
 .refine nk x.ex λoe vs a0 he hc hd ZJ h1=>?_;refine ac (a8 he hd h1 ?_);rw[if_neg (by decide)];exact J5 hfr hl hf hn x.h0 he hc hd ZJ (bQ.mp h1).1 h
 .refine ac (a8 x.he x.hd x.v1 ?_);rw[if_pos (show (bJ d.T != bX)=true from rfl)];refine ac (a8 x.hT x.dT x.t3 ?_)
  rcases Z6 with e1 | ⟨L',hL',e1⟩
  .rw[e1,if_neg (show ¬((bX==bH L)=true) from nofun)];have fr:=cx (bL x.dT (·.setIfInBounds 3 bX));refine ac (dm x.hT x.dT (bQ.mp x.t3).1 ?_);have hop:yr TY (oQ (env::out)) s.heap _:=JX x.t0 x.hT x.dT fr;refine J5 hfr (hop.frs hl) hf (λb q=>?_) x.h0 ((bg s.heap (lY (·.setIfInBounds 3 bX)) x.ne).trans x.he) x.hc x.hd x.v0 (bQ.mp x.v1).1 λh' VE fl=>h h' (hop.fields_trans VE) fl
   cases q':s.heap.get? b with
   |none=>exact hn b q'
   |some o=>refine m4 (CS x.hT fr q') λo' e'=>?_;exact mV (q.symm.trans e')
  .rw[e1,<-ae hL',if_pos (show (bH L==bH L)=true from beq_self_eq_true _)];exact al (h s.heap ⟨[],λb hb=>(nomatch hb),Kept.refl _ _ _⟩ ⟨d,x.h0,x.he,x.hc,x.hd,x.v0,x.v1,x.ne,x.t0,x.hT,x.dT,x.t3.trans (congrArg some (e1.trans (by rw[ae hL'])))⟩)
theorem qW{env env':d9}{e:ai}{fr:Option ai}{Q:Unit->ag->Prop}(x:oo W TY fl e s.heap)(h:∀h',yr TY F s.heap h'->oo W TY (fr.elim .none λf=>bH f) e h'->Q () {s with heap:=h'}):an M A (mc (.ref e) fr) Q E s:=by
 refine m4 x λd x=>?_;have sz:=(bQ.mp x.t3).1;have fz:=cx (bL x.dT (·.setIfInBounds 3 (fr.elim .none λf=>bH f)));unfold mc;refine ac (a8 x.he x.hd x.v1 ?_);rw[if_pos (show (bJ d.T != bX)=true from rfl)];exact dm x.hT x.dT sz (h _ (JX x.t0 x.hT x.dT fz) ⟨⟨d.oe,d.vs,d.a0,d.T,d.oT.mapFields (·.setIfInBounds 3 (fr.elim .none λf=>bH f)),d.ts.setIfInBounds 3 (fr.elim .none λf=>bH f)⟩,x.h0,(bg _ _ x.ne).trans x.he,x.hc,x.hd,x.v0,x.v1,x.ne,x.t0,aW _ x.hT fz,bL x.dT _,d8 sz⟩)
theorem G4{env:d9}{out:List d9}{e:ai}{Q:Unit->ag->Prop}(hfr:A.frames=some (env::out))(hl:tg W φ s.heap (env::out))(hf:env.frame=some L)(XB:env'.frame=env.frame)(hn:∀b,s.heap.get? b=none->TY.get? b=none)(x:oO W TY (some L) e s.heap)(h:∀h',yr TY (oQ (env::out)) s.heap h'->oo W TY .none e h'->Q () {s with heap:=h'}):an M A (leaving env' (.ref e)) Q E s:=by
 unfold leaving;exact ac (AW hfr hl hf XB hn x λh' hop held=>qW (env:=env) (env':=env) held λUE VE fl=>h UE (hop.fields_trans VE) fl)
theorem CY{what:String}{env:d9}{e:ai}{Q:α->ag->Prop}(x:oo W TY fl e s.heap)(h:∀h',yr TY F s.heap h'->oo W TY (env.frame.elim .none λf=>bH f) e h'->E (.ref e) {s with heap:=h'}):an M A (mr what (.ref e) env:jM α) Q E s:=by
 refine m4 (id x) λd y=>?_;unfold mr;refine ac (a8 y.he y.hd y.v1 ?_);rw[if_neg (show ¬((bJ d.T==bX)=true) from nofun)];exact ac (qW (env:=env) (env':=env) x λh' hop fl=>kW (h h' hop fl))
theorem Eh{env:d9}{e:ai}(x:oo W TY fl e s.heap)(h:∀h',yr TY F s.heap h'->oo W TY (env.frame.elim .none λf=>bH f) e h'->E (.ref e) {s with heap:=h'}):gQ M A env E (.ref e) s:=by
 refine m4 (id x) λd y=>?_;unfold gQ;refine ac (a8 y.he y.hd y.v1 ?_);rw[if_neg (show ¬((bJ d.T==bX)=true) from nofun)];exact qW (env:=env) (env':=env) x λh' hop fl=>h h' hop fl
end
section
variable {W:Wd}{a:ai}{φ:List ai}{h:aB}
noncomputable abbrev Wd.hide(W:Wd)(a:ai):Wd:={W with hid:=a::W.hid}
noncomputable abbrev Wd.with(W:Wd)(hs:List ai):Wd:={W with hid:=hs}
section
variable {hs:List ai}
mutual
theorem mT.with(k:∀b o,h.get? b=some o->b∉W.hid->b∉hs):∀{v:V} {y:af},mT W φ h v y->mT (W.with hs) φ h v y
 |.none,_,r=>r
 |.bool _,_,r=>r
 |.int _,_,r=>r
 |.sym _,_,r=>r
 |.txt _,_,r=>r
 |.tup l,_,r=>by
  refine nk r λb xs n e0 hb hz e r=>?_;exact⟨b,xs,n,e0,⟨hb.1,k b _ e hb.2⟩,hz,e,nf.with k r⟩
 |.lst l,_,r=>by
  refine nk r λb xs n e0 hb hz e r=>?_;exact⟨b,xs,n,e0,⟨hb.1,k b _ e hb.2⟩,hz,e,nf.with k r⟩
 |.dct l,_,r=>by
  refine vY r λb kvs e0 hb hs q r=>?_;exact⟨b,kvs,e0,hb,hs,q,n8.with k r⟩
 |.obj n,_,r=>r
theorem nf.with(k:∀b o,h.get? b=some o->b∉W.hid->b∉hs):∀{l:List V} {ys:List af},nf W φ h l ys->nf (W.with hs) φ h l ys
 |[],_,r=>r
 |v::l,_,r=>by
  refine mU r λy ys e p q=>?_;exact⟨y,ys,e,mT.with k p,nf.with k q⟩
theorem n8.with(k:∀b o,h.get? b=some o->b∉W.hid->b∉hs):∀{l:List (Nat×V)} {es:List (aI×af)},n8 W φ h l es->n8 (W.with hs) φ h l es
 |[],_,r=>r
 |(_,v)::l,_,r=>by
  refine mZ r λs y es e hk p q=>?_;exact⟨s,y,es,e,hk,mT.with k p,n8.with k q⟩
end
theorem qm.with(k:∀b o,h.get? b=some o->b∉W.hid->b∉hs){o:O}(r:qm W φ h o b):qm (W.with hs) φ h o b:=by
 cases o with
 |list l=>refine mU r λxs n hz e r=>?_;exact⟨xs,n,hz,e,r.with k⟩
 |dict l=>refine mO r λkvs e r=>?_;exact⟨kvs,e,r.with k⟩
 |inst c d=>exact r
end
theorem Dt(ha:h.get? a=none):∀b o,h.get? b=some o->b∉W.hid->b∉a::W.hid:=λb o e hb hm=>(aA.mp hm).elim (λ(q:b=a)=>mV ((q▸ha).symm.trans e)) hb
theorem De:∀b o,h.get? b=some o->b∉a::W.hid->b∉W.hid:=λb o Z hb hm=>hb (ao _ hm)
theorem mT.hide(ha:h.get? a=none){v:V}(r:mT W φ h v y):mT (W.hide a) φ h v y:=r.with (Dt ha)
theorem nf.hide(ha:h.get? a=none){v:List V}{y:List af}(r:nf W φ h v y):nf (W.hide a) φ h v y:=r.with (Dt ha)
theorem mT.bare{v:V}(r:mT (W.hide a) φ h v y):mT W φ h v y:=mT.with (W:=W.hide a) (hs:=W.hid) De r
theorem nf.bare{v:List V}{y:List af}(r:nf (W.hide a) φ h v y):nf W φ h v y:=nf.with (W:=W.hide a) (hs:=W.hid) De r
theorem qm.hide(ha:h.get? a=none){o:O}(r:qm W φ h o b):qm (W.hide a) φ h o b:=r.with (Dt ha)
theorem qm.bare{o:O}(r:qm (W.hide a) φ h o b):qm W φ h o b:=qm.with (W:=W.hide a) (hs:=W.hid) De r
theorem Inv.bare(i:Inv (W.hide a) φ σ h):Inv W φ σ h:=
 ⟨i.base,i.len,i.nodup,i.new,λb hb=>i.hid b (ao _ hb),λn o b e1 e2=>(i.rep n o b e1 e2).bare⟩
theorem Inv.hide(i:Inv W φ σ h)(ha:h.get? a=none)(k:∀b o,h.get? b=some o->h'.get? b=some o)(X4:∃o,h'.get? a=some o):Inv (W.hide a) φ σ h':=by
 have i':Inv (W.hide a) φ σ h':=⟨λb o e=>k b o (i.base b o e),i.len,i.nodup,i.new,λb hb=>?_,λn o b e1 e2=>((i.rep n o b e1 e2).hide ha).evo (X:=[]) (qZ.of_keeps k) (Apart.nil _ _ _) (.refl _ _) (λhm=>nomatch hm)⟩
 .exact i'
 .rcases aA.mp hb with q | q
  .subst q;exact X4
  .refine m4 (i.hid b q) λo e=>?_;exact⟨o,k b o e⟩
end
noncomputable def qp:List aI:=["len", "any", "sorted", "list", "tuple", "dict", "str", "set", "range", "enumerate", "zip", "super"]
theorem StaysIn.ns{base:aB}(k:base.StaysIn h){a:ai}{m:aI->Option af}(n:base.Ns a m):h.Ns a m:=by
 refine oI n λo es ep e r=>?_;exact⟨o,es,ep,k a o e,r⟩
theorem Inv.const(i:Inv W φ σ h){v:V}(r:mT W [] W.base v y):mT W φ h v y:=
 r.evo (X:=[]) (qZ.of_keeps i.base) (Apart.nil _ _ _) ⟨φ,by simp,i.new⟩
def su(W:Wd)(φ:List ai)(h:aB)(ρ:mQ)(i:Nat)(u:Option af):Prop:=∀v,(ρ[i]?).join=some v->∃y,u=some y/\mT W φ h v y
structure nA(W:Wd)(env:d9)(vars:List (aI×Nat))(ρ:mQ)(φ:List ai)(h:aB):Prop where
 kind:env.scope.kind=.function
 glob:env.globals=b6
 bui:env.builtins=dG
 inj:(vars.map (·.2)).Nodup
 apart:∀x y c,env.cells.lookup x=some c->env.cells.lookup y=some c->x=y
 out:env.locals∉φ/\W.base.get? env.locals=none
 loc:∃m,h.Ns env.locals m/\∀x i,vars.lookup x=some i->env.kindOf x=some .local->su W φ h ρ i (m x)
 cell:∀x c,env.cells.lookup x=some c->c∉φ/\W.base.get? c=none/\c≠env.locals/\∃u,h.IsCell c u/\
  ∀i,vars.lookup x=some i->env.kindOf x=some .cell\/env.kindOf x=some .free->su W φ h ρ i u
 has:∀x i,vars.lookup x=some i->env.kindOf x=some .local\/((env.kindOf x=some .cell\/env.kindOf x=some .free)/\∃c,env.cells.lookup x=some c)
theorem vy(h:(vars.map (·.2)).Nodup){x y:aI}{i:Nat}(hx:vars.lookup x=some i)(hy:vars.lookup y=some i):x=y:=by
 have a:=mem_of_lookup hx;have b:=mem_of_lookup hy
 clear hx hy
 induction vars with
 |nil=>cases a
 |cons p r ih=>
  refine nE (bM.mp h) λq1 q2=>?_
  rcases aA.mp a with e | a'<;>rcases aA.mp b with e' | b'
  .rw[<-e'] at e;exact (mG e).1
  .exact absurd (bK.mpr ⟨_,b',by rw[<-e]⟩) q1
  .exact absurd (bK.mpr ⟨_,a',by rw[<-e']⟩) q1
  .exact ih q2 a' b'
section
variable {env:d9}
theorem su.map{i:Nat}{u:Option af}(x:su W φ h ρ i u)(f:∀v y,mT W φ h v y->mT W' TV h' v y):su W' TV h' ρ i u:=λv e=>by
 refine mO (x v e) λy hy r=>?_;exact⟨y,hy,f v y r⟩
theorem nA.there(x:nA W env vars ρ φ h):∃o,h.get? env.locals=some o/\∀vs n,o.data≠.seq vs n:=by
 refine mO x.loc λm UJ Z=>?_;obtain ⟨o,_,_,e,d,_⟩:=UJ;exact⟨o,e,λvs n q=>by rw[d] at q;cases q⟩
theorem nA.cellThere(x:nA W env vars ρ φ h){n:aI}{c:ai}(hc:env.cells.lookup n=some c):∃o,h.get? c=some o/\∀vs n,o.data≠.seq vs n:=by
 refine oC (x.cell n c hc) λZ Z Z u Vn Z=>?_;obtain ⟨o,e,d⟩:=Vn;exact⟨o,e,λvs n q=>by rw[d] at q;cases q⟩
theorem vd(x:∃o,h.get? b=some o/\∀vs n,o.data≠.seq vs n){o:eT}(e:h.get? b=some o):∀vs n,o.data≠.seq vs n:=by
 refine mO x λo' e' q=>?_;rw[<-ae (e'.symm.trans e)];exact q
theorem nA.evo(x:nA W env vars ρ φ h)(ev:qZ X h h')(ap:Apart W φ X h)(g:Grows h φ TV)(hL:env.locals∉X)(hc:∀n c,env.cells.lookup n=some c->c∉X):nA W env vars ρ TV h':=by
 have f:∀v y,mT W φ h v y->mT W TV h' v y:=λv y r=>r.evo ev ap g;refine⟨x.kind,x.glob,x.bui,x.inj,x.apart,⟨x.there.elim λo q=>g.notin q.1 x.out.1,x.out.2⟩,?_,λn c U6=>?_,x.has⟩
 .refine mO x.loc λm hm hv=>?_;exact⟨m,ev.ns hm hL,λn i a b=>(hv n i a b).map f⟩
 .refine oC (x.cell n c U6) λa b c' u Vn hv=>?_;obtain ⟨o,e,d⟩:=Vn;refine mO (ev.keep c o e (hc n c U6)) λsl e' Z=>?_;exact⟨g.notin e a,b,c',u,⟨_,e',d⟩,λi p q=>(hv i p q).map f⟩
theorem nA.good{s:ag}(x:nA W env vars ρ φ s.heap)(g:Good W [] φ s σ' TV s'):nA W env vars ρ TV s'.heap:=
 x.evo g.evo ((Apart.self _ _ _).append (Apart.nil _ _ _)) g.grows (by rw[ba];exact x.out.1) λn c U6=>by rw[ba];exact (x.cell n c U6).1
theorem nA.hop(x:nA W env vars ρ φ h)(y:yr TY F h h')(hF:∀b∈F,rI h b)(hb:W.base.StaysIn TY):nA W env vars ρ φ h':=by
 obtain ⟨X,ev,ap,hX⟩:=y.evo hF hb;refine x.evo ev ap (.refl _ _) (λhm=>?_) λn c U6 hm=>?_
 .refine mO x.loc λm UJ Z=>?_;obtain ⟨o,_,_,e,d,_⟩:=UJ;refine m4 ((hX _ hm).2 o e) λvs q=>?_;rw[d] at q;cases q
 .refine oC (x.cell n c U6) λZ Z Z u Vn Z=>?_;obtain ⟨o,e,d⟩:=Vn;refine m4 ((hX _ hm).2 o e) λvs q=>?_;rw[d] at q;cases q
theorem nA.map(x:nA W env vars ρ φ h)(hb:W'.base=W.base)(f:∀v y,mT W φ h v y->mT W' φ h v y):nA W' env vars ρ φ h:=by
 refine⟨x.kind,x.glob,x.bui,x.inj,x.apart,hb▸x.out,?_,λn c U6=>?_,x.has⟩
 .refine mO x.loc λm hm hv=>?_;exact⟨m,hm,λn i a b=>(hv n i a b).map f⟩
 .refine oC (x.cell n c U6) λa b c' u hu hv=>?_;exact⟨a,hb▸b,c',u,hu,λi p q=>(hv i p q).map f⟩
theorem nA.hide{a:ai}(x:nA W env vars ρ φ h)(ha:h.get? a=none):nA (W.hide a) env vars ρ φ h:=x.map rfl λv y r=>r.hide ha
theorem nA.bare{a:ai}(x:nA (W.hide a) env vars ρ φ h):nA W env vars ρ φ h:=nA.map (W:=W.hide a) x rfl λv y r=>r.bare
end
section
variable {W:Wd}{M:ge}{A:aH}{E:af->ag->Prop}{s:ag}{φ:List ai}{σ:St}{env:d9}{vars:List (aI×Nat)}{ρ:mQ}
theorem Pj(ok:nA W env vars ρ φ s.heap){x:aI}{i:Nat}{v:V}(hx:vars.lookup x=some i)(hv:(ρ[i]?).join=some v)(hn:(x==("__classdict__" : aI))=false)(h:∀y,mT W φ s.heap v y->Q y s):an M A (lK env x) Q E s:=by
 rcases ok.has x i hx with hl | ⟨hk,c,hc⟩
 .refine mO ok.loc λm hm hr=>?_;refine mO (hr x i hx hl v hv) λy hy r=>?_;exact jo ok.kind hl hm hy (h y r)
 .refine oC (ok.cell x c hc) λZ Z Z u hu hr=>?_;refine mO (hr i hx hk v hv) λy T6 r=>?_;subst T6
  rcases hk with hk | hk
  .exact wpAny_loadName_cell ok.kind hk hc hu (h y r)
  .exact jA ok.kind hk hc hu (h y r) hn
theorem rA(ok:nA W env vars ρ φ s.heap)(hb:W.base.StaysIn s.heap)(hm:W.base.Ns b6 mg){x:aI}(hk:env.kindOf x=some .globalImplicit)(hy:mg x=some y)(h:Q y s):an M A (lK env x) Q E s:=by
 rw[loadName_read ok.kind hk];unfold lJ;rw[ok.glob];refine ac (hW (StaysIn.ns hb hm) ?_);rw[hy];exact al h
theorem yC(ok:nA W env vars ρ φ s.heap)(hb:W.base.StaysIn s.heap)(hm:W.base.Ns b6 mg)(ZT:W.base.Ns dG mb){x:aI}(hk:env.kindOf x=some .globalImplicit)(hx:mg x=none)(hy:mb x=some y)(h:Q y s):an M A (lK env x) Q E s:=by
 rw[loadName_read ok.kind hk];unfold lJ;rw[ok.glob,ok.bui];refine ac (hW (StaysIn.ns hb hm) ?_);rw[hx];refine ac (hW (StaysIn.ns hb ZT) ?_);rw[hy];exact al h
theorem FU{a:ai}{o:eT}{es:Array fg}{ep:Nat}{name:aI}{v:af}{Q:Unit->ag->Prop}(ho:s.heap.get? a=some o)(hd:o.data=.dict es ep)(hr:es.toList.any (·.refKey)=false)(h:Q () {s with heap:=s.heap.update a (em name (dh w.params name) (.str name s.toks) v),toks:=s.toks+1}):an (aO prog w) A (nsSet a name v) Q E s:=by
 unfold nsSet;refine ac (ac (cO (al (ac (wpAny_mkText (ac (jp ho ?_)))))));rw[hd];dsimp only
 rw[show aRefKeyMayBeTheName name es=false by
  rw[aRefKeyMayBeTheName_at,<-Array.any_toList (as:=es) (p:=λx=>x.refKey),hr,cC]]
 exact wpAny_updatePart ho h
theorem IS{a:ai}{m:aI->Option af}(hn:h.Ns a m):∃o es ep,h.get? a=some o/\o.data=.dict es ep/\es.toList.any (·.refKey)=false:=by
 refine mZ hn λo es ep ho hd hk hm=>?_;refine⟨o,es,ep,ho,hd,g8.mpr λe he=>?_⟩;refine xK (hk e (i9.mp he)) λn t h=>?_;rw[kj,h];exact λq=>mP q
theorem Jn{o:eT}{es:Array fg}{ep:Nat}(hd:o.data=.dict es ep)(name:aI)(i:Int)(k v:af):∃Ww n2,em name i k v o=⟨o.cls,o.dict,.dict Ww n2,o.slots⟩:=by
 obtain ⟨c,d,dt,sl⟩:=o;obtain rfl:dt=.dict es ep:=hd;rw[jj];unfold dC
 cases hi:es.findIdx? (·.key.isStr name)<;>simp only[hi]<;>exact⟨_,_,rfl⟩
theorem OG{a:ai}{m:aI->Option af}(hn:h.Ns a m)(name:aI)(i:Int)(t:lP)(v:af):(h.update a (em name i (.str name t) v)).Ns a (λx=>if x=name then some v else m x):=by
 refine mZ hn λo es ep ho hd hk hm=>?_;obtain ⟨c,d,dt,sl⟩:=o;obtain rfl:dt=.dict es ep:=hd;have hu:=aW (em name i (.str name t) v) ho;rw[jj] at hu ⊢
 cases hi:es.findIdx? (·.key.isStr name) with
 |some j=>
  simp only[dC,hi] at hu ⊢
  exact⟨_,_,ep,hu rfl,rfl,hk.modify _ _,λx=>by
   show _=if x=name then some v else m x
   rw[<-hm];exact findBy_modify (λn v=>v.isStr n) af.isStr_inj es name x v j hi⟩
 |none=>
  simp only[dC,hi] at hu ⊢;refine⟨_,_,ep+1,hu rfl,rfl,hk.push _ _ _ _,λx=>?_⟩;show _=if x=name then some v else m x;rw[<-hm];refine findBy_push (λn v=>v.isStr n) es name x _ _ v (λy=>?_) hi;show (name==y)=decide (y=name);rw[kX,beq_iff_eq,decide_eq_true_iff];exact eq_comm
theorem Me{a:ai}{m:aI->Option af}{name:aI}{v:af}{Q:Unit->ag->Prop}(hn:s.heap.Ns a m)(h:∀h',h'.Ns a (λx=>if x=name then some v else m x)->bf a s.heap h'->(rI s.heap a->rI h' a)->Q () {s with heap:=h',toks:=s.toks+1}):
  an (aO prog w) A (nsSet a name v) Q E s:=by
 refine pO (IS hn) λo es ep ho hd hr=>?_;refine FU ho hd hr (h _ (OG hn name _ _ v) (ct ..) λhf=>?_);refine pO hf λo' Z Z WU hc Z=>?_;refine xK (Jn hd name (dh w.params name) (.str name s.toks) v) λWw n2 e=>?_;have hu:=aW (em name (dh w.params name) (.str name s.toks) v) ho;rw[e] at hu;rw[ae (WU.symm.trans ho)] at hc;exact⟨_,Ww,n2,hu rfl,hc,rfl⟩
noncomputable def ownOf(env:d9):List ai:=env.locals::env.cells.filterMap λp=>env.cells.lookup p.1
theorem mem_ownOf{env:d9}{x:aI}{c:ai}(h:env.cells.lookup x=some c):c∈ownOf env:=ao _ (cQ.mpr ⟨_,mem_of_lookup h,h⟩)
theorem oV{env:d9}(h:b∈ownOf env):b=env.locals\/∃n,env.cells.lookup n=some b:=by
 rcases aA.mp h with e | h
 .exact .inl e
 .refine mO (cQ.mp h) λp Z e=>?_;exact .inr ⟨p.1,e⟩
noncomputable def v7(loc:Bool)(env:d9):List ai:=if loc then [env.locals] else ownOf env
theorem BO(loc:Bool)(env:d9):env.locals∈v7 loc env:=by cases loc<;>simp [v7,ownOf]
theorem tM{env:d9}(h:b∈v7 loc env):b∈ownOf env:=by
 cases loc
 .exact h
 .rw[am.mp h];exact ah
theorem su.same{i:Nat}{v:V}(hi:i < ρ.length)(r:mT W φ h v y):su W φ h (ρ.set i (some v)) i (some y):=λw e=>by
 rw[bh hi] at e;rw[<-ae e];exact⟨y,rfl,r⟩
theorem su.other{i:Nat}{v:Option V}{u:Option af}(Wh:i≠j)(x:su W φ h ρ j u):su W φ h (ρ.set i v) j u:=λw e=>by
 rw[bl Wh] at e;exact x w e
theorem vk{c:ai}(hs:bf c h h')(hx:∃o,h'.get? c=some o):qZ [c] h h':=by
 refine⟨λb o e=>?_,λb o e hb=>⟨o.slots,(hs.2 b λq=>hb (am.mpr q)).trans e,λZ=>rfl⟩⟩
 by_cases hb:b=c
 .rw[hb];exact hx
 .exact⟨o,(hs.2 b hb).trans e⟩
theorem ua{c:ai}(hb:W.base.get? c=none)(hn:∃o,h.get? c=some o/\∀vs n,o.data≠.seq vs n):Apart W φ [c] h:=λb hm Z=>by
 rw[am.mp hm];exact⟨hb,.inr λo e=>vd hn e⟩
theorem Cr{c:ai}(inv:Inv W φ σ s.heap){t:Nat}(hs:bf c s.heap h')(hx:∃o,h'.get? c=some o)(ha:c∉φ)(hb:W.base.get? c=none)(hn:∃o,s.heap.get? c=some o/\∀vs n,o.data≠.seq vs n)(ho:c∈own):
  Good W own φ s σ φ {s with heap:=h',toks:=t}:=by
 have ev:=vk hs hx;refine⟨.refl _ _,ev.mono λb hm=>cw _ (by rw[am.mp hm];exact ho),inv.evo ev (ua hb hn) (λa hm Yy=>ha (am.mp Yy▸hm)) (λb o e=>?_),rfl,rfl⟩;exact (hs.2 b λq=>mV (hb.symm.trans (q▸e))).trans (inv.base b o e)
theorem AX(ok:nA W env vars ρ φ s.heap)(inv:Inv W φ σ s.heap){x:aI}{i:Nat}{v:V}{Q:Unit->ag->Prop}(hx:vars.lookup x=some i)(hi:i < ρ.length)(rv:mT W φ s.heap v y)(hl:env.kindOf x=some .local)(h:∀s',Good W (v7 loc env) φ s σ φ s'->nA W env vars (ρ.set i (some v)) φ s'.heap->(rI s.heap env.locals->rI s'.heap env.locals)->Q () s'):an (aO prog w) A (gz env x y) Q E s:=by
 refine mO ok.loc λm hm hr=>?_;rw[storeName_local hl (by rw[ok.kind];rfl)];refine Me hm λh' U1 Um hfr=>?_
 have hex:∃o,h'.get? env.locals=some o:=by refine oI U1 λo' Z Z e Z=>?_;exact⟨o',e⟩
 have f:∀v y,mT W φ s.heap v y->mT W φ h' v y:=λv y r=>r.evo (vk Um hex) (ua ok.out.2 ok.there) (.refl _ _);refine h _ (Cr inv Um hex ok.out.1 ok.out.2 ok.there (BO _ _)) ⟨ok.kind,ok.glob,ok.bui,ok.inj,ok.apart,ok.out,⟨_,U1,λz j hz Xy=>?_⟩,λz c hz=>?_,ok.has⟩ hfr
 .by_cases hzx:z=x
  .rw[if_pos hzx,ae (hz.symm.trans (hzx▸hx))];exact .same (ae (hz.symm.trans (hzx▸hx))▸hi) (f v y rv)
  .rw[if_neg hzx];exact .other (λq=>hzx (vy ok.inj hz (q▸hx))) ((hr z j hz Xy).map f)
 .refine oC (ok.cell z c hz) λa b c' u hu hv=>?_;refine⟨a,b,c',u,hu.sameBut Um c',λj hj W6=>.other (λq=>?_) ((hv j hj W6).map f)⟩;rw[vy ok.inj hj (q▸hx),hl] at W6
  rcases W6 with q | q<;>cases q
theorem CZ(ok:nA W env vars ρ φ s.heap)(inv:Inv W φ σ s.heap){x:aI}{i:Nat}{c:ai}{v:V}{Q:Unit->ag->Prop}(hx:vars.lookup x=some i)(hi:i < ρ.length)(rv:mT W φ s.heap v y)(hk:env.kindOf x=some .cell\/env.kindOf x=some .free)(hc:env.cells.lookup x=some c)(h:∀s',Good W (ownOf env) φ s σ φ s'->nA W env vars (ρ.set i (some v)) φ s'.heap->(rI s.heap env.locals->rI s'.heap env.locals)->Q () s'):an M A (gz env x y) Q E s:=by
 refine oC (ok.cell x c hc) λca cb cc u hu hr=>?_
 have hst:gz env x y=(do cellSet (<-cellOf env x) (some y)):=by
  unfold gz
  have hb:(env.scope.kind==ScopeKind.class)=false:=by rw[ok.kind];rfl
  rcases hk with hk | hk<;>simp [hk,hb]
 rw[hst];refine ac (wpAny_cellOf hc (wpAny_cellSet hu λh' hu' Um=>?_))
 have hex:∃o,h'.get? c=some o:=by refine mO hu' λo' e' Z=>?_;exact⟨o',e'⟩
 have f:∀v y,mT W φ s.heap v y->mT W φ h' v y:=λv y r=>r.evo (vk Um hex) (ua cb (ok.cellThere hc)) (.refl _ _);refine h _ (Cr inv Um hex ca cb (ok.cellThere hc) (mem_ownOf hc)) ⟨ok.kind,ok.glob,ok.bui,ok.inj,ok.apart,ok.out,?_,λz YP hz=>?_,ok.has⟩ λhf=>(vk Um hex).frAt hf λhm=>cc (am.mp hm).symm
 .refine mO ok.loc λm hm WT=>?_;refine⟨m,hm.sameBut Um (eZ cc),λz j hz Xy=>.other (λq=>?_) ((WT z j hz Xy).map f)⟩;rw[vy ok.inj hz (q▸hx)] at Xy;rw[Xy] at hk
  rcases hk with q | q<;>cases q
 .by_cases hzx:z=x
  .rw[hzx] at hz ⊢;rw[ae (hz.symm.trans hc)];refine⟨ca,cb,cc,some y,hu',λj hj W6=>?_⟩;rw[ae (hj.symm.trans hx)];exact .same hi (f v y rv)
  .refine oC (ok.cell z YP hz) λa b c' u' Yk hv=>?_;exact⟨a,b,c',u',Yk.sameBut Um λq=>hzx (ok.apart z x c (q▸hz) hc),λj hj W6=>.other (λq=>hzx (vy ok.inj hj (q▸hx))) ((hv j hj W6).map f)⟩
theorem Mh(ok:nA W env vars ρ φ s.heap)(inv:Inv W φ σ s.heap){x:aI}{i:Nat}{v:V}{Q:Unit->ag->Prop}(hx:vars.lookup x=some i)(hi:i < ρ.length)(rv:mT W φ s.heap v y)(V2:loc=true->env.kindOf x=some .local)(h:∀s',Good W (v7 loc env) φ s σ φ s'->nA W env vars (ρ.set i (some v)) φ s'.heap->(rI s.heap env.locals->rI s'.heap env.locals)->Q () s'):an (aO prog w) A (gz env x y) Q E s:=by
 rcases ok.has x i hx with hl | ⟨hk,c,hc⟩
 .exact AX ok inv hx hi rv hl h
 .cases loc with
  |false=>exact CZ ok inv hx hi rv hk hc h
  |true=>rw[V2 rfl] at hk;rcases hk with q | q<;>cases q
theorem nA.ownApart(ok:nA W env vars ρ φ h):Apart W φ (ownOf env) h:=λb hb Z=>by
 rcases oV hb with q | ⟨n,hn⟩
 .rw[q];exact⟨ok.out.2,.inr λo e=>vd ok.there e⟩
 .exact⟨(ok.cell n b hn).2.1,.inr λo e=>vd (ok.cellThere hn) e⟩
end
structure Cx where
 env:d9
 env₀:d9
 out:List d9
 vars:List (aI×Nat)
structure oN(A:aH)(c:Cx)(q:Bool)(d:Nat):Prop where
 frames:A.frames=some (c.env₀::c.out)
 frame:c.env.frame=c.env₀.frame
 depth:A.depth+3 * d+5<=dk
 units:A.units+20 * d+210<=j5
 handled:q=false->A.handled=none
structure ng(W:Wd)(c:Cx)(ρ:mQ)(φ:List ai)(σ:St)(s:ag):Prop where
 inv:Inv W φ σ s.heap
 ok:nA W c.env c.vars ρ φ s.heap
 frs:tg W φ s.heap (c.env₀::c.out)
 sep:∀b∈ownOf c.env,b∉oQ c.out
section
variable {W:Wd}{c:Cx}{ρ:mQ}{φ TV:List ai}{σ σ':St}{s s':ag}
theorem tg.evo(ev:qZ X h h')(g:Grows h φ TV){l:List d9}(H:tg W φ h l)(hX:∀b∈oQ l,b∉X\/rI h' b):tg W TV h' l:=
 H.map λL hL hn hb a=>oI a λo Z Z e Z=>⟨g.notin e hn,hb,(hX L hL).elim (λq=>ev.frAt a q) id⟩
theorem ng.good(x:ng W c ρ φ σ s)(g:Good W [] φ s σ' TV s'):ng W c ρ TV σ' s':=
 ⟨g.inv,x.ok.good g,x.frs.evo g.evo g.grows λb hb=>.inl (by simpa using (x.frs.mem hb).1),x.sep⟩
def mS(W:Wd)(c:Cx)(φ:List ai)(s:ag){α β:Type}(r:R Unit α)(rep:List ai->aB->α->β->Prop)(Q:β->ag->Prop)(E:af->ag->Prop):Prop:=
 match r with
 |.ok v σ'=>∀TV y s',Good W [] φ s σ' TV s'->rep TV s'.heap v y->Q y s'
 |.exc _ σ'=>∀TV e s',Good W [] φ s σ' TV s'->oO W s.heap c.env₀.frame e s'.heap->E (.ref e) s'
 |.bad=>False
theorem mS.step{r:R Unit α}{rep:List ai->aB->α->β->Prop}{Q:β->ag->Prop}(g:Good W [] φ s σ' TV s')(h:mS W c φ s r rep Q E):mS W c TV s' r rep Q E:=by
 cases r with
 |ok v UG=>exact λUp y UB g' r=>h Up y UB (g.trans g') r
 |exc u UG=>exact λUp e UB g' x=>h Up e UB (g.trans g') (x.born λb hb=>g.evo.fresh hb)
 |bad=>exact h
theorem mS.bind{δ:Type}{r:R Unit α}{k:α->St->R Unit γ}{rep:List ai->aB->γ->δ->Prop}{VO:List ai->aB->α->β->Prop}{Q:δ->ag->Prop}(h:mS W c φ s (r.bind k) rep Q E)(hk:∀v σ' TV y s',r=.ok v σ'->Good W [] φ s σ' TV s'->VO TV s'.heap v y->mS W c TV s' (k v σ') rep Q E->Q₁ y s'):mS W c φ s r VO Q₁ E:=by
 cases r with
 |ok v σ'=>exact λTV y s' g rp=>hk v σ' TV y s' rfl g rp (mS.step g h)
 |exc u σ'=>exact h
 |bad=>exact h
theorem mS.opt{o:Option γ}{f:γ->R Unit α}{rep:List ai->aB->α->β->Prop}{Q:β->ag->Prop}(h:mS W c φ s (R.opt o f) rep Q E):∃a,o=some a/\mS W c φ s (f a) rep Q E:=by
 cases o with
 |none=>exact h.elim
 |some a=>exact⟨a,rfl,h⟩
theorem mS.gd{p:Prop}[Decidable p]{r:R Unit α}{rep:List ai->aB->α->β->Prop}{Q:β->ag->Prop}(h:mS W c φ s (gd p r) rep Q E):p/\mS W c φ s r rep Q E:=by
 unfold Mine.Internal.gd at h
 by_cases hp:p
 .rw[if_pos hp] at h;exact⟨hp,h⟩
 .rw[if_neg hp] at h;exact h.elim
theorem mS.of{o:Option α}{rep:List ai->aB->α->β->Prop}{Q:β->ag->Prop}(h:mS W c φ s (R.of o σ) rep Q E):∃v,o=some v/\∀y s',Good W [] φ s σ φ s'->rep φ s'.heap v y->Q y s':=by
 cases o with
 |none=>exact h.elim
 |some v=>exact⟨v,rfl,λy s' g r=>h φ y s' g r⟩
end
structure Nm where
 S:List aI
 cn:List aI
 fnm:List (Option aI)
 cnm:List aI
structure Gl where
 P:Pg
 nm:Nm
 fnA:Nat->ai
structure oR(G:Gl)(W:Wd)(mg mb:aI->Option af):Prop where
 g:W.base.Ns b6 mg
 b:W.base.Ns dG mb
 con:∀k x,G.nm.cn[k]?=some x->∃y,mg x=some y/\mT W [] W.base (G.P.const k) y
 fns:∀f x,G.nm.fnm[f]?=some (some x)->mg x=some (.ref (G.fnA f))
 cls:∀k x,G.nm.cnm[k]?=some x->mg x=some (.ref (W.cls k))
 exc:mg "KindFault" = some (.ref W.exc)
 bui:∀x∈qp,mg x=none/\mb x=gv x
structure Ck where
 kinds:List (aI×bN)
 vars:List (aI×Nat)
noncomputable def Cx.ck(c:Cx):Ck:=⟨c.env.scope.names,c.vars⟩
noncomputable def uM:List aI:=["__debug__", "__classdict__"]
noncomputable def EY(k:Ck)(i:Nat)(x:aI):Bool:=k.vars.lookup x==some i&&!uM.contains x
noncomputable def nN(k:Ck)(x:aI):Bool:=k.kinds.lookup x==some .globalImplicit&&!uM.contains x
theorem t8{x:aI}(h:(!uM.contains x)=true):(x==("__debug__" : aI))=false/\(x==("__classdict__" : aI))=false:=by
 simp only[uM,cz,List.contains_nil,jB,Bool.not_eq_true',Bool.or_eq_false_iff] at h;exact h
section
variable {M:ge}{c:Cx}{s:ag}
theorem RA{i:Nat}{x:aI}(hc:EY c.ck i x=true)(H:ng W c ρ φ σ s)(h:mS W c φ s (R.of ((ρ[i]?).join) σ) (mT W) Q E):an M A (eval (.Name x pos) c.env) Q E s:=by
 refine mO h.of λv hv h=>?_;simp only[EY,bO,beq_iff_eq] at hc;refine nE (t8 hc.2) λh1 h2=>?_;exact eC (Pj H.ok hc.1 hv h2 λy r=>h y s (.refl H.inv) r) h1
theorem O8{G:Gl}(gl:oR G W mg mb){k:Nat}{x:aI}(hk:G.nm.cn[k]?=some x)(hc:nN c.ck x=true)(H:ng W c ρ φ σ s)(h:mS W c φ s (.ok (G.P.const k) σ) (mT W) Q E):an M A (eval (.Name x pos) c.env) Q E s:=by
 simp only[nN,bO,beq_iff_eq] at hc;refine nE (t8 hc.2) λh1 h2=>?_;refine mO (gl.con k x hk) λy hy r=>?_;exact eC (rA H.ok H.inv.base gl.g hc.1 hy (h φ y s (.refl H.inv) (H.inv.const r))) h1
theorem JY{G:Gl}(gl:oR G W mg mb){f:Nat}{x:aI}(hk:G.nm.fnm[f]?=some (some x))(hc:nN c.ck x=true)(H:ng W c ρ φ σ s)(h:Q (.ref (G.fnA f)) s):an M A (eval (.Name x pos) c.env) Q E s:=by
 simp only[nN,bO,beq_iff_eq] at hc;refine nE (t8 hc.2) λh1 h2=>?_;exact eC (rA H.ok H.inv.base gl.g hc.1 (gl.fns f x hk) h) h1
theorem G0{G:Gl}(gl:oR G W mg mb){k:Nat}{x:aI}(hk:G.nm.cnm[k]?=some x)(hc:nN c.ck x=true)(H:ng W c ρ φ σ s)(h:Q (.ref (W.cls k)) s):an M A (eval (.Name x pos) c.env) Q E s:=by
 simp only[nN,bO,beq_iff_eq] at hc;refine nE (t8 hc.2) λh1 h2=>?_;exact eC (rA H.ok H.inv.base gl.g hc.1 (gl.cls k x hk) h) h1
theorem zw{G:Gl}(gl:oR G W mg mb)(hc:nN c.ck "KindFault" = true)(H:ng W c ρ φ σ s)(h:Q (.ref W.exc) s):an M A (eval (.Name "KindFault" pos) c.env) Q E s:=by
 simp only[nN,bO,beq_iff_eq] at hc;refine nE (t8 hc.2) λh1 h2=>?_;exact eC (rA H.ok H.inv.base gl.g hc.1 gl.exc h) h1
theorem rH{G:Gl}(gl:oR G W mg mb){x:aI}(hk:x∈qp)(hb:gv x=some y)(hc:nN c.ck x=true)(H:ng W c ρ φ σ s)(h:Q y s):an M A (eval (.Name x pos) c.env) Q E s:=by
 simp only[nN,bO,beq_iff_eq] at hc;refine nE (t8 hc.2) λh1 h2=>?_;refine nE (gl.bui x hk) λb1 b2=>?_;exact eC (yC H.ok H.inv.base gl.g gl.b hc.1 b1 (b2.trans hb) h) h1
end
variable {G:Gl}
mutual
noncomputable def tS(S:List aI):V->PyData
 |.none=>.none
 |.bool b=>.bool b
 |.int i=>.int i
 |.sym k=>.str ((S[k]?).getD ⟨#[]⟩)
 |.tup l=>.tuple (rg S l)
 |.lst l=>.list (rg S l)
 |_=>.none
noncomputable def rg(S:List aI):List V->List PyData
 |[]=>[]
 |v::l=>tS S v::rg S l
end
section
mutual
theorem AD:∀{n:Nat} {v:V} {y:af},mT W φ h v y->nM n v=true->∃as,l7 h y (tS W.S v) as
 |_,.none,_,r,_=>⟨[],r▸.none⟩
 |_,.bool b,_,r,_=>⟨[],r▸.bool b⟩
 |_,.int i,_,r,_=>by refine m4 r λt T6=>?_;subst T6;exact⟨[],.int i t⟩
 |_,.sym k,_,r,_=>by
  refine nr r λs t e Uc=>?_;subst Uc;refine⟨[],?_⟩;show l7 h _ (.str ((W.S[k]?).getD ⟨#[]⟩)) [];rw[e];exact .str s t
 |0,.tup l,_,r,q=>mP q
 |n+1,.tup l,_,r,q=>by
  obtain ⟨a,xs,m,rfl,_,_,e,r⟩:=r;refine m4 (vo (n:=n) r q) λas ra=>?_;exact⟨as,.tuple e rfl rfl ra⟩
 |0,.lst l,_,r,q=>mP q
 |n+1,.lst l,_,r,q=>by
  obtain ⟨a,xs,m,rfl,_,_,e,r⟩:=r;refine m4 (vo (n:=n) r q) λas ra=>?_;exact⟨a::as,.list e rfl rfl ra⟩
 |_,.txt _,_,_,q=>mP q
 |_,.dct _,_,_,q=>mP q
 |_,.obj _,_,_,q=>mP q
theorem vo:∀{n:Nat} {l:List V} {ys:List af},nf W φ h l ys->nD n l=true->∃as,ReadsAll h ys (rg W.S l) as
 |_,[],_,r,_=>⟨[],(show _=_ from r)▸.nil⟩
 |n,v::l,_,r,q=>by
  refine mU r λy ys Ua rv rl=>?_;subst Ua;refine m4 (AD rv (b2 q).1) λas a=>?_;refine m4 (vo rl (b2 q).2) λbs b=>?_;exact⟨as++bs,.cons a b⟩
end
end
theorem GW(hS:∀s∈S,dD s=true)(k:Nat):dD ((S[k]?).getD ⟨#[]⟩)=true:=by
 cases e:S[k]? with
 |none=>simp [dD]
 |some s=>exact hS s (aF e)
mutual
theorem E3{S:List aI}(hS:∀s∈S,dD s=true):∀{n:Nat} {v:V},nM n v=true->(tS S v).canLay0=true/\(tS S v).depth<=n
 |n,.none,_=>⟨rfl,bc n⟩
 |n,.bool b,_=>⟨rfl,bc n⟩
 |n,.int i,_=>⟨rfl,bc n⟩
 |n,.sym k,_=>⟨GW hS k,bc n⟩
 |0,.tup l,q=>mP q
 |n+1,.tup l,q=>let this:=E0 hS (n:=n) (l:=l) q;⟨this.1,dg this.2⟩
 |0,.lst l,q=>mP q
 |n+1,.lst l,q=>let this:=E0 hS (n:=n) (l:=l) q;⟨this.1,dg this.2⟩
 |_,.txt _,q=>mP q
 |_,.dct _,q=>mP q
 |_,.obj _,q=>mP q
theorem E0{S:List aI}(hS:∀s∈S,dD s=true):∀{n:Nat} {l:List V},nD n l=true->PyData.canLayAll0 (rg S l)=true/\iT (rg S l)<=n
 |n,[],_=>⟨rfl,bc n⟩
 |n,v::l,q=>
  let a:=E3 hS (b2 q).1
  let b:=E0 hS (b2 q).2
  ⟨bj.mpr ⟨a.1,b.1⟩,Nat.max_le.mpr ⟨a.2,b.2⟩⟩
end
mutual
noncomputable def known(n:Nat):V->Bool
 |.sym k=>decide (k < n)
 |.tup l=>knowns n l
 |.lst l=>knowns n l
 |_=>true
noncomputable def knowns(n:Nat):List V->Bool
 |[]=>true
 |v::l=>known n v&&knowns n l
end
theorem KY(hS:S.Nodup){i:Nat}(k:decide (i < S.length)=true)(k':decide (j < S.length)=true):fG (tS S (.sym i)) (tS S (.sym j))=pL (.sym i) (.sym j):=by
 have e:=au (of_decide_eq_true k);have e':=au (of_decide_eq_true k');show ((S[i]?).getD ⟨#[]⟩==(S[j]?).getD ⟨#[]⟩)=(i==j);rw[e,e',kX,beq_iff_eq,beq_iff_eq];exact⟨λq=>(fo (of_decide_eq_true k) hS).mp (e.trans ((congrArg some q).trans e'.symm)),λq=>ae (e.symm.trans ((congrArg (λn=>S[n]?) q).trans e'))⟩
mutual
theorem HX{S:List aI}(hS:S.Nodup):∀{a b:V},known S.length a=true->known S.length b=true->∀{n m:Nat},nM n a=true->nM m b=true->fG (tS S a) (tS S b)=pL a b
 |.none,b,_,_,_,_,_,q=>by cases b<;>first | rfl | exact mP q
 |.bool x,b,_,_,_,_,_,q=>by cases b<;>first | rfl | exact mP q
 |.int x,b,_,_,_,_,_,q=>by cases b<;>first | rfl | exact mP q
 |.sym i,b,k,k',_,_,_,q=>by
  cases b with
  |sym j=>exact KY hS k k'
  |_=>first | rfl | exact mP q
 |.tup l,b,k,k',n,m,q,q'=>by
  cases b with
  |tup l'=>cases n with
   |zero=>exact mP q
   |succ n=>cases m with
    |zero=>exact mP q'
    |succ m=>exact HW hS (a:=l) (b:=l') k k' (n:=n) (m:=m) q q'
  |_=>first | rfl | exact mP q'
 |.lst l,b,k,k',n,m,q,q'=>by
  cases b with
  |lst l'=>cases n with
   |zero=>exact mP q
   |succ n=>cases m with
    |zero=>exact mP q'
    |succ m=>exact HW hS (a:=l) (b:=l') k k' (n:=n) (m:=m) q q'
  |_=>first | rfl | exact mP q'
 |.txt _,_,_,_,_,_,q,_=>mP q
 |.dct _,_,_,_,_,_,q,_=>mP q
 |.obj _,_,_,_,_,_,q,_=>mP q
theorem HW{S:List aI}(hS:S.Nodup):∀{a b:List V},knowns S.length a=true->knowns S.length b=true->∀{n m:Nat},nD n a=true->nD m b=true->lZ (rg S a) (rg S b)=vC a b
 |[],b,_,_,_,_,_,_=>by cases b<;>rfl
 |a::l,b,k,k',n,m,q,q'=>by
  cases b with
  |nil=>rfl
  |cons b l'=>
   show (fG (tS S a) (tS S b)&&lZ (rg S l) (rg S l'))=(pL a b&&vC l l');rw[HX hS (b2 k).1 (b2 k').1 (b2 q).1 (b2 q').1,HW hS (b2 k).2 (b2 k').2 (b2 q).2 (b2 q').2]
end
section
mutual
theorem mT.known:∀{v:V} {y:af},mT W φ h v y->known W.S.length v=true
 |.sym k,_,r=>by refine nr r λs t e Z=>?_;exact decide_eq_true (nO e)
 |.tup l,_,r=>by refine nk r λa xs m Z Z Z e r=>?_;exact nf.knowns r
 |.lst l,_,r=>by refine nk r λa xs m Z Z Z e r=>?_;exact nf.knowns r
 |.none,_,_=>rfl
 |.bool _,_,_=>rfl
 |.int _,_,_=>rfl
 |.txt _,_,_=>rfl
 |.dct _,_,_=>rfl
 |.obj _,_,_=>rfl
theorem nf.knowns:∀{l:List V} {ys:List af},nf W φ h l ys->knowns W.S.length l=true
 |[],_,_=>rfl
 |v::l,_,r=>by
  refine mU r λy ys Z rv rl=>?_;exact bj.mpr ⟨mT.known rv,nf.knowns rl⟩
end
theorem B3(i:Inv W φ σ h){v:V}(r:mT W φ h v y)(n:Nat)(q:nM n (uf σ v)=true):(∃as,l7 h y (tS W.S (uf σ v)) as)/\Mine.Internal.known W.S.length (uf σ v)=true:=by
 unfold uf at q ⊢
 cases e:pV σ v with
 |none=>rw[e] at q;exact⟨AD r q,r.known⟩
 |some l=>
  rw[e] at q;refine mO (bs e) λk e1 e2=>?_;rw[nJ e1] at r;refine mO r λa ha h1=>?_;refine mU (i.rep k _ a (listAt_eq e2) ha) λxs m hz e' rl=>?_;rw[h1]
  cases n with
  |zero=>exact mP q
  |succ n=>
   refine m4 (vo (n:=n) rl q) λas ra=>?_;exact⟨⟨a::as,.list e' rfl rfl ra⟩,rl.knowns⟩
theorem GR{s:ag}(i:Inv W φ σ s.heap){c:V}(r:mT W φ s.heap c y)(e:sd σ c=some l){n:Nat}(q:nD n l=true):
  (∃as,l7 s.heap y (.tuple (rg W.S l)) as\/l7 s.heap y (.list (rg W.S l)) as)/\knowns W.S.length l=true:=by
 refine mZ (tQ i r e) λa xs m Uc hz rl ho=>?_;subst Uc;refine m4 (vo rl q) λas ra=>?_;refine⟨?_,rl.knowns⟩
 rcases ho with ho | ho
 .exact⟨as,.inl (.tuple ho rfl rfl ra)⟩
 .exact⟨a::as,.inr (.list ho rfl rfl ra)⟩
end
section
variable {s:ag}{P:Pg}
theorem zi{d:PyData}(h1:d.canLay0=true)(h2:d.depth<=40):SeqAt.shaped d=true:=by
 unfold SeqAt.shaped;rw[h1,decide_eq_true (az h2 (by decide))];rfl
theorem zt(ok:ot W P)(i:Inv W φ σ s.heap){a b:V}{x:af}(ra:mT W φ s.heap a x)(rb:mT W φ s.heap b y){r:Bool}(e:Ct σ a b=some r):
  ∃d d' as bs,l7 s.heap x d as/\l7 s.heap y d' bs/\SeqAt.shaped d=true/\SeqAt.shaped d'=true/\fG d d'=r:=by
 refine nE (nu e) λhs T6=>?_;subst T6;refine nE (B3 i ra 40 (b2 hs).1) λVy k1=>?_;obtain ⟨as,r1⟩:=Vy;refine nE (B3 i rb 40 (b2 hs).2) λVy k2=>?_;obtain ⟨bs,r2⟩:=Vy;have l1:=E3 ok.strOk (b2 hs).1;have l2:=E3 ok.strOk (b2 hs).2;exact⟨_,_,as,bs,r1,r2,zi l1.1 l1.2,zi l2.1 l2.2,HX ok.nodup k1 k2 (b2 hs).1 (b2 hs).2⟩
theorem w_eq(ok:ot W P)(i:Inv W φ σ s.heap)(hu:A.units+64 < j5){a b:V}{x:af}(ra:mT W φ s.heap a x)(rb:mT W φ s.heap b y){r:Bool}(e:Ct σ a b=some r)(h:Q (.bool r) s):an W.M A (fJ .Eq x y) Q E s:=by
 refine wt (zt ok i ra rb e) λd d' as bs r1 r2 s1 s2 X6=>?_;subst X6;exact eq_dataH r1 r2 s1 s2 hu h
theorem SW(ok:ot W P)(i:Inv W φ σ s.heap)(hu:A.units+64 < j5){a b:V}{x:af}(ra:mT W φ s.heap a x)(rb:mT W φ s.heap b y){r:Bool}(e:Ct σ a b=some r)(h:Q (.bool !r) s):an W.M A (fJ .NotEq x y) Q E s:=by
 refine wt (zt ok i ra rb e) λd d' as bs r1 r2 s1 s2 X6=>?_;subst X6;exact ne_dataH r1 r2 s1 s2 hu h
end
noncomputable def Hl.py:Hl->CmpOp
 |.eq=>.Eq | .ne=>.NotEq | .lt=>.Lt | .gt=>.Gt | .isin=>.In | .notin=>.NotIn | .is=>.Is | .isnt=>.IsNot
noncomputable def Kn.py:Kn->Operator
 |.add=>.Add | .sub=>.Sub | .mul=>.Mult | .mod=>.Mod
section
variable {s:ag}{P:Pg}
theorem KC(hS:W.S.Nodup){a:V}(ka:known W.S.length a=true)(qa:nM 40 a=true):knowns W.S.length l=true->nD 40 l=true->((rg W.S l).any λy=>fG y (tS W.S a))=l.any λy=>pL y a:=by
 induction l with
 |nil=>intro _ _;rfl
 |cons v l ih=>
  intro k q;show (fG (tS W.S v) (tS W.S a)||(rg W.S l).any λy=>fG y (tS W.S a))=(pL v a||l.any λy=>pL y a);rw[HX hS (b2 k).1 ka (b2 q).1 qa,ih (b2 k).2 (b2 q).2]
theorem Mc(ok:ot W P)(i:Inv W φ σ s.heap)(hu:A.units+64 < j5){a b:V}{x:af}(ra:mT W φ s.heap a x)(rb:mT W φ s.heap b y){r:Bool}(e:Ie σ a b=some r)(h:Q (.bool r) s):an W.M A (fJ .In x y) Q E s:=by
 refine mO (bs e) λl hs e=>?_;refine nE (nu e) λhq e=>?_;refine nE (GR i rb hs (b2 hq).2) λVy ks=>?_;obtain ⟨as,rs⟩:=Vy;refine m4 (AD ra (b2 hq).1) λbs rx=>?_;have l1:=E0 ok.strOk (b2 hq).2;have l2:=E3 ok.strOk (b2 hq).1;have hany:=(KC ok.nodup ra.known (b2 hq).1 ks (b2 hq).2).trans e;have hm:min (iT (rg W.S l)) (tS W.S a).depth<=40:=az (li _ _) l1.2;have hu':A.units+1+min (iT (rg W.S l)) (tS W.S a).depth < j5:=dy (bd hm _) (dy (bd (by decide:1+40<=64) A.units) hu)
 rcases rs with rs | rs
 .exact SeqAt.in_tuple_reads rs rx l1.1 l2.1 hu' (by rw[hany];exact h)
 .exact SeqAt.in_list_reads rs rx l1.1 l2.1 hu' (by rw[hany];exact h)
theorem Mb(ok:ot W P)(i:Inv W φ σ s.heap){a b:V}{x:af}(ra:mT W φ s.heap a x)(rb:mT W φ s.heap b y){r:Bool}(e:MB σ a b=some r)(h:∀t,Q (.bool r) {s with toks:=t}):an W.M A (fJ .In x y) Q E s:=by
 refine mO (bs e) λl hd e=>?_;refine mO (ms e) λk ek Ua=>?_;subst Ua;rw[oF ek] at ra;refine pN (qS ok.sys i rb hd) λad kvs Ua rd Ve Uz=>?_;subst Ua;refine nr ra λnm t hS Uc=>?_;subst Uc;exact wpAny_in_of (knd:=aC W.prog W.w) (k:=nm) (dH _ _ nm t) Uz Ve.mapOf (by rw[<-rd.any ok.nodup hS];exact h _)
theorem RC(ok:ot W P)(i:Inv W φ σ s.heap)(hu:A.units+64 < j5){a b:V}{x:af}(ra:mT W φ s.heap a x)(rb:mT W φ s.heap b y){r:Bool}(e:Cu σ a b=some r)(h:∀t,Q (.bool r) {s with toks:=t}):an W.M A (fJ .In x y) Q E s:=
 (m8 e).elim (λe=>Mb ok i ra rb e h) λe=>Mc ok i hu ra rb e (h s.toks)
theorem Md(ok:ot W P)(i:Inv W φ σ s.heap)(hu:A.units+64 < j5){a b:V}{x:af}(ra:mT W φ s.heap a x)(rb:mT W φ s.heap b y){r:Bool}(e:Cu σ a b=some r)(h:∀t,Q (.bool !r) {s with toks:=t}):an W.M A (fJ .NotIn x y) Q E s:=by
 have key:=RC (A:=A) (E:=E) (Q:=λv s'=>match v with | .bool b=>Q (.bool !b) s' | _=>False) ok i hu ra rb e h;have e1:fJ .In x y=(do return .bool (<-contains y x)):=rfl;show an W.M A (do return .bool (!(<-contains y x))) Q E s;rw[e1] at key;intro Γ p Y1;have k:=key Γ p Y1;simp only[jM.wp_bind',jM.wp_pure'] at k ⊢;exact k
theorem mT.noneOr{v:V}{x:af}:mT W φ s.heap v x->plainIs x .none=true/\(x==.none)=(pJ v).isSome:=by
 cases v with
 |none=>intro r;cases r;exact⟨rfl,rfl⟩
 |bool b=>intro r;cases r;exact⟨rfl,rfl⟩
 |int _=>intro r;refine m4 r λt T6=>?_;subst T6;exact⟨rfl,rfl⟩
 |sym _=>intro r;refine nr r λZ t Z Uc=>?_;subst Uc;exact⟨rfl,rfl⟩
 |txt _=>intro r;refine nr r λZ t Z Uc=>?_;subst Uc;exact⟨rfl,rfl⟩
 |tup _=>intro r;refine oI r λZ Z Z Uc Z=>?_;subst Uc;exact⟨rfl,rfl⟩
 |lst _=>intro r;refine oI r λZ Z Z Uc Z=>?_;subst Uc;exact⟨rfl,rfl⟩
 |dct _=>intro r;refine nr r λZ Z Ua Z=>?_;subst Ua;exact⟨rfl,rfl⟩
 |obj _=>intro r;refine mO r λZ Z Ua=>?_;subst Ua;exact⟨rfl,rfl⟩
theorem Cy:∀a b:Bool,plainIs (.bool a) (.bool b)=true/\((mJ a)==(mJ b))=(a==b)
 |true,true=>⟨rfl,rfl⟩
 |true,false=>⟨rfl,rfl⟩
 |false,true=>⟨rfl,rfl⟩
 |false,false=>⟨rfl,rfl⟩
theorem w_is{a b:V}{x:af}(ra:mT W φ s.heap a x)(rb:mT W φ s.heap b y){r:Bool}(e:Jh a b=some r):plainIs x y=true/\(x==y)=r:=by
 rcases m8 e with e | e
 .refine mO (ms e) λu eb Ua=>?_;subst Ua;rw[rF eb] at rb;rw[show y=.none from rb];exact ra.noneOr
 .refine mO (bs e) λp ea e=>?_;refine mO (ms e) λq eb Ua=>?_;subst Ua;rw[pP ea] at ra;rw[pP eb] at rb;rw[show x=.bool p from ra,show y=.bool q from rb];exact Cy p q
theorem CP{f:Int->Int->Bool}{a b:V}{x:af}{r:Bool}(ra:mT W φ s.heap a x)(rb:mT W φ s.heap b y)(e:((nI a).bind λa=>(nI b).map λb=>f a b)=some r):
  ∃i j t u,x=.int i t/\y=.int j u/\f i j=r:=by
 refine mO (bs e) λp ea e=>?_;refine mO (ms e) λq eb e=>?_;rw[nS ea] at ra;rw[nS eb] at rb;refine m4 ra λt h1=>?_;refine m4 rb λu h2=>?_;exact⟨p,q,t,u,h1,h2,e⟩
theorem MU(ok:ot W P)(i:Inv W φ σ s.heap)(hu:A.units+64 < j5){a b:V}{x:af}(ra:mT W φ s.heap a x)(rb:mT W φ s.heap b y){r:Bool}(e:Cs σ op a b=some r)(h:∀t,Q (.bool r) {s with toks:=t}):an W.M A (fJ op.py x y) Q E s:=by
 cases op with
 |eq=>exact w_eq ok i hu ra rb e (h s.toks)
 |ne=>
  refine mO (ms e) λr' e' Ua=>?_;subst Ua;exact SW ok i hu ra rb e' (h s.toks)
 |lt=>
  refine vZ (CP ra rb e) λp q t u Wj W9 X7=>?_;subst Wj;subst W9;subst X7;exact lt_int (h s.toks)
 |gt=>
  refine vZ (CP ra rb e) λp q t u Wj W9 X7=>?_;subst Wj;subst W9;subst X7;exact gt_int (h s.toks)
 |isin=>exact RC ok i hu ra rb e h
 |notin=>
  refine mO (ms e) λr' e' Ua=>?_;subst Ua;exact Md ok i hu ra rb e' h
 |is=>
  have w:=w_is (s:=s) ra rb e;exact wpAny_is_plain w.1 (by rw[w.2];exact h s.toks)
 |isnt=>
  refine mO (ms e) λr' e' Ua=>?_;subst Ua;have w:=w_is (s:=s) ra rb e';exact wpAny_isNot_plain w.1 (by rw[w.2];exact h s.toks)
end
theorem yA(l:ai)(items:Array af)(n:Nat)(u:lP):
  Meets (b7.«tuple.__mul__» ⟨[.ref l,.int 1 u],[]⟩) (λZ R s=>s.heap.get? l=some {cls:=.type "tuple",dict:=none,data:=.seq items n,slots:=#[]}/\R (.ok (.ret (bJ l))) {s with heap:=s.heap,toks:=s.toks}):=
 .of_wp λprog w A R s h=>by obtain ⟨hp,g,d,tk,os⟩:=s;refine nE h λhl h=>?_;have f1:=AutoSeq1.idx_int;have f2:=AutoSeq1.sub_tuple_tuple;wp_walk using wpAny_loadPart' hl;exact⟨_,rfl,h⟩
theorem xm(a:Int)(t:lP)(l:ai)(items:Array af)(n:Nat):
  Meets (b7.«int.__rmul__» ⟨[.int a t,.ref l],[]⟩) (λZ R s=>s.heap.get? l=some {cls:=.type "tuple",dict:=none,data:=.seq items n,slots:=#[]}/\R (.ok (.ret af.notImplemented)) s):=
 .of_wp λprog w A R s h=>by obtain ⟨hp,g,d,tk,os⟩:=s;refine nE h λhl h=>?_;wp_walk;exact⟨_,rfl,h⟩
theorem vX:fillsNumberSlot (.type "tuple") "mul" = pure false:=
 PySem.fillsNumberSlot_seq (id:="tuple.__mul__") (r:=some (.builtin "tuple.__rmul__")) iq.lookup (by decide +kernel) jU.lookup (by decide +kernel)
theorem AE:seqRepeat? (.type "tuple")=pure (some (.builtin "tuple.__mul__")):=by
 unfold seqRepeat?;rw[kA (T:="tuple") (name:="__mul__") (id:="tuple.__mul__") iq.lookup (by decide +kernel),kA (T:="tuple") (name:="__rmul__") (id:="tuple.__rmul__") jU.lookup (by decide +kernel)];rfl
section
variable {s:ag}{P:Pg}
theorem J8{x:af}(r:mT W φ s.heap (.tup l) x){t:lP}(h:Q x s):an W.M A (ft .Mult x (.int 1 t)) Q E s:=by
 refine nk r λa xs n Uc Z Z ho rl=>?_;subst Uc;exact wpAny_binaryOp_repeat_ref (T:="tuple") (U:="int") (by decide) ⟨_,ho,rfl⟩ (λs'=>typeIs_int s' 1 t) vX F.fills_int_mul k6 AE F.slot_int_index.lookup
  (iJ k6 (typeIs_int s 1 t) F.entry_int_rmul (F.args_int_rmul_2 _ _) (xm 1 t a xs.toArray n)
   ⟨ho,rfl,⟨_,ho,rfl⟩,iJ iq ⟨_,ho,rfl⟩ F.entry_tuple_mul (F.args_tuple_mul_2 _ _) (yA a xs.toArray n t) ⟨ho,h⟩⟩)
theorem Fy(r:nf W φ h l xs)(e:xs.toArray.isEmpty=true):l=[]/\xs=[]:=by
 have:xs=[]:=by cases xs with
  |nil=>rfl
  |cons _ _=>exact mP e
 exact⟨fh.mp (r.length.symm.trans (congrArg je this)),this⟩
theorem CL{a b:List V}(r1:nf W φ h a xs)(r2:nf W φ h b ys)(hl:(a++b).length<=ni):xs.toArray.size+ys.toArray.size<=bp:=by
 rw[aY,aY,r1.length,r2.length,<-aL];exact n5 hl
theorem J1(i:Inv W φ σ s.heap){a b v:V}{x:af}(ra:mT W φ s.heap a x)(rb:mT W φ s.heap b y)(e:Hv a b=some v)(h:∀z s',Good W [] φ s σ φ s'->mT W φ s'.heap v z->Q z s'):an W.M A (ft .Add x y) Q E s:=by
 refine mO (bs e) λa ea e=>?_;refine mO (bs e) λb eb e=>?_;refine nE (nu e) λhl T6=>?_;subst T6;rw[oy ea] at ra;rw[oy eb] at rb;have ra':=ra;have rb':=rb;refine nk ra λp xs n Uc Z hx hp r1=>?_;subst Uc;refine nk rb λq ys m Uc Z hy hq r2=>?_;subst Uc
 by_cases h1:xs.toArray.isEmpty=true
 .refine iL ⟨_,hp,rfl⟩ ⟨_,hq,rfl⟩ iz jF ip gZ (gE _ _) (AutoSeq1.tuple___add___tuple_tuple_0 p _ n q _ m h1) ⟨hp,hq,h _ s (.refl i) ?_⟩;rw[(Fy r1 h1).1];exact rb'
 .by_cases h2:ys.toArray.isEmpty=true
  .refine iL ⟨_,hp,rfl⟩ ⟨_,hq,rfl⟩ iz jF ip gZ (gE _ _) (AutoSeq1.tuple___add___tuple_tuple_1 p _ n q _ m h1 h2) ⟨hp,hq,h _ s (.refl i) ?_⟩;rw[(Fy r2 h2).1,ba];exact ra'
  .have hz:=CL r1 r2 hl;have g:=Good.push (own:=[]) i (qY (xs++ys) 0);refine iL ⟨_,hp,rfl⟩ ⟨_,hq,rfl⟩ iz jF ip gZ (gE _ _) (AutoSeq1.tuple___add___tuple_tuple_2 p _ n q _ m h1 h2 hz) ⟨hp,hq,?_⟩;rw[jx];exact h _ _ g ⟨_,xs++ys,0,rfl,i.size_notin,by rw[aL];exact hz,ax _ rfl,g.repL (r1.append r2)⟩
theorem J0(i:Inv W φ σ s.heap){a b v:V}{x:af}(ra:mT W φ s.heap a x)(rb:mT W φ s.heap b y)(e:w8 σ a b=some v)(h:∀z s',Good W [] φ s σ φ s'->mT W φ s'.heap v z->Q z s'):an W.M A (ft .Add x y) Q E s:=by
 refine mO (bs e) λl ea e=>?_;refine mO (bs e) λr eb e=>?_;refine nE (nu e) λhl T6=>?_;subst T6;refine mZ (sE i ra ea) λp xs n Uc hx r1 hp=>?_;subst Uc;refine mZ (sE i rb eb) λq ys m Uc hy r2 hq=>?_;subst Uc;have hz:=CL r1 r2 hl;have g:=Good.push (own:=[]) i (pF (xs++ys) 0);refine iL ⟨_,hp,rfl⟩ ⟨_,hq,rfl⟩ noFill_list_add seq_list_add F.slot_list_add F.entry_list_add (F.args_list_add_2 _ _) (AutoSeq1.list___add___list_list_0 p _ n q _ m hz) ⟨hp,hq,?_⟩;rw[jx];exact h _ _ g ⟨_,xs++ys,0,rfl,i.size_notin,by rw[aL];exact hz,ax _ rfl,g.repL (r1.append r2)⟩
theorem yi(ok:ot W P){v:V}{x:af}{n:Nat}(r:mT W φ s.heap v x)(e:AT P v=some n):∃t k,x=.str t k/\t.length<=n:=by
 rcases m8 e with e | e
 .refine mO (ms e) λk ek Ua=>?_;subst Ua;rw[oF ek] at r;refine nr r λt k' hS h=>?_;exact⟨t,k',h,ok.slen k t hS⟩
 .rw[vA e] at r;refine nr r λt k' hS h=>?_;exact⟨t,k',h,hS⟩
theorem J2(ok:ot W P)(i:Inv W φ σ s.heap){a b v:V}{x:af}(ra:mT W φ s.heap a x)(rb:mT W φ s.heap b y)(e:w9 P a b=some v)(h:∀z s',Good W [] φ s σ φ s'->mT W φ s'.heap v z->Q z s'):an W.M A (ft .Add x y) Q E s:=by
 refine mO (bs e) λm ea e=>?_;refine mO (bs e) λn eb e=>?_;refine nE (nu e) λhl T6=>?_;subst T6;refine nr (yi ok ra ea) λt k Ua h1=>?_;subst Ua;refine nr (yi ok rb eb) λu k' Ua h2=>?_;subst Ua;have hz:=jh h1 h2;exact SB.add (λt' k=>h _ _ (Good.tok i) ⟨_,_,(hU ..).symm▸hz,rfl⟩) (az hz (n5 hl))
theorem J9(i:Inv W φ σ s.heap){a b v:V}{x:af}(ra:mT W φ s.heap a x)(rb:mT W φ s.heap b y)(e:IG a b=some v)(h:∀z s',Good W [] φ s σ φ s'->mT W φ s'.heap v z->Q z s'):an W.M A (ft .Mult x y) Q E s:=by
 refine mO (bs e) λl ea e=>?_;refine mO (bs e) λj eb e=>?_;refine nE (nu e) λhj T6=>?_;subst T6;rw[nS eb,hj] at rb;rw[oy ea] at ra;refine m4 rb λt T6=>?_;subst T6;exact J8 ra (h _ s (.refl i) ra)
theorem RB(ok:ot W P)(i:Inv W φ σ s.heap){op:Kn}{a b v:V}{x:af}(ra:mT W φ s.heap a x)(rb:mT W φ s.heap b y)(e:wv P σ op a b=some v)(h:∀z s',Good W [] φ s σ φ s'->mT W φ s'.heap v z->Q z s'):an W.M A (ft op.py x y) Q E s:=by
 cases op with
 |add=>
  rcases m8 e with e | e
  .exact JZ i ra rb e h
  rcases m8 e with e | e
  .exact J1 i ra rb e h
  rcases m8 e with e | e
  .exact J2 ok i ra rb e h
  .exact J0 i ra rb e h
 |sub=>exact Kb i ra rb e h
 |mul=>exact (m8 e).elim (λe=>J7 i ra rb e h) λe=>J9 i ra rb e h
 |mod=>exact J6 i ra rb e h
end
noncomputable def pc(S:List aI)(ks:List Nat):List aI:=ks.map λk=>(S[k]?).getD ⟨#[]⟩
theorem BB(k:Nat)(l:List Nat):(Ks k l).Perm (k::l):=by
 induction l with
 |nil=>exact .refl _
 |cons a l ih=>
  by_cases hk:k<=a
  .rw[show Ks k (a::l)=k::a::l from if_pos hk]
  .rw[show Ks k (a::l)=a::Ks k l from if_neg hk];exact (ih.cons a).trans (.swap _ _ _)
theorem qI:∀l:List Nat,(rP l).Perm l
 |[]=>.refl _
 |a::l=>(BB a _).trans ((qI l).cons a)
theorem Dv(k:Nat){l:List Nat}:l.Pairwise (·<=·)->(Ks k l).Pairwise (·<=·):=by
 induction l with
 |nil=>exact λZ=>iw _ _
 |cons a l ih=>
  intro h;have h':=du.mp h
  by_cases hk:k<=a
  .rw[show Ks k (a::l)=k::a::l from if_pos hk];exact du.mpr ⟨λb hb=>(aA.mp hb).elim (λe=>e▸hk) λhb=>az hk (h'.1 b hb),h⟩
  .rw[show Ks k (a::l)=a::Ks k l from if_neg hk];exact du.mpr ⟨λb hb=>(aA.mp ((BB k l).mem_iff.mp hb)).elim (λe=>e▸Nat.le_of_not_le hk) (h'.1 b),ih h'.2⟩
theorem rn:∀l:List Nat,(rP l).Pairwise (·<=·)
 |[]=>.nil
 |a::l=>Dv a (rn l)
theorem zQ(l:List Nat):(rP l).length=l.length:=(qI l).length_eq
theorem GM(hS:S.Pairwise λa b=>fH a.cps.toList b.cps.toList=true):∀{p:Nat},p < S.length->(∀k∈ks,k < S.length)->risingS ((S[p]?).getD ⟨#[]⟩) (pc S ks)=true->(p::ks).Pairwise (·<=·):=by
 induction ks with
 |nil=>exact λZ Z Z=>iw _ _
 |cons k ks ih=>
  intro p hp hk h;have YA:=hk k ah;have h:=b2 (show (!fH ((S[k]?).getD ⟨#[]⟩).cps.toList ((S[p]?).getD ⟨#[]⟩).cps.toList&&risingS ((S[k]?).getD ⟨#[]⟩) (pc S ks))=true from h)
  have Y6:p<=k:=by
   refine kt λq=>?_;have e:=List.pairwise_iff_getElem.mp hS k p YA hp q;have h1:=h.1;rw[au YA,au hp,ix,ix,e] at h1;exact mP h1
  have ih:=ih YA (λj hj=>hk j (ao _ hj)) h.2;exact du.mpr ⟨λb hb=>(aA.mp hb).elim (λe=>e▸Y6) λhb=>az Y6 ((du.mp ih).1 b hb),ih⟩
theorem vm{f:α->β}{n m:List β}(h:n.Perm m):∀l:List α,n=l.map f->∃l':List α,l'.Perm l/\m=l'.map f:=by
 induction h with
 |nil=>exact λl e=>⟨l,.refl _,e⟩
 |cons x _ ih=>
  intro l e
  cases l with
  |nil=>cases e
  |cons a l=>
   refine mO (ih l (List.tail_eq_of_cons_eq e)) λl' h1 h2=>?_;exact⟨a::l',h1.cons a,by rw[h2,List.head_eq_of_cons_eq e];rfl⟩
 |swap x y r=>
  intro l e
  cases l with
  |nil=>cases e
  |cons a l=>cases l with
   |nil=>cases e
   |cons b l=>exact⟨b::a::l,.swap _ _ _,by cases e;rfl⟩
 |trans _ _ T7 T4=>
  intro l e;refine mO (T7 l e) λl' h1 h2=>?_;refine mO (T4 l' h2) λZF h3 h4=>?_;exact⟨ZF,h3.trans h1,h4⟩
theorem zR(hS:S.Pairwise λa b=>fH a.cps.toList b.cps.toList=true)(hk:∀k∈ks,k < S.length){ss:List aI}(hp:ss.Perm (pc S ks))(hs:sortedS ss=true):ss=pc S (rP ks):=by
 refine mO (vm hp.symm ks rfl) λUX h1 Ua=>?_;subst Ua;have hk':∀k∈UX,k < S.length:=λk h=>hk k (h1.mem_iff.mp h)
 have hle:UX.Pairwise (·<=·):=by
  cases UX with
  |nil=>exact .nil
  |cons p r=>exact GM hS (hk' p ah) (λk h=>hk' k (ao _ h)) hs
 have:UX=rP ks:=ic (λa b Z Z h1 h2=>cY h1 h2) hle (rn ks) (h1.trans (qI ks).symm);rw[this];rfl
section
variable {W:Wd}{A:aH}{E:af->ag->Prop}{s:ag}{φ:List ai}{σ:St}{Q:af->ag->Prop}{P:Pg}
theorem qg{k:Nat}{s:aI}(h:S[k]?=some s)(ks:List Nat):pc S (k::ks)=s::pc S ks:=by
 show ((S[k]?).getD ⟨#[]⟩)::pc S ks=_;rw[h];rfl
theorem JR:∀{xs:List af} {ks:List Nat},nf W φ h l xs->yf l=some ks->fq xs (pc W.S ks)/\∀k∈ks,k < W.S.length:=by
 induction l with
 |nil=>
  intro xs ks r e;rw[show xs=[] from r,<-ae e];exact⟨.nil,λZ h=>nomatch h⟩
 |cons v l ih=>
  intro xs ks r e;refine mO (bs e) λk e1 e=>?_;refine mO (ms e) λUX e2 e=>?_;refine mU r λy ys h1 rv rl=>?_;rw[oF e1] at rv;refine nr rv λs t hs h2=>?_;have ih:=ih rl e2;rw[h1,h2,<-e,qg hs];exact⟨.cons s t ih.1,λj hj=>(aA.mp hj).elim (λq=>q▸nO hs) (ih.2 j)⟩
theorem GL:∀{xs:List af},(∀k∈ks,k < W.S.length)->fq xs (pc W.S ks)->nf W φ h (ks.map .sym) xs:=by
 induction ks with
 |nil=>intro xs _ r;cases r;rfl
 |cons k ks ih=>
  intro xs hk r;have e:=au (hk k ah);rw[qg e] at r
  cases r with
  |cons y t r=>exact⟨_,_,rfl,⟨_,t,e,rfl⟩,ih (λj hj=>hk j (ao _ hj)) r⟩
def Ez(W:Wd)(φ:List ai)(s:ag)(σ:St)(m:Bool)(l:List V)(TV:List ai)(y:af)(s':ag):Prop:=match m with
 |true=>Good W [] φ s (σ++[.list l]) TV s'/\mT W TV s'.heap (.obj σ.length) y
 |false=>Good W [] φ s σ TV s'/\mT W TV s'.heap (.lst l) y
theorem Good.newL(i:Inv W φ σ s.heap)(m:Bool){a:ai}{n t:Nat}(ha:s.heap.get? a=none)(k:∀b o,s.heap.get? b=some o->h'.get? b=some o)(e:h'.get? a=some (pF xs n))(hz:xs.length<=bp)(r:nf W φ s.heap l xs):∃TV,Ez W φ s σ m l TV (.ref a) {s with heap:=h',toks:=t}:=by
 cases m with
 |true=>exact⟨φ++[a],Good.allocAt i _ ha k ⟨xs,n,hz,e,r.evo (X:=[]) (.of_keeps k) (Apart.nil _ _ _) (.one _ _ ha)⟩,⟨_,i.last a,rfl⟩⟩
 |false=>exact⟨φ,Good.keeps i k,⟨_,xs,n,rfl,i.notin ha,hz,e,r.evo (X:=[]) (.of_keeps k) (Apart.nil _ _ _) (.refl _ _)⟩⟩
theorem tZ(k:∀b o,h.get? b=some o->h'.get? b=some o){a:ai}(ha:h'.get? a=none):h.get? a=none:=by
 cases q:h.get? a with
 |none=>rfl
 |some o=>exact mV (ha.symm.trans (k _ _ q))
theorem Po(ok:ot W P){D:ai}{n:Nat}(hD:s.heap.get? D=some (pF xs n))(hs:fq xs (pc W.S ks))(hk:∀k∈ks,k < W.S.length)(hl:ks.length<=16)(h:∀h' ys m,(∀b o,b≠D->s.heap.get? b=some o->h'.get? b=some o)->h'.get? D=some (pF ys m)->fq ys (pc W.S (rP ks))->Q .none {s with heap:=h'}):
  an W.M A (call (.builtin "list.sort") [.ref D]) Q E s:=by
 refine a9 slot_list_sort ⟨_,hD,rfl⟩ entry_list_sort ?_ (args_list_sort _);refine list_sort_treeK strKind_oneLt hD hs.keysOf (λWK Wk rest e=>keyKind_strs (by rw[<-e];exact hs)) (by rw[hs.length,pc,aU];omega) λXd hp hst=>⟨_,rfl,?_⟩;refine nP (sorted_out_str hs hp hst) λWN a1 a2 a3=>?_;have e:=zR ok.order hk a2 a3;subst e;refine m4 (sortedHeap_at (h:=s.heap) (a:=D) (vs:=xs) (n:=n) (out:=(arrOf Xd).map (·.2)) hD) λm hm=>?_;refine h _ ((arrOf Xd).map (·.2)).toList m (λb o hb e=>?_) (by rw[hm]) a1;rw[sortedHeap_old hb (aX e)];exact e
theorem yd(hs:fq xs (pc S ks))(hl:ks.length<=16):xs.length<=bp:=by
 rw[hs.length,pc,aU,cu];exact az hl (by decide)
theorem Ip{UX:List Nat}(h:UX.Perm ks):rP UX=rP ks:=ic (λa b Z Z h1 h2=>cY h1 h2) (rn UX) (rn ks) ((qI UX).trans (h.trans (qI ks).symm))
theorem yl(ok:ot W P)(i:Inv W φ σ s.heap){x:af}(m:Bool)(hk:∀k∈ks,k < W.S.length)(hl:ks.length<=16)(hc:∀R:List af->ag->Prop,(∀h' dr tk xs UX,(∀b o,s.heap.get? b=some o->h'.get? b=some o)->UX.Perm ks->fq xs (pc W.S UX)->R xs {s with heap:=h',drawn:=dr,toks:=tk})->an W.M A.in1 (mx x) R E s)(h:∀TV y s',Ez W φ s σ m ((rP ks).map .sym) TV y s'->Q y s'):
  an W.M A (call (.builtin "sorted") [x]) Q E s:=by
 refine call_function_entry kind_sorted plain_sorted entry_sorted (args_sorted1 _) ?_;unfold b7.«sorted»;refine ac (m:=checkCount "sorted" 1 1 _) (al (ac (hc _ λh' dr tk xs UX hk' hp hs=>ac ?_)));have hl':UX.length<=16:=hp.length_eq▸hl;have hi:=Ip hp;refine wpAny_newList ?_ (yd hs hl');have hD:(h'.push (pF xs 0)).get? h'.objs.size=some (pF xs 0):=ax _ rfl;have hfree:=tZ hk' (m9 h');refine ac (aK (Po (s:={s with heap:=h'.push (pF xs 0),drawn:=dr,toks:=tk}) ok hD hs (λk hm=>hk k (hp.mem_iff.mp hm)) hl' λUE ys n Xz hD' Um=>al ⟨_,rfl,?_⟩));rw[hi] at Um;obtain ⟨TV,g⟩:=Good.newL (t:=tk) i m hfree (λb o e=>Xz b o (λq=>mV (hfree.symm.trans (q▸e))) (aj _ (hk' b o e))) hD' (yd Um (by rw[zQ];exact hl))
  (GL (λk hm=>hk k ((qI ks).mem_iff.mp hm)) Um)
 refine h TV _ _ ?_
 cases m with
 |true=>exact⟨⟨g.1.grows,g.1.evo,g.1.inv,g.1.gens,g.1.os⟩,g.2⟩
 |false=>exact⟨⟨g.1.grows,g.1.evo,g.1.inv,g.1.gens,g.1.os⟩,g.2⟩
end
noncomputable def BI.py:BI->af
 |.len=>.builtin "len" |.any=>.builtin "any" |.sorted _=>.builtin "sorted" |.list _=>.type "list" |.tuple=>.type "tuple" |.dict=>.type "dict"
section
variable {s:ag}{P:Pg}
theorem RD(i:Inv W φ σ s.heap){v:V}{x:af}(r:mT W φ s.heap v x)(e:sd σ v=some l)(h:∀y s',Good W [] φ s σ φ s'->mT W φ s'.heap (.int l.length) y->Q y s'):
  an W.M A (call (.builtin "len") [x]) Q E s:=by
 refine mZ (tQ i r e) λa xs n Uc hz rl ho=>?_;subst Uc
 have hq:Q (.int xs.toArray.size (s.toks+1)) {s with toks:=s.toks+1+1}:=by
  refine h _ _ (Good.tok i) ⟨s.toks+1,?_⟩;rw[aY,rl.length]
 rw[cu] at hz
 rcases ho with ho | ho
 .exact len_tuple (items:=xs.toArray) (⟨_,ho,rfl,n,rfl⟩:IsTup s.heap a xs.toArray) (by rw[aY];omega) hq
 .exact call_len_list ⟨_,ho,rfl,n,rfl⟩ (by rw[aY];omega) hq
theorem F9:∀{xs:List af} {bs:List Bool},nf W φ h l xs->tX l=some bs->LSm.BoolsAre xs bs:=by
 induction l with
 |nil=>intro xs bs r e;rw[show xs=[] from r,<-ae e];exact .nil
 |cons v l ih=>
  intro xs bs' r e;refine mO (bs e) λb e1 e=>?_;refine mO (ms e) λaaz e2 e=>?_;refine mU r λy ys h1 rv rl=>?_;rw[pP e1] at rv;rw[h1,<-e,show y=.bool b from rv];exact .cons b (ih rl e2)
theorem w_any(hh:A.handled=none)(i:Inv W φ σ s.heap){v:V}{x:af}{bs:List Bool}(r:mT W φ s.heap v x)(e:r4 σ v=some l)(eb:tX l=some bs)(h:∀y s',Good W [] φ s σ φ s'->mT W φ s'.heap (.bool (bs.any id)) y->Q y s'):an W.M A (call (.builtin "any") [x]) Q E s:=by
 refine mZ (sE i r e) λa xs n Uc hz rl ho=>?_;subst Uc;have hl:s.heap.IsList a xs.toArray:=⟨_,ho,rfl,n,rfl⟩;have hb:=F9 rl eb;have hlt:a < s.heap.objs.size:=aX ho;refine call_any_walk (d7 hl ?_)
 refine⟨s.heap.objs.size,[s.heap.objs.size,a],[s.heap.objs.size],xs.toArray.size,_,_,λi=>(bs[i]?).getD false,rfl,jN (A:=A.in1) hh _ a (aS hlt) xs.toArray,
  ⟨⟨_,ax _ rfl,rfl,rfl⟩,hl.push _⟩,λi v s' Q' E' hP hQ=>?_,λh' tk hk=>?_⟩
 .refine mO (hb.get i v ((dY).symm.trans hP)) λb e Ua=>?_;subst Ua;simp only[e,ix] at hQ;exact c7 hQ
 .have e:((aM xs.toArray.size).any λi=>(bs[i]?).getD false)=bs.any id:=by
   rw[aY,hb.length];exact LSm.range_any bs
  rw[e];exact h _ _ (Good.keeps i (LSm.kept_iter hk)) rfl
theorem mS.newL{c:Cx}{m:Bool}(h:mS W c φ s (newL m l σ) (mT W) Q E)(g:Ez W φ s σ m l TV y s'):Q y s':=by
 cases m with
 |true=>exact h TV y s' g.1 g.2
 |false=>exact h TV y s' g.1 g.2
theorem Iv{l:List (Nat×V)}:∀{kvs:List (aI×af)},n8 W φ h l kvs->kvs.map (·.1)=pc W.S (l.map (·.1))/\∀k∈l.map (·.1),k < W.S.length:=by
 induction l with
 |nil=>intro kvs r;rw[show kvs=[] from r];exact⟨rfl,λZ h=>nomatch h⟩
 |cons p l ih=>
  intro kvs r;refine mZ r λs y ys e hk Z r=>?_;have ih:=ih r;rw[e,ie,ie,qg hk,ih.1];exact⟨rfl,λj hj=>(aA.mp hj).elim (λe=>e▸nO hk) (ih.2 j)⟩
theorem Dx{k:aI}(h:(aC W.prog W.w).is k y=true):∃t,y=.str k t:=by
 simp only[aC] at h
 cases y<;>simp [ig] at h
 subst h;exact⟨_,rfl⟩
theorem AP:∀{kvs:List (aI×af)},xs.length=kvs.length->(∀(j:Nat) (v:af),xs[j]?=some v->∃k x,kvs[j]?=some (k,x)/\(aC W.prog W.w).is k v=true)->fq xs (kvs.map (·.1)):=by
 induction xs with
 |nil=>intro kvs e _;cases kvs with | nil=>exact .nil | cons _ _=>cases e
 |cons y xs ih=>
  intro kvs e hp
  cases kvs with
  |nil=>cases e
  |cons p kvs=>
   refine nr (hp 0 y rfl) λk x h1 h2=>?_;rw[show p=(k,x) from ae h1];refine m4 (Dx h2) λt h2=>?_;rw[h2];exact .cons k t (ih (c0 e) λj v hj=>hp (j+1) v hj)
theorem G1(ok:ot W P)(hh:A.handled=none)(i:Inv W φ σ s.heap){v:V}{x:af}(r:mT W φ s.heap v x)(e:keysOf σ v=some ks)(hl:ks.length<=16):
  (∀k∈ks,k < W.S.length)/\∀R:List af->ag->Prop,(∀h' dr tk xs UX,(∀b o,s.heap.get? b=some o->h'.get? b=some o)->UX.Perm ks->fq xs (pc W.S UX)->R xs {s with heap:=h',drawn:=dr,toks:=tk})->an W.M A.in1 (mx x) R E s:=by
 rcases m8 e with e | e
 .refine mO (ms e) λl hd Ua=>?_;subst Ua;refine pN (qS ok.sys i r hd) λa kvs Ua rd Ve Uz=>?_;subst Ua;refine m4 Ve.dictAt λep Ur=>?_;have hk:=Iv rd
  have Xx:kvs.length<=bp:=by
   rw[rd.length,cu];rw[aU] at hl;exact az hl (by decide)
  refine⟨hk.2,λR hR=>kdu_collect (A:=A.in1) (kdl_dict (knd:=aC W.prog W.w) (kvs:=kvs) (ep:=ep) Uz) hh Ur Xx λh' tk acc hk' V6=>hR h' s.drawn tk acc.toList _ hk' (.refl _) ?_⟩;rw[<-hk.1];exact AP (W:=W) (bF.trans V6.1) λj v e=>V6.2 j v (dW.symm.trans e)
 .refine mO (bs e) λl hs hk=>?_;refine mZ (tQ i r hs) λa xs n Uc hz rl ho=>?_;subst Uc;have hs:=JR rl hk;refine⟨hs.2,λR hR=>?_⟩
  rcases ho with ho | ho
  .exact kb (A:=A.in1) a (T:="tuple") (.inr rfl) ho rfl rfl (λh' hk'=>hR h' s.drawn s.toks _ _ hk' (.refl _) hs.1) hz
  .exact kb (A:=A.in1) a (T:="list") (.inl rfl) ho rfl rfl (λh' hk'=>hR h' s.drawn s.toks _ _ hk' (.refl _) hs.1) hz
theorem Pi(i:Inv W φ σ s.heap){m:Bool}{v:V}{x:af}(r:mT W φ s.heap v x)(e:sd σ v=some l)(h:∀TV y s',Ez W φ s σ m l TV y s'->Q y s'):an W.M A (call (.type "list") [x]) Q E s:=by
 refine mZ (tQ i r e) λa xs n Uc hz rl ho=>?_;subst Uc;have fin:∀h' c',(∀b o',s.heap.get? b=some o'->h'.get? b=some o')->h'.get? s.heap.objs.size=some {cls:=.type "list",dict:=none,data:=.seq xs.toArray c',slots:=#[]}->Q (.ref s.heap.objs.size) {s with heap:=h'}:=λh' c' k e=>
  (Good.newL (t:=s.toks) i m (m9 _) k e hz rl).elim λTV g=>h TV _ _ g
 rcases ho with ho | ho
 .exact call_list_seq a (T:="tuple") (.inr rfl) ho rfl rfl fin hz
 .exact call_list_seq a (T:="list") (.inl rfl) ho rfl rfl fin hz
theorem Mi(i:Inv W φ σ s.heap){v:V}{x:af}(r:mT W φ s.heap v x)(e:r4 σ v=some l)(h:∀y s',Good W [] φ s σ φ s'->mT W φ s'.heap (.tup l) y->Q y s'):an W.M A (call (.type "tuple") [x]) Q E s:=by
 refine mZ (sE i r e) λa xs n Uc hz rl ho=>?_;subst Uc;refine call_tuple_list (items:=xs.toArray) ⟨_,ho,rfl,n,rfl⟩ (λh' k=>?_) hz;have k':∀b o,s.heap.get? b=some o->(h'.push (qY xs 0)).get? b=some o:=λb o e=>aj _ (k b o e);exact h _ _ (Good.keeps i k') ⟨_,xs,0,rfl,i.notin (tZ k (m9 h')),hz,ax _ rfl,rl.evo (X:=[]) (.of_keeps k') (Apart.nil _ _ _) (.refl _ _)⟩
theorem Pb(ok:ot W P)(i:Inv W φ σ s.heap){v:V}{x:af}{l:List (Nat×V)}(r:mT W φ s.heap v x)(hd:qr σ v=some l)(hl:l.length<=ni)(h:∀TV y s',Good W [] φ s (σ++[.dict l]) TV s'->mT W TV s'.heap (.obj σ.length) y->Q y s'):
  an W.M A (call (.type "dict") [x]) Q E s:=by
 refine pN (qS ok.sys i r hd) λa kvs Ua rd Ve Uz=>?_;subst Ua;refine kt_call_dict Uz Ve (by rw[rd.length];exact n5 hl) λh' XD Um=>?_;have k:∀b o,s.heap.get? b=some o->h'.get? b=some o:=λb o e=>(Um.2 b (aS (aX e))).trans (aj _ e);exact h (φ++[s.heap.objs.size]) _ _ (Good.allocAt (t:=s.toks) i _ (m9 _) k ⟨kvs,XD,rd.evo (X:=[]) (.of_keeps k) (Apart.nil _ _ _) (.one _ _ (m9 _))⟩) ⟨_,i.last _,rfl⟩
theorem SU(ok:ot W P){c:Cx}{b:BI}{v:V}{x:af}(hh:b.loud=true->A.handled=none)(i:Inv W φ σ s.heap)(r:mT W φ s.heap v x)(h:mS W c φ s (DX σ b v) (mT W) Q E):an W.M A (call b.py [x]) Q E s:=by
 cases b with
 |len=>
  refine mO (mS.of h) λu hu h=>?_;refine mO (ms hu) λl hl Ua=>?_;subst Ua;exact RD i r hl h
 |any=>
  refine mO (mS.of h) λu hu h=>?_;refine mO (bs hu) λl hl hu=>?_;refine mO (ms hu) λbs hb Ua=>?_;subst Ua;exact w_any (hh rfl) i r hl hb h
 |sorted m=>
  refine mO (mS.opt h) λks hk h=>?_;have w:=G1 (E:=E) ok (hh rfl) i r hk h.gd.1;exact yl (P:=P) ok i m w.1 h.gd.1 w.2 λTV y s' g=>h.gd.2.newL g
 |list m=>
  refine mO (mS.opt h) λl hl h=>?_;exact Pi i r hl λTV y s' g=>h.gd.2.newL g
 |tuple=>
  refine mO (mS.of h) λu hu h=>?_;refine mO (bs hu) λl hl hu=>?_;refine nE (nu hu) λZ T6=>?_;subst T6;exact Mi i r hl h
 |dict=>
  refine mO (mS.opt h) λl hl h=>?_;exact Pb ok i r hl h.gd.1 h.gd.2
end
noncomputable def BM.name:BM->aI
 |.append=>"append" |.pop0=>"pop" |.pop1=>"pop" |.get1=>"get" |.get2=>"get" |.update=>"update"
noncomputable def BM.id:BM->String
 |.append=>"list.append" |.pop0=>"list.pop" |.pop1=>"list.pop" |.get1=>"dict.get" |.get2=>"dict.get" |.update=>"dict.update"
theorem tz{p:bA}{a:ai}(d:h.DictOf (aC p w) a kvs):(kvs.map (·.1)).Nodup:=by
 refine qd d λZ Z Z Z Z Z Z Z hn=>?_;exact hn
theorem rO{p:bA}{a:ai}(d:h.DictOf (aC p w) a kvs):∃o,h.get? a=some o:=by
 refine oI d λo Z Z e Z=>?_;exact⟨o,e⟩
theorem AO{s:aI}{x:af}(hn:(kvs.map (·.1)).Nodup):((fM kvs s x).map (·.1)).Nodup:=by
 unfold fM
 split
 .rw[mn,db (g:=(·.1)) λp Z=>by
   show (if p.1=s then (p.1,x) else p).1=p.1
   split<;>rfl]
  exact hn
 .rename_i h;rw[lh];refine d6.mpr ⟨hn,bM.mpr ⟨iu,.nil⟩,λa ha b hb e=>?_⟩;refine mO (bK.mp ha) λp hp hq=>?_;exact h (bU.mpr ⟨p,hp,decide_eq_true (hq.trans (e.trans (am.mp hb)))⟩)
theorem n8.merge(hS:W.S.Nodup){r:List (Nat×V)}:∀{l:List (Nat×V)} {kvs more:List (aI×af)},n8 W φ h l kvs->(kvs.map (·.1)).Nodup->n8 W φ h r more->n8 W φ h (yt l r) (merged kvs more):=by
 induction r with
 |nil=>intro l kvs more a _ b;rw[show more=[] from b];exact a
 |cons p r ih=>
  intro l kvs more a hn b;refine mZ b λs x ys e hk rv b=>?_;rw[e];exact ih (kvs:=fM kvs s x) (n8.set hS hk rv a hn) (AO hn) b
section
variable {W:Wd}{A:aH}{E:af->ag->Prop}{s:ag}{φ:List ai}{σ:St}{Q:af->ag->Prop}{P:Pg}
theorem wc(i:Inv W φ σ s.heap){n:Nat}{l':List V}{a:ai}{xs':List af}(e:σ[n]?=some (.list l))(ha:φ[n]?=some a)(ho:s.heap.get? a=some (pF xs m)){f:Array af->Array af}(hf:f xs.toArray=xs'.toArray)(hz:xs'.length<=bp){t:Nat}(r:nf W φ s.heap l' xs'):Good W [] φ s (σ.set n (.list l')) φ {s with heap:=s.heap.update a (cS f),toks:=t}/\∀v y,mT W φ s.heap v y->mT W φ (s.heap.update a (cS f)) v y:=by
 have hnew:∃k,(s.heap.update a (cS f)).get? a=some (pF xs' k):=by
  have h1:=aW (cS f) ho (by rfl);exact⟨if (xs'.toArray.size==xs.toArray.size)=true then m else m+1,by rw[h1];simp only[cS,hf,pF]⟩
 refine m4 hnew λk hk=>?_;have hs:bf a s.heap (s.heap.update a (cS f)):=ct ..;refine nE (r8 (W:=W) (φ:=φ) (s:=s) (aF ha) hs ⟨_,hk⟩) λev ap=>?_;refine⟨Good.set i e ha hs ⟨_,hk⟩ ⟨xs',k,hz,hk,r.evo ev ap (.refl _ _)⟩,λv y rv=>rv.evo ev ap (.refl _ _)⟩
theorem Ds{j:Int}{n:Nat}(h0:0<=j)(h:j.toNat<=n)(hz:n<=bp):b7.List.listFitsIndex j=true:=by
 rw[cu] at hz;have e:=QH (bP (by decide) h0) (bV h0▸bP (gm.mpr (az h hz)) (by decide));exact bj.mpr ⟨decide_eq_true e.1,decide_eq_true e.2⟩
theorem DZ(i:Inv W φ σ s.heap){n:Nat}{a:ai}(ha:φ[n]?=some a){u:V}{Xg:List (Nat×V)}(ry:mT W φ s.heap u (.ref b))(hd:qr σ u=some Xg)(hn:xW u n=true):a≠b:=by
 intro q;rw[q] at ha
 rcases m8 hd with e | e
 .rw[wQ e] at ry;refine mU ry λa' Z hq hb' Z=>?_
  cases hq
  exact hb'.1 (aF ha)
 .refine mO (bs e) λm e1 Z=>?_;rw[nJ e1] at ry;refine mO ry λa' X4 hq=>?_
  cases hq
  have ZR:m=n:=(fo (nO X4) i.nodup).mp (X4.trans ha.symm);rw[xW,e1,ZR,bne_self_eq_false] at hn;exact mP hn
theorem mS.onL{c:Cx}{v:V}{f:Nat->List V->R Unit V}(h:mS W c φ s (onL σ v f) (mT W) Q E):∃n l,v=.obj n/\σ[n]?=some (.list l)/\mS W c φ s (f n l) (mT W) Q E:=by
 refine mO (mS.opt h) λn h1 h=>?_;refine mO (mS.opt h) λl h2 h=>?_;exact⟨n,l,nJ h1,listAt_eq h2,h⟩
def M6(W:Wd)(φ:List ai)(h:aB)(n:Nat)(x:af)(l:List V):Prop:=∃a xs k,φ[n]?=some a/\x=.ref a/\xs.length<=bp/\h.get? a=some (pF xs k)/\nf W φ h l xs
theorem zX(i:Inv W φ σ s.heap){n:Nat}{x:af}(r:mT W φ s.heap (.obj n) x)(e:σ[n]?=some (.list l)):M6 W φ s.heap n x l:=by
 refine mO r λa ha h1=>?_;refine mU (i.rep n _ a e ha) λxs k hz e r=>?_;exact⟨a,xs,k,ha,h1,hz,e,r⟩
section
variable {c:Cx}{v:V}{l:List V}{x:af}{ys:List af}(i:Inv W φ σ s.heap)(r:mT W φ s.heap v x)(rl:nf W φ s.heap l ys)
include i r rl
theorem J3(h:mS W c φ s (xU σ .append v l) (mT W) Q E):an W.M A (call (.builtin "list.append") (x::ys)) Q E s:=by
 refine mO (mS.opt h) λu h1 h=>?_;refine mO (mS.opt h) λZ h2 h=>?_;obtain ⟨n,l₀,rfl,e,h⟩:=mS.onL h;obtain ⟨a,xs,k,ha,rfl,hz,ho,r0⟩:=zX i r e;rw[Be h1 h2] at rl;obtain ⟨y,rfl,ry⟩:=rl.one_inv;have g:=(wc (t:=s.toks) i e ha ho (f:=(·.push y)) (xs':=xs++[y]) (l':=l₀++[u]) (jZ ..) (by rw[aL,r0.length];exact n5 h.gd.1) (r0.append (.one ry))).1;exact iJ jH ⟨_,ho,rfl⟩ F.entry_list_append (F.args_list_append_2 _ _) (list_append a xs.toArray k y hz) ⟨ho,h.gd.2 _ _ _ g rfl⟩
theorem Pm(h:mS W c φ s (xU σ .pop0 v l) (mT W) Q E):an W.M A (call (.builtin "list.pop") (x::ys)) Q E s:=by
 refine mO (mS.opt h) λZ h2 h=>?_;obtain ⟨n,l₀,rfl,e,h⟩:=mS.onL h;obtain ⟨u,hg,h⟩:=mS.opt h;obtain ⟨a,xs,k,ha,rfl,hz,ho,r0⟩:=zX i r e;rw[rj h2] at rl;rw[show ys=[] from rl];rw[eJ] at hg;refine mO (r0.get hg) λy hy ry=>?_
 have hl1:l₀.length - 1=xs.length - 1:=by rw[r0.length]
 rw[hl1] at hy;have g:=wc (t:=s.toks) i e ha ho (f:=λz=>z.eraseIdxIfInBounds (xs.toArray.size - 1)) (xs':=xs.dropLast) (l':=l₀.dropLast)
  (by
   simp only[aY,ia,nO hy,dite_true]
   rw[i5,List.eraseIdx_length_sub_one])
  (by rw[List.length_dropLast];exact az (Nat.sub_le _ _) hz) (by rw[dX,dX,hl1];exact r0.take _)
 exact iJ fW ⟨_,ho,rfl⟩ km (F.args_list_pop_1 _) (MeetsSeq.list_pop_last a xs.toArray k y (Kt hy) hz) ⟨ho,h _ _ _ g.1 (g.2 _ _ ry)⟩
theorem Pn(h:mS W c φ s (xU σ .pop1 v l) (mT W) Q E):an W.M A (call (.builtin "list.pop") (x::ys)) Q E s:=by
 refine mO (mS.opt h) λj h1 h=>?_;refine mO (mS.opt h) λZ h2 h=>?_;obtain ⟨n,l₀,rfl,e,h⟩:=mS.onL h;have hj:=h.gd.1;refine mO (mS.opt h.gd.2) λu hg h=>?_;refine nk (zX i r e) λa xs k ha Wj hz ho r0=>?_;subst Wj;refine mO (bs h1) λw h1 h3=>?_;rw[Be h1 h2,nS h3] at rl;refine OI rl.one_inv λy0 T6 t0 Uc=>?_;subst T6;subst Uc;refine mO (r0.get hg) λy hy ry=>?_;have hk:=nO hy;have g:=wc (t:=s.toks) i e ha ho (f:=λz=>z.eraseIdxIfInBounds j.toNat) (xs':=xs.eraseIdx j.toNat) (l':=l₀.eraseIdx j.toNat)
  (by
   simp only[ia,aY,hk,dite_true]
   rw[i5])
  (az (List.length_eraseIdx_le xs j.toNat) hz) (r0.eraseIdx _)
 exact iJ fW ⟨_,ho,rfl⟩ km (F.args_list_pop_2 _ _) (MeetsSeq.list_pop_at a xs.toArray k j t0 j.toNat y (Ds hj (gr hk) hz) (vw hj hk) (Kt hy) hz) ⟨ho,h _ _ _ g.1 (g.2 _ _ ry)⟩
theorem Pd(ok:ot W P)(h:mS W c φ s (xU σ .get1 v l) (mT W) Q E):an W.M A (call (.builtin "dict.get") (x::ys)) Q E s:=by
 refine mO (mS.opt h) λk h1 h=>?_;refine mO (mS.opt h) λZ h2 h=>?_;refine mO (mS.of h) λu hu h=>?_;refine mO (ms hu) λl₀ hd Ua=>?_;subst Ua;refine pN (qS ok.sys i r hd) λa kvs Ua rd Ve Uz=>?_;subst Ua;refine mO (bs h1) λw h1 h3=>?_;rw[Be h1 h2,oF h3] at rl;refine I1 rl.one_inv λy T6 nm t hS W9=>?_;subst T6;subst W9;refine j6 fV Ve.typeIs kl (F.args_dict_get_2 _ _) (meets_dict_get (aC W.prog W.w) a (dH _ _ nm t) Uz) ⟨_,Ve.mapOf,h _ _ (Good.tok i) ?_⟩;have g:=rd.look ok.nodup hS
 cases e:qj l₀ k with
 |none=>rw[e] at g;rw[show _=none from g];rfl
 |some u=>rw[e] at g;refine mO g λz hz rz=>?_;rw[hz];exact rz
theorem Pe(ok:ot W P)(h:mS W c φ s (xU σ .get2 v l) (mT W) Q E):an W.M A (call (.builtin "dict.get") (x::ys)) Q E s:=by
 refine mO (mS.opt h) λk h1 h=>?_;refine mO (mS.opt h) λv' h2 h=>?_;refine mO (mS.opt h) λZ h0 h=>?_;refine mO (mS.of h) λu hu h=>?_;refine mO (ms hu) λl₀ hd Ua=>?_;subst Ua;refine pN (qS ok.sys i r hd) λa kvs Ua rd Ve Uz=>?_;subst Ua;refine mO (bs h1) λw h1 h3=>?_;rw[PX h1 h2 h0,oF h3] at rl;refine mU rl.two_inv λy y' Ua Xa Zz=>?_;subst Ua;obtain ⟨nm,t,hS,rfl⟩:=Xa;refine j6 fV Ve.typeIs kl (F.args_dict_get_3 _ _ _) (meets_dict_get_default (aC W.prog W.w) a (dH _ _ nm t) Uz y') ⟨_,Ve.mapOf,h _ _ (Good.tok i) ?_⟩;have g:=rd.look ok.nodup hS
 cases e:qj l₀ k with
 |none=>rw[e] at g;rw[show _=none from g];exact Zz
 |some u=>rw[e] at g;refine mO g λz hz rz=>?_;rw[hz];exact rz
theorem Kc(ok:ot W P)(h:mS W c φ s (xU σ .update v l) (mT W) Q E):an W.M A (call (.builtin "dict.update") (x::ys)) Q E s:=by
 refine mO (mS.opt h) λd h1 h=>?_;refine mO (mS.opt h) λZ h2 h=>?_;refine mO (mS.opt h) λn hv h=>?_;refine mO (mS.opt h) λl₀ e h=>?_;refine mO (mS.opt h) λXg hd h=>?_;have hl:=h.gd.1;have h:=h.gd.2;have e:=rD e;rw[nJ hv] at r;refine mO r λa ha Ua=>?_;subst Ua;refine mO (i.rep n _ a e ha) λkvs Ve rd=>?_;rw[Be h1 h2] at rl;refine mO rl.one_inv λy T6 ry=>?_;subst T6;refine pN (qS ok.sys i ry hd) λb more Ua YX YF Xs=>?_;subst Ua;refine j6 jG Ve.typeIs F.entry_dict_update (F.args_dict_update_2 _ _) (meets_dict_update (aC W.prog W.w) a b (DZ i ha ry hd hl.2) Xs)
  ⟨kvs,more,Ve,YF,by rw[rd.length,YX.length];exact n5 hl.1,λh' hm Z hs=>?_⟩
 have ev:=r8 (W:=W) (φ:=φ) (s:=s) (aF ha) hs (rO hm);exact h _ _ _ (Good.set (t:=s.toks) i e ha hs (rO hm) ⟨_,hm,(rd.merge ok.nodup (tz Ve) YX).evo ev.1 ev.2 (.refl _ _)⟩) rfl
theorem SV(ok:ot W P){m:BM}(h:mS W c φ s (xU σ m v l) (mT W) Q E):an W.M A (call (.builtin m.id) (x::ys)) Q E s:=by
 cases m with
 |append=>exact J3 i r rl h
 |pop0=>exact Pm i r rl h
 |pop1=>exact Pn i r rl h
 |get1=>exact Pd i r rl ok h
 |get2=>exact Pe i r rl ok h
 |update=>exact Kc i r rl ok h
end
end
theorem Gj(es:List fg)(name:aI)(p:bA)(w:cM):(es.find? λe=>e.key.isStr name)=es.find? λe=>(aC p w).is name e.key:=by
 congr 1
 funext e
 show e.key.isStr name=ig name e.key
 cases e.key<;>rfl
theorem zK(es:List fg)(name:aI)(p:bA)(w:cM):(es.findIdx? λe=>e.key.isStr name)=es.findIdx? λe=>(aC p w).is name e.key:=by
 congr 1
 funext e
 show e.key.isStr name=ig name e.key
 cases e.key<;>rfl
theorem Bf(es:Array α)(f:α->Bool):es.toList.findIdx? f=es.findIdx? f:=by
 obtain ⟨l⟩:=es;simp
theorem xt{p:bA}{es:Array fg}(h:KeysOf (aC p w) es):es.toList.any (·.refKey)=false:=by
 rw[g8];intro e he;refine mO (h e (by simpa using he)) λk hk Z=>?_;refine m4 (af.isStrOf_shape (x:=k) (v:=e.key) hk) λt ht=>?_;simp [kj,ht]
theorem Gr{p:bA}{a:ai}(d:h.DictOf (aC p w) a kvs):∃o,h.get? a=some o/\∀name,my name o=some (gx kvs name):=by
 refine qd d λo es ep e c hd hk hp hn=>?_;refine⟨o,e,λname=>?_⟩;unfold my;rw[hd];dsimp only;rw[Gj es.toList name p w,<-hp.find name]
 cases q:es.toList.find? λe=>(aC p w).is name e.key with
 |some en=>rfl
 |none=>rw[xt hk];rfl
theorem Dn{p:bA}{a:ai}{o:eT}(d:h.DictOf (aC p w) a kvs)(ho:h.get? a=some o)(name:aI)(t:lP)(v:af):
  (h.update a (em name (dh w.params name) (.str name t) v)).DictOf (aC p w) a (fM kvs name v):=by
 refine qd d λo' es ep e c hd hk hp hn=>?_;obtain rfl:o=o':=ae (ho.symm.trans e);obtain ⟨oc,od,dd,osl⟩:=o;obtain rfl:dd=.dict es ep:=hd;have hidx:=(Bf es _).symm.trans (zK es.toList name p w);have hidx':=hp.findIdx name;have hu:=aW (em name (dh w.params name) (.str name t) v) ho;rw[jj] at hu ⊢
 cases q:es.findIdx? (·.key.isStr name) with
 |some i=>
  have q':=hidx.symm.trans q
  have hst:fM kvs name v=kvs.map λkv=>if kv.1=name then (kv.1,v) else kv:=by unfold fM;exact if_pos (any_of_findIdx_some (hidx'.symm.trans q'))
  rw[hst];simp only[dC,q] at hu ⊢;exact⟨_,es.modify i λe=>{e with val:=v},ep,hu rfl,c,rfl,hk.modify _ _,by rw[Array.toList_modify];exact hp.modify hn q' v,by rw[keys_map_store];exact hn⟩
 |none=>
  have q':=hidx'.symm.trans (hidx.symm.trans q)
  have hno:¬(kvs.any λkv=>decide (kv.1=name))=true:=λZ7=>by
   refine mO (bU.mp Z7) λkv hm he=>?_;exact mP ((gW.mp q' kv hm).symm.trans he)
  have hst:fM kvs name v=kvs++[(name,v)]:=by unfold fM;exact if_neg hno
  rw[hst];simp only[dC,q] at hu ⊢;refine⟨_,es.push ⟨dh w.params name,.str name t,v⟩,ep+1,hu rfl,c,rfl,λe he=>?_,by rw[gY];exact hp.append (dH p w name t) _ v,?_⟩
  .rcases Array.mem_push.mp he with he | rfl
   .exact hk e he
   .exact⟨name,dH p w name t,rfl⟩
  .rw[lh]
   exact d6.mpr ⟨hn,bM.mpr ⟨iu,.nil⟩,λx hx y hy e=>by
    refine mO (bK.mp hx) λkv hm he=>?_
    exact hno (bU.mpr ⟨kv,hm,decide_eq_true (he.trans (e.trans (am.mp hy)))⟩)⟩
structure qO(K:cX)(C:ai)(attrs:List aI):Prop where
 ga:dj K (.ref C) "__getattribute__" = some (some (.builtin "object.__getattribute__"))
 gat:dj K (.ref C) "__getattr__" = some none
 sa:dj K (.ref C) "__setattr__" = some (some (.builtin "object.__setattr__"))
 plain:plainOver K C=true
 dict:(mI K C).any (·.hasDict)=true
 attr:∀x∈attrs,dj K (.ref C) x=some none
section
variable {W:Wd}{A:aH}{E:af->ag->Prop}{s:ag}{φ:List ai}{σ:St}{P:Pg}{K:cX}{attrs:List aI}
theorem mT.handed{v:V}:mT W φ h v y->handedIn y=true:=by
 cases v with
 |none=>intro r;cases r;rfl
 |bool _=>intro r;cases r;rfl
 |int _=>intro r;refine m4 r λZ T6=>?_;subst T6;rfl
 |sym _=>intro r;refine nr r λZ Z Z Uc=>?_;subst Uc;rfl
 |txt _=>intro r;refine nr r λZ Z Z Uc=>?_;subst Uc;rfl
 |tup _=>intro r;refine oI r λZ Z Z Uc Z=>?_;subst Uc;rfl
 |lst _=>intro r;refine oI r λZ Z Z Uc Z=>?_;subst Uc;rfl
 |dct _=>intro r;refine nr r λZ Z Ua Z=>?_;subst Ua;rfl
 |obj _=>intro r;refine mO r λZ Z Ua=>?_;subst Ua;rfl
noncomputable abbrev instObj(W:Wd)(c:Nat)(b:ai):eT:={cls:=.ref (W.cls c),dict:=some b,data:=.plain,slots:=#[]}
structure M3(W:Wd)(φ:List ai)(h:aB)(n c d:Nat)(l:List (Nat×V))(a b:ai)(o:eT)(kvs:List (aI×af)):Prop where
 ha:φ[n]?=some a
 hb:φ[d]?=some b
 hd:h.DictOf (strKind W.prog W.w) b kvs
 rd:n8 W φ h l kvs
 ho:h.get? b=some o
 hl:∀name,my name o=some (gx kvs name)
 he:h.get? a=some (instObj W c b)
 I:InstAt h a (instObj W c b) (W.cls c) (some o)
theorem zP(i:Inv W φ σ s.heap){n:Nat}{x:af}{l:List (Nat×V)}(r:mT W φ s.heap (.obj n) x)(e:σ[n]?=some (.inst c d))(ed:σ[d]?=some (.dict l)):
  ∃a b o kvs,x=.ref a/\M3 W φ s.heap n c d l a b o kvs:=by
 refine mO r λa ha h1=>?_;refine mO (i.rep n _ a e ha) λb hb he=>?_;refine mO (i.rep d _ b ed hb) λkvs hd rd=>?_;refine mO (Gr hd) λo ho hl=>?_;exact⟨a,b,o,kvs,h1,ha,hb,hd,rd,ho,hl,he,he,rfl,rfl,ho⟩
theorem pS{v:V}{f:Nat->List (Nat×V)->Nat->Option α}{y:α}(e:rN σ v f=some y):∃n c d l,v=.obj n/\σ[n]?=some (.inst c d)/\σ[d]?=some (.dict l)/\f c l d=some y:=by
 refine mO (bs e) λn h1 e=>?_;refine mO (bs e) λc h2 e=>?_;refine mO (bs e) λl h3 e=>?_;exact⟨n,c.1,c.2,l,nJ h1,yS h2,rD h3,e⟩
theorem D2{cd:ki}{o:eT}{nm:aI}{y:Option af}(hh:cd.hasDict=true)(h:my nm o=some y):l4 cd (some o) nm=some y:=by
 unfold l4;rw[if_pos hh];exact h
theorem O9(ok:ot W P)(hK:K.In s.heap)(cf:∀c,qO K (W.cls c) attrs)(i:Inv W φ σ s.heap){v u:V}{x:af}{k:Nat}{nm:aI}{ex:Bool}(hS:W.S[k]?=some nm)(hk:nm∈attrs)(r:mT W φ s.heap v x)(e:Db σ v k=some u)(h:∀y t,mT W φ s.heap u y->Q y {s with toks:=t}):an W.M A (getAttr x nm ex) Q E s:=by
 obtain ⟨n,c,d,l,rfl,e1,e2,e⟩:=pS e;obtain ⟨a,b,o,kvs,rfl,io⟩:=zP i r e1 e2;obtain ⟨y,hy,ry⟩:=io.rd.get ok.nodup hS e;refine mO (any_some (cf c).dict) λcd hc hh=>?_
 have hf:findObj K (W.cls c) (some o) nm=some (.value y):=by
  unfold findObj;rw[hc,b5,(cf c).attr nm hk,b5,D2 hh ((io.hl nm).trans (congrArg some hy))];rfl
 exact get_value hK io.I (cf c).ga hf ry.handed (h y _ ry)
theorem G7(ok:ot W P)(hK:K.In s.heap)(cf:∀c,qO K (W.cls c) attrs)(i:Inv W φ σ s.heap){v u:V}{x:af}{k:Nat}{nm:aI}{Q:Unit->ag->Prop}(hS:W.S[k]?=some nm)(hk:nm∈attrs)(r:mT W φ s.heap v x)(ry:mT W φ s.heap u y)(e:JI σ v k u=some σ')(h:∀s',Good W [] φ s σ' φ s'->Q () s'):an W.M A (setAttr x nm y) Q E s:=by
 obtain ⟨n,c,d,l,rfl,e1,e2,e⟩:=pS e;obtain ⟨hlen,rfl⟩:=nu e;refine xM (zP i r e1 e2) λa b o kvs Wj io=>?_;subst Wj;refine mO (any_some (cf c).dict) λcd hc hh=>?_
 have ht:fy K (W.cls c) nm=some none:=by
  unfold fy;rw[(cf c).attr nm hk];rfl
 refine set_plain hK io.I (cf c).sa (osa_open (s:={s with toks:=s.toks+1}) hK io.I (cf c).plain ht λbb=>?_);refine ac (al (ac (ac (jp io.he (ac ((hV hK hc).here (s:={s with toks:=s.toks+1}) ?_))))));rw[hh];refine al (a:=some b) (ac (al (ac ?_)));have D':=Dn io.hd io.ho nm (s.toks+1) y;refine qd (id io.hd) λo' es ep e' c' Ve ZW hp hn=>?_;rw[<-ae (io.ho.symm.trans e')] at Ve;refine qd (id D') λo2 Ww Zl Yv Z Z9 Z ZN Z=>?_
 refine FU io.ho Ve (xt ZW) (ac (kK Yv (by
  rw[Z9];refine kI (az (dv ?_) (az (stored_length_le kvs nm y) ?_))
  .exact ZN.length
  .rw[io.rd.length];exact Nat.le_succ_of_le (n5 hlen)) ?_))
 have hs:bf b s.heap (s.heap.update b (em nm (dh W.w.params nm) (.str nm (s.toks+1)) y)):=ct ..;have ev:=r8 (W:=W) (φ:=φ) (s:=s) (aF io.hb) hs ⟨_,Yv⟩;exact al (h _ (Good.set i e2 io.hb hs ⟨_,Yv⟩ ⟨_,D',(n8.set ok.nodup hS ry io.rd (tz io.hd)).evo ev.1 ev.2 (.refl _ _)⟩))
end
section
variable {D:ai}
theorem zk(hd:∀o,h.get? D=some o->∀xs n,o.data≠.seq xs n){a:ai}{o:eT}(ha:a∉φ)(e:h.get? a=some o)(q:∃xs n,o.data=.seq xs n):a∉φ++[D]:=λhm=>by
 refine xK q λxs n q=>?_
 rcases aG.mp hm with hm | hm
 .exact ha hm
 .rw[am.mp hm] at e;exact hd _ e _ _ q
mutual
theorem mT.widen(hw:W.base.get? D=none)(hd:∀o,h.get? D=some o->∀xs n,o.data≠.seq xs n):∀{v:V} {y:af},mT W φ h v y->mT W (φ++[D]) h v y
 |.none,_,r=>r
 |.bool _,_,r=>r
 |.int _,_,r=>r
 |.sym _,_,r=>r
 |.txt _,_,r=>r
 |.tup l,_,r=>by
  refine nk r λa xs n h1 ha hz e r=>?_;exact⟨a,xs,n,h1,⟨zk hd ha.1 e ⟨_,_,rfl⟩,ha.2⟩,hz,e,nf.widen hw hd r⟩
 |.lst l,_,r=>by
  refine nk r λa xs n h1 ha hz e r=>?_;exact⟨a,xs,n,h1,⟨zk hd ha.1 e ⟨_,_,rfl⟩,ha.2⟩,hz,e,nf.widen hw hd r⟩
 |.dct l,_,r=>by
  refine vY r λa kvs h1 ha hs e r=>?_;refine⟨a,kvs,h1,⟨λhm=>?_,ha.2⟩,hs,e,n8.widen hw hd r⟩
  rcases aG.mp hm with hm | hm
  .exact ha.1 hm
  .refine m4 ha.2 λo ho=>?_;rw[am.mp hm,hw] at ho;exact mV ho
 |.obj n,_,r=>by
  refine mO r λa e h1=>?_;exact⟨a,by rw[ay (nO e)];exact e,h1⟩
theorem nf.widen(hw:W.base.get? D=none)(hd:∀o,h.get? D=some o->∀xs n,o.data≠.seq xs n):∀{l:List V} {ys:List af},nf W φ h l ys->nf W (φ++[D]) h l ys
 |[],_,r=>r
 |v::l,_,r=>by
  refine mU r λy ys Ua p q=>?_;subst Ua;exact⟨y,ys,rfl,mT.widen hw hd p,nf.widen hw hd q⟩
theorem n8.widen(hw:W.base.get? D=none)(hd:∀o,h.get? D=some o->∀xs n,o.data≠.seq xs n):∀{l:List (Nat×V)} {es:List (aI×af)},n8 W φ h l es->n8 W (φ++[D]) h l es
 |[],_,r=>r
 |(k,v)::l,_,r=>by
  refine mZ r λs y es Uc hk p q=>?_;subst Uc;exact⟨s,y,es,rfl,hk,mT.widen hw hd p,n8.widen hw hd q⟩
end
theorem qm.widen(hw:W.base.get? D=none)(hd:∀o,h.get? D=some o->∀xs n,o.data≠.seq xs n){o:O}(r:qm W φ h o b):qm W (φ++[D]) h o b:=by
 cases o with
 |list l=>refine mU r λxs n hz e r=>?_;exact⟨xs,n,hz,e,r.widen hw hd⟩
 |dict l=>refine mO r λkvs e r=>?_;exact⟨kvs,e,r.widen hw hd⟩
 |inst c d=>refine mO r λb' e r=>?_;exact⟨b',by rw[ay (nO e)];exact e,r⟩
end
section
variable {s:ag}
theorem Good.adopt(x:Good W own φ s σ' TV s')(o':O){D:ai}{t:Nat}(hD:s.heap.get? D=none)(hw:W.base.get? D=none)(hn:D∉TV)(X3:∀o,s'.heap.get? D=some o->∀xs n,o.data≠.seq xs n)(hx:∃o,h'.get? D=some o)(hs:bf D s'.heap h')(Z8:∀o,h'.get? D=some o->∀xs n,o.data≠.seq xs n)(hr:qm W (TV++[D]) h' o' D):Good W own φ s (σ'++[o']) (TV++[D]) {s' with heap:=h',toks:=t}:=by
 have k:∀b o,b≠D->s'.heap.get? b=some o->h'.get? b=some o:=λb o hb e=>(hs.2 b hb).trans e
 have there:∀b o,s'.heap.get? b=some o->∃o',h'.get? b=some o':=λb o e=>by
  by_cases hb:b=D
  .subst hb;exact hx
  .exact⟨o,k b o hb e⟩
 have ev:qZ [D] s'.heap h':=⟨there,λb o e hb=>⟨o.slots,k b o (by simpa using hb) e,λZ=>rfl⟩⟩
 have ap:Apart W TV [D] s'.heap:=λb hb Z=>by
  rw[am.mp hb];exact⟨hw,.inr X3⟩
 refine mO x.grows λψ WP WO=>?_;have g:Grows s.heap φ (TV++[D]):=⟨ψ++[D],by rw[WP,aP],λa ha=>(aG.mp ha).elim (WO a) λh=>by rw[am.mp h];exact hD⟩;refine⟨g,⟨λb o e=>?_,λb o e hb=>?_⟩,⟨λb o e=>k b o (λq=>by rw[q,hw] at e;cases e) (x.inv.base b o e),by simp [x.inv.len],?_,?_,λa ha=>let ⟨o,e⟩:=x.inv.hid a ha;there a o e,?_⟩,x.gens,x.os⟩
 .refine m4 (x.evo.there b o e) λo1 e1=>?_;exact there b o1 e1
 .refine mO (x.evo.keep b o e hb) λsl e1 q=>?_;exact⟨sl,k b _ (λq=>by rw[q,hD] at e;cases e) e1,q⟩
 .refine d6.mpr ⟨x.inv.nodup,by simp,λa ha b hb e=>?_⟩;rw[am.mp hb] at e;exact hn (e▸ha)
 .intro a ha
  rcases aG.mp ha with ha | ha
  .exact x.inv.new a ha
  .rw[am.mp ha];exact hw
 .intro n UC c e1 e2
  rcases bE n σ'.length with hl | hl
  .rw[ay hl] at e1;rw[ay (x.inv.len.symm▸hl)] at e2;exact ((x.inv.rep n UC c e1 e2).evo ev ap (.refl _ _) (λhm=>hn (by rw[<-am.mp hm];exact aF e2))).widen hw Z8
  .have U1:n=σ'.length:=(u1 hl e1).1;rw[U1] at e1 e2;rw[ae (e1.symm.trans d3),ae (e2.symm.trans (x.inv.last D))];exact hr
end
section
variable {s:ag}{P:Pg}
theorem G8(ok:ot W P)(i:Inv W φ σ s.heap){cv iv u:V}{x k:af}{Q:Unit->ag->Prop}(rc:mT W φ s.heap cv x)(ri:mT W φ s.heap iv k)(ry:mT W φ s.heap u y)(e:yb σ cv iv u=some σ')(h:∀s',Good W [] φ s σ' φ s'->Q () s'):an W.M A (setItem x k y) Q E s:=by
 refine mO (bs e) λn h1 e=>?_;refine mO (bs e) λj h2 e=>?_;refine mO (bs e) λl h3 e=>?_;refine nE (nu e) λhlen T6=>?_;subst T6;have e1:=rD h3;rw[nJ h1] at rc;rw[oF h2] at ri;refine mO rc λa ha Ua=>?_;subst Ua;refine nr ri λnm t hS Uc=>?_;subst Uc;refine mO (i.rep n _ a e1 ha) λkvs hd rd=>?_;refine wpAny_setItem_pairs (dH _ _ nm t) hd (λh' hm hs=>?_) (by rw[rd.length];exact n5 (gr hlen));have ev:=r8 (W:=W) (φ:=φ) (s:=s) (aF ha) hs (rO hm);exact h _ (Good.set i e1 ha hs (rO hm) ⟨_,hm,(n8.set ok.nodup hS ry rd (tz hd)).evo ev.1 ev.2 (.refl _ _)⟩)
theorem DictOf.noSeq{a:ai}(d:h.DictOf (strKind W.prog W.w) a kvs):∀o,h.get? a=some o->∀xs n,o.data≠.seq xs n:=λo e xs n q=>by
 refine mZ d λo' Z Z e' Z hd Z=>?_;rw[e] at e';cases e';rw[hd] at q;cases q
theorem G5(i:Inv W φ σ s.heap){env:d9}(h:∀TV y s',Good W [] φ s (σ++[.dict []]) TV s'->mT W TV s'.heap (.obj σ.length) y->Q y s'):an W.M A (eval (.Dict [] [] pos) env) Q E s:=by
 refine wpAny_Dict_empty (h (φ++[s.heap.objs.size]) _ _ (Good.alloc i _ _ rfl ⟨[],k9 s.heap,rfl⟩) ?_);exact⟨_,i.last _,rfl⟩
end
noncomputable def nj(x:aa):Bool:=av (motive_1:=λZ=>Bool) x (λZ Z Z=>true) (λZ Z Z=>true) (λZ Z Z Z=>true) (λZ Z Z=>true) (λZ Z Z Z=>true) (λZ Z Z Z=>true) (λZ Z Z=>true) (λZ Z Z=>true) (λZ Z Z Z=>true) (λZ Z Z Z=>true) (λZ Z Z Z Z=>true) (λZ Z Z Z=>true) (λZ Z=>true) (λZ Z=>true) (λZ Z=>true) (λZ Z Z Z=>true) (λZ Z Z Z=>true) (λZ Z Z Z=>true) (λZ Z=>true) (λZ Z Z=>true) (λZ Z Z=>true) (λZ Z Z=>true) (λZ Z=>false) (λZ Z=>true) (λZ Z=>true) (λZ Z Z=>true) (λZ Z Z Z=>true)
noncomputable def nG(es:List aa)(env:d9):List (Bool×jM af):=es.map λe=>(false,eval e env)
theorem AN(env:d9)(es:List aa){e:aa}:nj e=true->iB (e::es) env=(false,eval e env)::iB es env:=by
 cases e<;>first | exact λZ=>rfl | exact mP
theorem CJ(env:d9){es:List aa}:es.all nj=true->iB es env=nG es env:=by
 induction es with
 |nil=>exact λZ=>rfl
 |cons e es ih=>exact λh=>(AN env es (b2 h).1).trans (congrArg _ (ih (b2 h).2))
theorem oM(env:d9)(pos:b8){es:List aa}(h:es.all nj=true):mu pos (iB es env)=nG es env:=by
 rw[CJ env h];unfold mu nG;rw[mn];exact db λe Z=>rfl
theorem qh(env:d9)(es:List aa):(nG es env).any (·.1)=false:=by
 unfold nG;rw[List.any_map];exact g8.mpr λZ Z h=>mP h
theorem qJ{M:ge}{s:ag}{f:af}{es:List aa}{env:d9}{Q:Args->ag->Prop}(h:an M A (fw (nG es env)) (λvs s'=>Q ⟨vs,[]⟩ s') E s):an M A (evalArgs f true (nG es env) []) Q E s:=by
 cases es with
 |nil=>
  unfold evalArgs;show an M A (fw [] >>= _) Q E s;refine ac (bB h (λvs s' h'=>?_) λZ Z x=>x);refine ac (al ?_);refine aK ?_;exact ac (al (ac (al (al h'))))
 |cons e es=>exact evalArgs_plain h
structure wN(A:aH)(l:List d9)(q:Bool)(d:Nat):Prop where
 frames:A.frames=some l
 depth:A.depth+3 * d+3<=dk
 units:A.units+20 * d+200<=j5
 handled:q=false->A.handled=none
def s5(W:Wd)(φ:List ai)(s:ag)(r:R Unit V)(R:cT->ag->Prop):Prop:=
 match r with
 |.ok v σ'=>∀TV y s',Good W [] φ s σ' TV s'->mT W TV s'.heap v y->R (.ok (.ret y)) s'
 |.exc _ σ'=>∀TV e s',Good W [] φ s σ' TV s'->oo W s.heap .none e s'.heap->R (.error (.ref e)) s'
 |.bad=>False
def uK(fnA:Nat->ai)(W:Wd)(d:Nat)(C:Bool->Call):Prop:=
 ∀{q:Bool} {f:Nat} {args:List V} {vals:List af} {A:aH} {l:List d9} {φ:List ai} {σ:St} {s:ag} {R:cT->ag->Prop},
  wN A l q d->tg W φ s.heap l->Inv W φ σ s.heap->nf W φ s.heap args vals->s5 W φ s (C q f args σ) R->dc W.M A (.call (.ref (fnA f)) ⟨vals,[]⟩) R s
section
variable {W:Wd}{A:aH}{E:af->ag->Prop}{s:ag}{φ:List ai}{σ:St}{c:Cx}{ρ:mQ}{d:Nat}{q:Bool}
theorem oN.pre(a:oN A c q d):wN A (c.env₀::c.out) q d:=⟨a.frames,az (bd (by decide:3<=5) _) a.depth,az (bd (by decide:200<=210) _) a.units,a.handled⟩
theorem mS.toC{r:R Unit V}{R:cT->ag->Prop}(h:mS W c φ s r (mT W) Q E)(h1:∀y s',Q y s'->R (.ok (.ret y)) s')(h2:∀e s',E e s'->R (.error e) s'):s5 W φ s r R:=by
 cases r with
 |ok v σ'=>exact λTV y s' g rv=>h1 y s' (h TV y s' g rv)
 |exc u σ'=>exact λTV x s' g fl=>h2 _ s' (h TV x s' g fl.flying)
 |bad=>exact h
theorem CU{fnA:Nat->ai}{C:Bool->Call}{f:Nat}{args:List V}(ck:uK fnA W d C)(a:oN A c q d)(H:ng W c ρ φ σ s)(r:nf W φ s.heap args vals)(h:mS W c φ s (C q f args σ) (mT W) Q E):an W.M A (call (.ref (fnA f)) vals) Q E s:=fc (ck a.pre H.frs H.inv r (h.toC (λZ Z h=>h) λZ Z h=>h))
theorem y2{o:Option α}{r:Option β}{y:β}(e:(if o.isNone then r else none)=some y):o=none/\r=some y:=by
 cases o with
 |none=>exact⟨rfl,e⟩
 |some _=>exact mV e
theorem vE{fnA:Nat->ai}{f:Nat}{first:List af}{es:List aa}(YD:∃o fd,W.base.get? (fnA f)=some o/\o.data=.func fd)(h:an W.M A (fw (nG es c.env)) (λvs s'=>W.base.StaysIn s'.heap/\an W.M A (call (.ref (fnA f)) (first++vs)) Q E s') E s):an W.M A (fv pos (.ref (fnA f)) first (nG es c.env) []) Q E s:=by
 refine nr YD λo fd ho hd=>?_;exact callWith_function (o:=o) (fd:=fd) (qJ (bB h (λvs s' h'=>⟨⟨h'.1 _ _ ho,hd⟩,h'.2⟩) λZ Z e=>e))
theorem qV{id:String}{first:List af}{es:List aa}(h:an W.M A (fw (nG es c.env)) (λvs s'=>an W.M A (call (.builtin id) (first++vs)) Q E s') E s):an W.M A (fv pos (.builtin id) first (nG es c.env) []) Q E s:=
 callWith_builtin (qh _ _) (qJ h)
theorem pD{T:String}{first:List af}{es:List aa}(h:an W.M A (fw (nG es c.env)) (λvs s'=>an W.M A (call (.type T) (first++vs)) Q E s') E s):an W.M A (fv pos (.type T) first (nG es c.env) []) Q E s:=
 PySem.callWith_type (qh _ _) (qJ h)
noncomputable def qe(x:aa):Bool:=av (motive_1:=λZ=>Bool) x (λZ Z Z=>true) (λZ Z Z=>true) (λZ Z Z Z=>true) (λZ Z Z=>true) (λZ Z Z Z=>true) (λZ Z Z Z=>true) (λZ Z Z=>true) (λZ Z Z=>true) (λZ Z Z Z=>true) (λZ Z Z Z=>true) (λZ Z Z Z Z=>true) (λZ Z Z Z=>true) (λZ Z=>true) (λZ Z=>true) (λZ Z=>true) (λZ Z Z Z=>true) (λZ Z Z Z=>false) (λZ Z Z Z=>true) (λZ Z=>true) (λZ Z Z=>true) (λZ Z Z=>true) (λZ Z Z=>true) (λZ Z=>true) (λZ Z=>true) (λZ Z=>true) (λZ Z Z=>true) (λZ Z Z Z=>true)
theorem EF{o:aa}{nm:aI}{env:d9}:qe o=true->jE o nm env (eval o env)=eval o env:=by
 cases o<;>first | exact λZ=>rfl | exact mP
theorem yk{o:aa}{nm:aI}{args:List aa}(hb:qe o=true)(hs:args.all nj=true)(hlen:args.length < 30)(UM:(apos.endLine==pos.line)=true)(h:an W.M A (eval o c.env) (λov TW=>an W.M A (eF ov nm (do return (<-jl o c.env).getD true)) (λp T2=>an W.M A (fv pos p.1 p.2 (nG args c.env) []) Q E T2) E TW) E s):
  an W.M A (eval (.Call (.Attribute o nm apos) args [] pos) c.env) Q E s:=by
 rw[arm_eval_Call,EF hb,oM _ _ hs];refine ac (bB h (λov TW T1=>?_) λZ Z e=>e);refine ac (bv ?_)
 have hform:gU (args.length+([]:List ll).length) (nG args c.env) (backToKw pos (kS [] c.env))=true:=by
  unfold gU
  have h1:(nG args c.env).all (λx=>!x.1)=true:=by
   unfold nG;rw[List.all_map];exact aJ.mpr λZ Z=>rfl
  rw[h1];exact decide_eq_true hlen
 have hpos:ij true o c.env apos pos=pure pos:=by unfold ij;simp [UM]
 unfold methodCall;rw[hform];refine ac (aK ?_);show an W.M A (eF ov nm (do return (<-jl o c.env).getD true)) _ E TW;refine bB T1 (λp T2 Uh=>?_) λZ Z e=>e;exact ac (dq hpos Uh)
theorem G3{P:Pg}(ok:ot W P)(hK:K.In s.heap)(cf:∀c,qO K (W.cls c) attrs)(i:Inv W φ σ s.heap){v:V}{x:af}{k f:Nat}{nm:aI}{fa:ai}{Q:af×List af->ag->Prop}(hS:W.S[k]?=some nm)(r:mT W φ s.heap v x)(e:DH P σ v k=some f)(hm:∀c,P.meth c k=some f->dj K (.ref (W.cls c)) nm=some (some (.ref fa))/\jP K (.ref fa)=some (.type "function"))(h:Q (.ref fa,[x]) s):an W.M A (eF x nm pl) Q E s:=by
 obtain ⟨n,c,d,l,rfl,e1,e2,e⟩:=pS e;obtain ⟨hg,e⟩:=y2 e;refine xM (zP i r e1 e2) λa b o kvs Wj io=>?_;subst Wj;have h':=hm c e
 exact method_fn hK io.I (cf c).ga (cf c).gat h'.1 h'.2 (by
  show (my nm o).map (·.isSome)=_
  rw[io.hl nm,io.rd.getNone ok.nodup hS hg];rfl) h
def PlainAt(h:aB)(T:String)(x:af):Prop:=∃a o,x=.ref a/\h.get? a=some o/\o.cls=.type T/\o.dict=none
theorem uD(i:Inv W φ σ s.heap){v:V}{x:af}(r:mT W φ s.heap v x)(e:(pV σ v).isSome=true):PlainAt s.heap "list" x:=by
 refine m4 (aV.mp e) λl hl=>?_;refine mZ (xO i r hl) λa xs k h1 Z Z ho=>?_;exact⟨a,_,h1,ho,rfl,rfl⟩
theorem Ex.plain{x:af}{l:List (Nat×V)}(d:Ex W φ h x l):PlainAt h "dict" x:=by
 refine pN d λa kvs h1 Z Vn Z=>?_;obtain ⟨o,es,ep,ho,hc,_⟩:=Vn;exact⟨a,o,h1,ho,hc.1,hc.2.1⟩
theorem qK{x:af}{T id:String}{name:aI}{Q:af×List af->ag->Prop}(pa:PlainAttrs T)(sl:Slot T name id)(ty:typeOf (.builtin id)=pure (.type "method_descriptor"))(p:PlainAt s.heap T x)(hq:Q (.builtin id,[x]) s):
  an W.M A (eF x name pl) Q E s:=by
 refine pN p λa o Ua ho hc hd=>?_;subst Ua;exact getMethod_builtin ⟨o,ho,hc⟩ pa sl ty (λa' q=>by cases q;exact⟨o,ho,hd⟩) hq
theorem Ma{P:Pg}(ok:ot W P)(i:Inv W φ σ s.heap){v:V}{x:af}{m:BM}{Q:af×List af->ag->Prop}(r:mT W φ s.heap v x)(e:HB σ m v=true)(h:Q (.builtin m.id,[x]) s):
  an W.M A (eF x m.name pl) Q E s:=by
 have dct:(qr σ v).isSome=true->PlainAt s.heap "dict" x:=λhs=>(aV.mp hs).elim λl hl=>(qS ok.sys i r hl).plain
 cases m with
 |append=>exact qK g7 jH F.type_list_append (uD i r e) h
 |pop0=>exact qK g7 fW k8 (uD i r e) h
 |pop1=>exact qK g7 fW k8 (uD i r e) h
 |get1=>exact qK g6 fV k7 (dct e) h
 |get2=>exact qK g6 fV k7 (dct e) h
 |update=>exact qK g6 jG F.type_dict_update ((aV.mp e).elim λl hl=>(xN ok.sys i r hl).plain) h
end
section
variable (P:Pg)(W:Wd)(c:Cx)(q:Bool)(A:aH)(C:Call)
def nc(e:MX)(x:aa):Prop:=∀⦃ρ:mQ⦄ ⦃φ:List ai⦄ ⦃σ:St⦄ ⦃s:ag⦄ ⦃Q:af->ag->Prop⦄ ⦃E:af->ag->Prop⦄,
 ng W c ρ φ σ s->mS W c φ s (dE P q C e ρ σ) (mT W) Q E->an W.M A (eval x c.env) Q E s
def pM(e:MX)(x:aa):Prop:=∀⦃ρ:mQ⦄ ⦃φ:List ai⦄ ⦃σ:St⦄ ⦃s:ag⦄ ⦃Q:Bool->ag->Prop⦄ ⦃E:af->ag->Prop⦄,
 ng W c ρ φ σ s->mS W c φ s (dT P q C e ρ σ) (λZ Z b b'=>b'=b) Q E->an W.M A (isTrue x c.env (eval x c.env)) Q E s
class inductive nV:MX->List aa->Prop
 |nil:nV .nil []
 |cons {e es:MX} {x:aa} {xs:List aa}:nc P W c q A C e x->nV es xs->nV (.cons e es) (x::xs)
end
section
variable {P:Pg}{W:Wd}{c:Cx}{q:Bool}{A:aH}{C:Call}{ρ:mQ}{φ:List ai}{σ:St}{s:ag}{E:af->ag->Prop}
theorem uE{xs:List aa}(x:nV P W c q A C es xs):∀{φ:List ai} {σ:St} {s:ag} {Q:List af->ag->Prop},ng W c ρ φ σ s->
  mS W c φ s (dL P q C es ρ σ) (nf W) Q E->an W.M A (fw (nG xs c.env)) Q E s:=by
 induction x with
 |nil=>intro φ σ s Q H h;exact spliced_nil (h _ _ _ (.refl H.inv) .nil')
 |cons a b ih=>
  intro φ σ s Q H h;refine spliced_cons (a H (mS.bind h λv σ' TV y s' Z g rv hk=>ih (H.good g) (mS.bind hk λl UG Up ys UB Z g' rl hk'=>?_)));exact hk' _ _ _ (.refl g'.inv) (.cons' (g'.rep rv) rl)
theorem R.ok_of{r:R ε α}{k:α->St->R ε β}{b:β}(h:r.bind k=.ok b σ'):∃a T5,r=.ok a T5/\k a T5=.ok b σ':=by
 cases r with
 |ok a T5=>exact⟨a,T5,rfl,h⟩
 |exc _ _=>cases h
 |bad=>cases h
theorem nV.length{xs:List aa}(x:nV P W c q A C es xs):∀{σ σ':St} {l:List V},dL P q C es ρ σ=.ok l σ'->l.length=xs.length:=by
 induction x with
 |nil=>intro σ σ' l e;cases e;rfl
 |cons a b ih=>
  intro σ σ' l e;refine nr (R.ok_of e) λv T5 Z e=>?_;refine nr (R.ok_of e) λl' Ul h2 e=>?_
  cases e
  exact congrArg ji (ih h2)
theorem Qt{xs:List aa}{k:Nat}(hs:xs.all nj=true)(a:nV P W c q A C es xs):nc P W c q A C (.tup es) (.Tuple xs k pos):=by
 intro ρ φ σ s Q E H h;show an W.M A (do lq pos;lL (<-fw (mu pos (iB xs c.env)))) Q E s;rw[oM _ _ hs];refine ac (bv (ac (uE a H (mS.bind h λl σ' TV ys s' Z g rl hk=>?_))));exact En g.inv rl hk.gd.1 λx UB g' rx=>hk.gd.2 _ _ _ g' rx
theorem Qm{m:Bool}{xs:List aa}(hs:xs.all nj=true)(a:nV P W c q A C es xs):nc P W c q A C (.lst m es) (.List xs pos):=by
 intro ρ φ σ s Q E H h;show an W.M A (do lq pos;iN (<-fw (mu pos (iB xs c.env)))) Q E s;rw[oM _ _ hs];refine ac (bv (ac (uE a H (mS.bind h λl σ' TV ys s' Z g rl hk=>?_))));have hk2:=hk.gd.2
 cases m with
 |true=>exact G6 g.inv rl hk.gd.1 λUp x UB g' rx=>hk2 _ _ _ g' rx
 |false=>exact CX g.inv rl hk.gd.1 λx UB g' rx=>hk2 _ _ _ g' rx
theorem NG(ok:ot W P)(hK:K.In W.base)(cf:∀c,qO K (W.cls c) attrs){k:Nat}{nm:aI}{x:aa}(hb:qe x=true)(hS:W.S[k]?=some nm)(hk:nm∈attrs)(a:nc P W c q A C e x):
  nc P W c q A C (.attr e k) (.Attribute x nm pos):=by
 intro ρ φ σ s Q E H h
 refine Attribute_any_ (a H (mS.bind h λv σ' TV y s' Z g rv hk'=>?_)) (by
  show (do
   let o <-jE x nm c.env (eval x c.env)
   lq pos.atName
   let r <-iM [o] (getAttr o nm true)
   letTemporaryGo x o r
   pure r)=_
  rw[EF hb])
 refine mO hk'.of λu hu hk'=>?_;exact O9 (P:=P) ok (λa o e=>g.inv.base _ _ (hK a o e)) cf g.inv hS hk rv hu λz t rz=>hk' _ _ (Good.tok g.inv) rz
theorem Qh(ok:ot W P){op:Kn}(a:nc P W c q A C Uq Ui)(b:nc P W c q A C Uo Ue):nc P W c q A C (.bin op Uq Uo) (.BinOp Ui op.py Ue pos):=by
 intro ρ φ σ s Q E H h;refine wpAny_BinOp (a H (mS.bind h λv σ' TV y s' Z g rv hk=>b (H.good g) (mS.bind hk λv' UG Up y' UB Z g' Vj hk'=>?_)));refine mO hk'.of λu hu hk'=>?_;exact RB ok g'.inv (g'.rep rv) Vj hu λz s3 g3 rz=>hk' z s3 g3 rz
noncomputable def xD(x:aa):Bool:=av (motive_1:=λZ=>Bool) x (λZ Z Z=>true) (λZ Z Z=>true) (λZ Z Z Z=>true) (λZ Z Z=>true) (λZ Z Z Z=>true) (λZ Z Z Z=>true) (λZ Z Z=>true) (λZ Z Z=>false) (λZ Z Z Z=>true) (λZ Z Z Z=>true) (λZ Z Z Z Z=>true) (λZ Z Z Z=>true) (λZ Z=>true) (λZ Z=>true) (λZ Z=>true) (λZ Z Z Z=>true) (λZ Z Z Z=>true) (λZ Z Z Z=>true) (λZ Z=>true) (λZ Z Z=>true) (λZ Z Z=>true) (λZ Z Z=>true) (λZ Z=>true) (λZ Z=>true) (λZ Z=>true) (λZ Z Z=>true) (λZ Z Z Z=>true)
theorem wr{op:CmpOp}{x:aa}:xD x=true->behindInMarks op x=false:=by
 cases x<;>first | exact λZ=>rfl | exact mP
theorem oN.u64(ar:oN A c q d):A.units+64 < j5:=cR (jy (by decide:64 < 210) A.units) (az (bS (aN _ _) 210) ar.units)
theorem Qi(ok:ot W P)(ar:oN A c q d)(hn:xD Ue=true)(a:nc P W c q A C Uq Ui)(b:nc P W c q A C Uo Ue):
  nc P W c q A C (.cmp op Uq Uo) (.Compare Ui [op.py] [Ue] pos):=by
 intro ρ φ σ s Q E H h;refine wpAny_Compare1 (a H (mS.bind h λv σ' TV y s' Z g rv hk=>b (H.good g) (mS.bind hk λv' UG Up y' UB Z g' Vj hk'=>?_))) (wr hn);refine mO hk'.of λu hu hk'=>?_;refine mO (ms hu) λr hr Ua=>?_;subst Ua;exact MU ok g'.inv ar.u64 (g'.rep rv) Vj hr λt=>hk' _ _ (Good.tok g'.inv) rfl
theorem Rw(ok:ot W P)(ar:oN A c q d)(hn:xD Ue=true)(a:nc P W c q A C Uq Ui)(b:nc P W c q A C Uo Ue):
  pM P W c q A C (.cmp op Uq Uo) (.Compare Ui [op.py] [Ue] pos):=by
 intro ρ φ σ s Q E H h;refine wpAny_isTrue_Compare1 (a H (mS.bind h λv σ' TV y s' Z g rv hk=>b (H.good g) (mS.bind hk λv' UG Up y' UB Z g' Vj hk'=>?_))) (wr hn);refine mO hk'.of λu hu hk'=>?_;exact MU ok g'.inv ar.u64 (g'.rep rv) Vj hu λt=>c7 (hk' _ _ (Good.tok g'.inv) rfl)
noncomputable def vf(x:aa):Bool:=av (motive_1:=λZ=>Bool) x (λZ Z Z=>true) (λZ Z Z=>true) (λZ Z Z Z=>true) (λZ Z Z=>true) (λZ Z Z Z=>true) (λZ Z Z Z=>true) (λZ Z Z=>true) (λZ Z Z=>true) (λZ Z Z Z=>true) (λZ Z Z Z=>true) (λZ Z Z Z Z=>true) (λZ Z Z Z=>true) (λZ Z=>true) (λZ Z=>true) (λZ Z=>true) (λZ Z Z Z=>true) (λZ Z Z Z=>true) (λZ Z Z Z=>true) (λZ Z=>true) (λZ Z Z=>true) (λZ Z Z=>true) (λZ Z Z=>true) (λZ Z=>true) (λZ Z=>true) (λZ Z=>true) (λZ Z Z=>true) (λZ Z Z Z=>false)
theorem qy{i:aa}:vf i=true->∀a b:af,fj i false a b=jr [a,b] (getItem a b):=by
 cases i<;>first | exact λZ Z Z=>rfl | exact mP
theorem Mf(ok:ot W P)(i:Inv W φ σ s.heap){cv iv u:V}{x:af}(rc:mT W φ s.heap cv x)(ri:mT W φ s.heap iv y)(e:tL P σ cv iv=some u)(hs:vf slice=true)(h:∀z t,mT W φ s.heap u z->Q z {s with toks:=t}):an W.M A (dQ value slice x y) Q E s:=by
 rcases m8 e with e | e
 .refine mO (bs e) λj e1 e=>?_;refine mO (bs e) λa e2 e=>?_;refine mO (ms e) λb hb Ua=>?_;subst Ua;rw[nS e1] at ri;rw[oF e2] at rc;refine m4 ri λt T6=>?_;subst T6;exact Pl ok rc hb (qy hs) h
 rcases m8 e with e | e
 .refine mO (bs e) λj e1 e=>?_;refine mO (bs e) λl hl hu=>?_;rw[nS e1] at ri;refine m4 ri λt T6=>?_;subst T6;exact Ph i rc hl hu (qy hs) λz rz=>h z s.toks rz
 .refine mO (bs e) λk e1 e=>?_;refine mO (bs e) λl hl hu=>?_;rw[oF e1] at ri;exact Ej ok i rc hl ri hu (qy hs) h
theorem Qj(ok:ot W P)(hn:vf Ue=true)(a:nc P W c q A C Uq Ui)(b:nc P W c q A C Uo Ue):nc P W c q A C (.idx Uq Uo) (.Subscript Ui Ue pos):=by
 intro ρ φ σ s Q E H h;refine Subscript_ (a H (mS.bind h λv σ' TV y s' Z g rv hk=>b (H.good g) (mS.bind hk λv' UG Up y' UB Z g' Vj hk'=>?_)));refine mO hk'.of λu hu hk'=>?_;exact Mf ok g'.inv (g'.rep rv) Vj hu hn λz t rz=>hk' _ _ (Good.tok g'.inv) rz
theorem Qq{x:aa}(a:nc P W c q A C e x):nc P W c q A C (.not e) (.UnaryOp .Not x pos):=by
 intro ρ φ σ s Q E H h;refine wpAny_UnaryOp (a H (mS.bind h λv σ' TV y s' Z g rv hk=>?_));refine mO hk.of λu hu hk=>?_;refine mO (ms hu) λb hb Ua=>?_;subst Ua;rw[pP hb] at rv;rw[show y=.bool b from rv];exact not_of (c7 (hk _ _ (.refl g.inv) rfl))
end
section
variable {P:Pg}{W:Wd}{c:Cx}{q:Bool}{A:aH}{C:Call}{ρ:mQ}{φ:List ai}{σ:St}{s:ag}{E:af->ag->Prop}
theorem OP(x:nV P W c q A C es []):es=.nil:=by
 cases x;rfl
theorem HR{xs:List aa}(X:nV P W c q A C es xs):∀{φ:List ai} {σ:St} {s:ag} {Q:af->ag->Prop},ng W c ρ φ σ s->
  mS W c φ s (R9 P q C es ρ σ) (mT W) Q E->an W.M A (boolOp pos .And (evalEach xs c.env)) Q E s:=by
 induction X with
 |nil=>intro φ σ s Q H h;exact h.elim
 |cons a r ih=>
  intro φ σ s Q H h
  cases r with
  |nil=>exact a H h
  |cons b r=>
   refine ac (a H (mS.bind h λv σ' TV z s' Z g rv hk=>ac (bv ?_)))
   cases hv:pp v with
   |none=>rw[hv] at hk;exact hk.elim
   |some bb=>
    rw[pP hv] at rv hk;rw[show z=.bool bb from rv];refine ac (aK (c7 ?_))
    cases bb with
    |true=>exact ih (H.good g) hk
    |false=>exact al (hk _ _ _ (.refl g.inv) rfl)
theorem KW{xs:List aa}(X:nV P W c q A C es xs):∀{φ:List ai} {σ:St} {s:ag} {Q:af->ag->Prop},ng W c ρ φ σ s->
  mS W c φ s (TF P q C es ρ σ) (mT W) Q E->an W.M A (boolOp pos .Or (evalEach xs c.env)) Q E s:=by
 induction X with
 |nil=>intro φ σ s Q H h;exact h.elim
 |cons a r ih=>
  intro φ σ s Q H h
  cases r with
  |nil=>exact a H h
  |cons b r=>
   refine ac (a H (mS.bind h λv σ' TV z s' Z g rv hk=>ac (bv ?_)))
   cases hv:pp v with
   |none=>rw[hv] at hk;exact hk.elim
   |some bb=>
    rw[pP hv] at rv hk;rw[show z=.bool bb from rv];refine ac (aK (c7 ?_))
    cases bb with
    |false=>exact ih (H.good g) hk
    |true=>exact al (hk _ _ _ (.refl g.inv) rfl)
theorem Qg{xs:List aa}(a:nV P W c q A C es xs):nc P W c q A C (.and es) (.BoolOp .And xs pos):=by
 intro ρ φ σ s Q E H h;exact HR a H h
theorem Sn{xs:List aa}(a:nV P W c q A C es xs):nc P W c q A C (.or es) (.BoolOp .Or xs pos):=by
 intro ρ φ σ s Q E H h;exact KW a H h
theorem Ql{V9:MX}{Vz:aa}(t:pM P W c q A C V9 Vz)(a:nc P W c q A C Uq Ui)(b:nc P W c q A C Uo Ue):nc P W c q A C (.ite V9 Uq Uo) (.IfExp Vz Ui Ue pos):=by
 intro ρ φ σ s Q E H h;refine wpAny_IfExp (t H (mS.bind h λv σ' TV y s' Z g rv hk=>?_));subst rv
 cases y with
 |true=>exact a (H.good g) hk
 |false=>exact b (H.good g) hk
theorem Ry{x:aa}(t:pM P W c q A C e x):pM P W c q A C (.not e) (.UnaryOp .Not x pos):=by
 intro ρ φ σ s Q E H h;refine wpAny_isTrue_Not (t H (mS.bind h λv σ' TV y s' Z g rv hk=>?_));subst rv;exact hk _ _ _ (.refl g.inv) rfl
theorem Rx{V9:MX}{Vz:aa}(t:pM P W c q A C V9 Vz)(a:pM P W c q A C Uq Ui)(b:pM P W c q A C Uo Ue):pM P W c q A C (.ite V9 Uq Uo) (.IfExp Vz Ui Ue pos):=by
 intro ρ φ σ s Q E H h;rw[arm_isTrue_IfExp];refine ac (t H (mS.bind h λv σ' TV y s' Z g rv hk=>?_));subst rv
 cases y with
 |true=>exact a (H.good g) hk
 |false=>exact b (H.good g) hk
variable (P W c q A C) in
class inductive qQ:MX->List aa->Prop
 |nil:qQ .nil []
 |cons {e es:MX} {x:aa} {xs:List aa}:pM P W c q A C e x->qQ es xs->qQ (.cons e es) (x::xs)
theorem Rt{xs:List aa}(X:qQ P W c q A C es xs):∀{φ:List ai} {σ:St} {s:ag} {Q:Bool->ag->Prop},ng W c ρ φ σ s->
  mS W c φ s (R8 P q C es ρ σ) (λZ Z b b'=>b'=b) Q E->an W.M A (allTrue .And xs c.env) Q E s:=by
 induction X with
 |nil=>intro φ σ s Q H h;exact wpAny_allTrue_And_nil (h _ _ _ (.refl H.inv) rfl)
 |cons a r ih=>
  intro φ σ s Q H h;refine wpAny_allTrue_And_cons (a H (mS.bind h λv σ' TV y s' Z g rv hk=>?_));rw[rv]
  cases v with
  |true=>exact ih (H.good g) hk
  |false=>exact hk _ _ _ (.refl g.inv) rfl
theorem Rv{xs:List aa}(X:qQ P W c q A C es xs):∀{φ:List ai} {σ:St} {s:ag} {Q:Bool->ag->Prop},ng W c ρ φ σ s->
  mS W c φ s (Sa P q C es ρ σ) (λZ Z b b'=>b'=b) Q E->an W.M A (allTrue .Or xs c.env) Q E s:=by
 induction X with
 |nil=>intro φ σ s Q H h;exact wpAny_allTrue_Or_nil (h _ _ _ (.refl H.inv) rfl)
 |cons a r ih=>
  intro φ σ s Q H h;refine wpAny_allTrue_Or_cons (a H (mS.bind h λv σ' TV y s' Z g rv hk=>?_));rw[rv]
  cases v with
  |true=>exact hk _ _ _ (.refl g.inv) rfl
  |false=>exact ih (H.good g) hk
theorem Ru{xs:List aa}(a:qQ P W c q A C es xs):pM P W c q A C (.and es) (.BoolOp .And xs pos):=by
 intro ρ φ σ s Q E H h;exact jz (Rt a H h)
theorem SS{xs:List aa}(a:qQ P W c q A C es xs):pM P W c q A C (.or es) (.BoolOp .Or xs pos):=by
 intro ρ φ σ s Q E H h;exact jz (Rv a H h)
noncomputable def v8(x:aa):Bool:=av (motive_1:=λZ=>Bool) x (λZ Z Z=>false) (λZ Z Z=>true) (λZ Z Z Z=>true) (λo Z Z=>!decide (o=.Not)) (λZ Z Z Z=>true) (λZ Z Z Z=>false) (λZ Z Z=>true) (λZ Z Z=>true) (λZ Z Z Z=>true) (λZ Z Z Z=>true) (λZ Z Z Z Z=>true) (λZ Z Z Z=>true) (λZ Z=>true) (λZ Z=>true) (λZ Z=>true) (λZ Z Z Z=>false) (λZ Z Z Z=>true) (λZ Z Z Z=>true) (λZ Z=>true) (λZ Z Z=>true) (λZ Z Z=>true) (λZ Z Z=>true) (λZ Z=>true) (λZ Z=>true) (λZ Z=>true) (λZ Z Z=>true) (λZ Z Z Z=>true)
theorem vP{x:aa}{env:d9}{whole:jM af}:v8 x=true->isTrue x env whole=(do let v <-whole;lq x.pos;iM [v] (truthy v)):=by
 cases x with
 |UnaryOp op _ _=>cases op<;>first | exact λZ=>rfl | exact mP
 |_=>first | exact λZ=>rfl | exact mP
theorem Rz{x:aa}(hx:v8 x=true)(a:nc P W c q A C e x)(heq:∀ρ σ,dT P q C e ρ σ=(dE P q C e ρ σ).bind λv σ=>R.of (pp v) σ):pM P W c q A C e x:=by
 intro ρ φ σ s Q E H h;rw[heq] at h;refine wpAny_isTrue_value (a H (mS.bind h λv σ' TV y s' Z g rv hk=>?_)) (vP hx);refine mO hk.of λb hb hk=>?_;rw[pP hb] at rv;rw[show y=.bool b from rv];exact c7 (hk _ _ (.refl g.inv) rfl)
theorem Pp(i:Inv W φ σ s.heap){v v' u:V}{x:af}(rv:mT W φ s.heap v x)(Vj:mT W φ s.heap v' y)(e:uB σ v v'=some u){p:b8}(h:∀z s',Good W [] φ s σ φ s'->mT W φ s'.heap u z->Q z s'):
  an W.M A (dQ Ui (.Slice none (some Ue) none p) x (.ref s.heap.objs.size)) Q E {s with heap:=s.heap.push {cls:=.type "slice",data:=.fields #[.none,y,.none]}}:=by
 have gp:=Good.push (own:=[]) i ({cls:=.type "slice",data:=.fields #[.none,y,.none]}:eT);have rv2:=gp.rep rv
 rcases m8 e with e | e
 .refine mO (bs e) λj e1 e=>?_;refine mO (bs e) λl e2 e=>?_;refine nE (nu e) λhj T6=>?_;subst T6;rw[nS e1,hj.1] at Vj;rw[oy e2] at rv2;refine m4 Vj λt T6=>?_;subst T6;exact C0 (A:=A) (E:=E) gp.inv rv2 hj.2.1 (jI s.heap .none (.int 0 t) .none) (λa b=>CD a b) λz s3 g3 rz=>h z s3 (gp.trans g3) rz
 .refine mO (bs e) λj e1 e=>?_;refine mO (bs e) λl hl e=>?_;refine nE (nu e) λhj T6=>?_;subst T6;rw[nS e1] at Vj;refine m4 Vj λt T6=>?_;subst T6;exact Eo (A:=A) (E:=E) gp.inv rv2 hl ⟨hj.1,hj.2.1⟩ (jI s.heap .none (.int j t) .none) (λa b=>CD a b) λz s3 g3 rz=>h z s3 (gp.trans g3) rz
theorem NQ(Uq Uo:MX){p:b8}(a:nc P W c q A C Uq Ui)(b:nc P W c q A C Uo Ue):nc P W c q A C (.upto Uq Uo) (.Subscript Ui (.Slice none (some Ue) none p) pos):=by
 intro ρ φ σ s Q E H h;refine Subscript_ (a H (mS.bind h λv σ' TV y s' Z g rv hk=>?_))
 show an W.M A (do
  let l <-(pure .none:jM af)
  let u <-iM [l] (eval Ue c.env)
  let s <-iM [l,u] (pure .none)
  kF "slice" [l,u,s]) _ E s'
 refine ac (al (ac (aK (b (H.good g) (mS.bind hk λv' UG Up y' UB Z g' Vj hk'=>ac (aK (al ?_)))))));refine mO hk'.of λu hu hk2=>?_;exact aZ (Pp g'.inv (g'.rep rv) Vj hu hk2) (by show 3<=bp+2;rw[cu];decide)
theorem NP{k:Nat}:nc P W c q A C (.lit .none) (.Constant .none k pos):=by
 intro ρ φ σ s Q E H h;exact wpAny_Constant_none (h _ _ _ (.refl H.inv) rfl)
theorem NH{b:Bool}{k:Nat}:nc P W c q A C (.lit (.bool b)) (.Constant (.bool b) k pos):=by
 intro ρ φ σ s Q E H h;exact wpAny_Constant_bool (h _ _ _ (.refl H.inv) rfl)
theorem Qk{i:Int}{k:Nat}:nc P W c q A C (.lit (.int i)) (.Constant (.int i) k pos):=by
 intro ρ φ σ s Q E H h;exact jQ (h _ _ _ (Good.tok H.inv) (⟨_,rfl⟩))
theorem Qo{i:Int}{k:Nat}{p:b8}:nc P W c q A C (.lit (.int (-i))) (.UnaryOp .USub (.Constant (.int i) k p) pos):=by
 intro ρ φ σ s Q E H h;refine wpAny_UnaryOp (jQ (neg_int ?_));exact h _ _ _ (Good.tok H.inv) (⟨_,rfl⟩)
theorem Qr{x:aI}{k:Nat}(hS:W.S[j]?=some x):nc P W c q A C (.lit (.sym j)) (.Constant (.str x) k pos):=by
 intro ρ φ σ s Q E H h;exact eW (h _ _ _ (Good.tok H.inv) (⟨_,_,hS,rfl⟩))
theorem Qu{i:Nat}{x:aI}(hc:EY c.ck i x=true):nc P W c q A C (.var i) (.Name x pos):=by
 intro ρ φ σ s Q E H h;exact RA hc H h
theorem NM(gl:oR G W mg mb){k:Nat}{x:aI}(hk:G.nm.cn[k]?=some x)(hc:nN c.ck x=true):nc G.P W c q A C (.glob k) (.Name x pos):=by
 intro ρ φ σ s Q E H h;exact O8 gl hk hc H h
end
section
variable {P:Pg}{W:Wd}{c:Cx}{q:Bool}{A:aH}{C:Bool->Call}{d:Nat}{ρ:mQ}{φ:List ai}{σ:St}{s:ag}{E:af->ag->Prop}{fnA:Nat->ai}
theorem NI(gl:oR G W mg mb)(ck:uK G.fnA W d C)(ar:oN A c q d){f:Nat}{x:aI}{xs:List aa}{p:b8}(hk:G.nm.fnm[f]?=some (some x))(hc:nN c.ck x=true)(YD:∃o fd,W.base.get? (G.fnA f)=some o/\o.data=.func fd)(hs:xs.all nj=true)(a:nV P W c q A (C q) es xs):nc P W c q A (C q) (.call f es) (.Call (.Name x p) xs [] pos):=by
 intro ρ φ σ s Q E H h;refine cB (JY gl hk hc H ?_);rw[oM _ _ hs];refine vE (first:=[]) YD (uE a H (mS.bind h λl σ' TV ys s' Z g rl hk'=>⟨g.inv.base,?_⟩));exact CU ck ar (H.good g) rl hk'
theorem Sk(gl:oR G W mg mb)(ok:ot W P)(ar:oN A c q d){b:BI}{x:aI}{y:aa}{p:b8}(hx:x∈qp)(hb:gv x=some b.py)(hc:nN c.ck x=true)(hs:nj y=true)(a:nc P W c q A (C q) e y):nc P W c q A (C q) (.bi b e) (.Call (.Name x p) [y] [] pos):=by
 intro ρ φ σ s Q E H h;have h:=mS.gd h
 have hh:b.loud=true->A.handled=none:=λhl=>ar.handled (by
  have hq:=h.1;rw[hl,lQ] at hq
  exact hq)
 refine cB (rH gl hx hb hc H ?_);rw[oM _ _ (show [y].all nj=true from bj.mpr ⟨hs,rfl⟩)]
 have body:an W.M A (fw (nG [y] c.env)) (λvs s'=>an W.M A (call b.py vs) Q E s') E s:=
  spliced_cons (a H (mS.bind h.2 λv σ' TV z s' Z g rv hk=>spliced_nil (SU ok (c:=c) hh g.inv rv hk)))
 cases b with
 |len=>exact qV (first:=[]) body
 |any=>exact qV (first:=[]) body
 |sorted m=>exact qV (first:=[]) body
 |list m=>exact pD (first:=[]) body
 |tuple=>exact pD (first:=[]) body
 |dict=>exact pD (first:=[]) body
theorem Sl(ok:ot W P){m:BM}{x:aa}{xs:List aa}(hb:qe x=true)(hs:xs.all nj=true)(hl:xs.length < 30)(UM:(apos.endLine==pos.line)=true)(a:nc P W c q A (C q) e x)(r:nV P W c q A (C q) es xs):nc P W c q A (C q) (.bm m e es) (.Call (.Attribute x m.name apos) xs [] pos):=by
 intro ρ φ σ s Q E H h;refine yk hb hs hl UM (a H (mS.bind h λv σ' TV y s' Z g rv hk=>?_));have hk:=mS.gd hk;exact Ma ok g.inv rv hk.1 (qV (uE r (H.good g) (mS.bind hk.2 λl UG Up ys UB Z g' rl hk'=>SV g'.inv (g'.rep rv) rl ok hk')))
theorem NN(ok:ot W P)(hK:K.In W.base)(cf:∀c,qO K (W.cls c) attrs)(ck:uK fnA W d C)(ar:oN A c q d){k:Nat}{nm:aI}{x:aa}{xs:List aa}(hS:W.S[k]?=some nm)(hm:∀cl f,P.meth cl k=some f->(dj K (.ref (W.cls cl)) nm=some (some (.ref (fnA f)))/\jP K (.ref (fnA f))=some (.type "function"))/\∃o fd,W.base.get? (fnA f)=some o/\o.data=.func fd)(hb:qe x=true)(hs:xs.all nj=true)(hl:xs.length < 30)(UM:(apos.endLine==pos.line)=true)(a:nc P W c q A (C q) e x)(r:nV P W c q A (C q) es xs):nc P W c q A (C q) (.meth e k es) (.Call (.Attribute x nm apos) xs [] pos):=by
 intro ρ φ σ s Q E H h;refine yk hb hs hl UM (a H (mS.bind h λv σ' TV y s' Z g rv hk=>?_));refine mO (mS.opt hk) λf hf hk=>?_;refine ux (pS hf) λZ cl Z Z Z Z Z hcl=>?_;have hcl:=(y2 hcl).2;refine G3 (P:=P) (fa:=fnA f) ok (λa o e=>g.inv.base _ _ (hK a o e)) cf g.inv hS rv hf (λcl' h'=>(hm cl' f h').1) ?_;have H':=H.good g;refine vE (first:=[y]) (hm cl f hcl).2 (uE r H' (mS.bind hk λl UG Up ys UB Z g' rl hk'=>⟨g'.inv.base,?_⟩));exact CU ck ar (H'.good g') (.cons' (g'.rep rv) rl) hk'
class inductive KeysAre(S:List aI):List Nat->List (Option aa)->Prop
 |nil:KeysAre S [] []
 |cons {k:Nat} {x:aI} {kd:Nat} {p:b8} {ks:List Nat} {keys:List (Option aa)}:S[k]?=some x->KeysAre S ks keys->KeysAre S (k::ks) (some (.Constant (.str x) kd p)::keys)
theorem KeysAre.all{keys:List (Option aa)}(h:KeysAre S ks keys):keys.all (·.isSome)=true:=by
 induction h with
 |nil=>rfl
 |cons _ _ ih=>exact ih
theorem KeysAre.length{keys:List (Option aa)}(h:KeysAre S ks keys):keys.length=ks.length:=by
 induction h with
 |nil=>rfl
 |cons _ _ ih=>exact congrArg ji ih
theorem LG(ok:ot W P){Cq:Call}{xs:List aa}(X:nV P W c q A Cq es xs):∀{ks:List Nat} {keys:List (Option aa)},KeysAre W.S ks keys->ks.length=xs.length->
  ∀{φ:List ai} {σ:St} {s:ag} {Q:List (af×af)->ag->Prop},ng W c ρ φ σ s->
  mS W c φ s (dL P q Cq es ρ σ) (λφ h l vs=>∃kvs,Carries (aC W.prog W.w) vs kvs/\n8 W φ h (ks.zip l) kvs) Q E->an W.M A (evalPairs (pairTrees keys xs c.env pos)) Q E s:=by
 induction X with
 |nil=>
  intro ks keys hx hk φ σ s Q H h
  cases hx with
  |cons _ _=>cases hk
  |nil=>exact evalPairs_nil (h _ _ _ (.refl H.inv) ⟨[],trivial,rfl⟩)
 |cons a r ih=>
  intro ks keys hx hk φ σ s Q H h
  cases hx with
  |nil=>cases hk
  |cons hS hx=>
   have gt:Good W [] φ s σ φ {s with toks:=s.toks+1}:=Good.tok H.inv;refine pairTrees_cons_walk (eW (a (H.good gt) (mS.bind (mS.step gt h) λv σ' TV z s' Z g rv hk2=>?_)));refine ih hx (c0 hk) ((H.good gt).good g) (mS.bind hk2 λl UG Up ps UB Z g' rp Yz=>?_);refine mO rp λkvs hc rd=>?_;exact Yz _ _ _ (.refl g'.inv) ⟨(_,z)::kvs,⟨dH _ _ _ _,rfl,hc⟩,.cons' hS (g'.rep rv) rd⟩
theorem mS.allot(h:mS W c φ s (ul ks l σ) (mT W) Q E):(ks.length=l.length/\ks.length<=8)/\mS W c φ s (newO σ (.dict (yt [] (ks.zip l)))) (mT W) Q E:=mS.gd h
theorem NJ(ok:ot W P){Cq:Call}{keys:List (Option aa)}{xs:List aa}(a:nV P W c q A Cq es xs)(hk:ks.length=xs.length)(hlen:keys.length<=15)(hx:KeysAre W.S ks keys):nc P W c q A Cq (.dict ks es) (.Dict keys xs pos):=by
 intro ρ φ σ s Q E H h
 cases xs with
 |nil=>
  cases hx with
  |cons _ _=>cases hk
  |nil=>
   have e:=OP a;subst e;exact G5 H.inv λTV y s' g r=>(mS.allot (ks:=[]) (l:=[]) h).2 TV y s' g r
 |cons Vz xs=>
  have hne:keys≠[]:=λe=>by
   rw[e] at hx
   cases hx
   cases hk
  refine wpAny_Dict_walk (knd:=aC W.prog W.w) hx.all (hx.length.trans hk) hne hlen ?_;have gp:Good W [] φ s σ φ {s with heap:=s.heap.push ({cls:=.type "dict",data:=.dict #[]}:eT)}:=Good.push H.inv _;have hD:s.heap.get? s.heap.objs.size=none:=m9 _;have hw:W.base.get? s.heap.objs.size=none:=tZ H.inv.base hD;have W0:(s.heap.push ({cls:=.type "dict",data:=.dict #[]}:eT)).get? s.heap.objs.size=some ({cls:=.type "dict",data:=.dict #[]}:eT):=ax _ rfl;refine LG ok a hx hk (H.good gp) (mS.bind (mS.step gp h) λl σ' TV ps s' el g rp hk2=>?_);refine mO rp λkvs hc rd=>?_;have Yw:s.heap.objs.size∉TV:=g.grows.notin W0 H.inv.size_notin.1;have Zi:s'.heap.get? s.heap.objs.size=some ({cls:=.type "dict",data:=.dict #[]}:eT):=g.evo.exact W0 (by rw[ba];exact H.inv.size_notin.1) (by decide);refine⟨kvs,hc,⟨_,_,_,Zi,⟨rfl,rfl,rfl⟩,rfl,λe he=>absurd he (Array.not_mem_empty e),.nil,.nil⟩,λh' hm Um=>?_⟩;have hex:=rO hm;have X3:∃o,s'.heap.get? s.heap.objs.size=some o/\∀vs n,o.data≠.seq vs n:=⟨_,Zi,λvs n q=>by cases q⟩;have ev:=vk Um hex
  have hr:qm W (TV++[s.heap.objs.size]) h' (.dict (yt [] (ks.zip l))) s.heap.objs.size:=
   ⟨_,hm,((n8.merge ok.nodup (n8.nil':n8 W TV s'.heap [] []) .nil rd).evo ev (ua hw X3) (.refl _ _)).widen hw (DictOf.noSeq hm)⟩
  have ga:=Good.adopt (t:=s'.toks+ps.length) (gp.trans g) _ hD hw Yw (λo e=>vd X3 e) hex Um (DictOf.noSeq hm) hr;have h2:mS W c φ s ((R.ok l σ').bind λl σ=>ul ks l σ) (mT W) Q E:=el▸h;exact (mS.allot h2).2 _ _ _ ga ⟨_,g.inv.last _,rfl⟩
end
theorem Ea{i:Int}(h:-1000<=i/\i<=1000):(bw (toString i)).length<=5:=by
 have key:∀n:Nat,n<=1000->(bw (toString (n:Int))).length<=5/\(bw (toString (-(n:Int)))).length<=5:=by
  decide +kernel
 by_cases h0:0<=i
 .have:=(key i.toNat (mi.mpr h.2)).1
  rwa [bV h0] at this
 .have:=(key (-i).toNat (mi.mpr (ja h.1))).2;rw[bV (ib (iF (gI.mp h0))),Int.neg_neg] at this;exact this
theorem GT{i:Int}(h:-1000<=i/\i<=1000):i.natAbs.log2 < 1920:=by
 have k:i.natAbs<=1000:=by
  rcases Int.le_total 0 i with h0 | h0
  .exact gm.mp (Int.natAbs_of_nonneg h0▸h.2)
  .exact gm.mp (Int.ofNat_natAbs_of_nonpos h0▸ja h.1)
 exact dy (Nat.log2_le_self _) (dy k (by decide))
section
variable {P:Pg}{W:Wd}{c:Cx}{q:Bool}{A:aH}{C:Call}{d:Nat}{ρ:mQ}{φ:List ai}{σ:St}{s:ag}{E:af->ag->Prop}{fnA:Nat->ai}
theorem Pk(ok:ot W P)(i:Inv W φ σ s.heap){v:V}{x:af}{k:Nat}(r:mT W φ s.heap v x)(e:vl P v=some k)(hk:k<=1000)(h:∀y t tk,y.length<=k->Q (.str y t) {s with toks:=tk}):an W.M A (formatField x aI.empty) Q E s:=by
 rcases m8 e with e | e
 .refine mO (bs e) λj e1 e=>?_;refine nE (nu e) λhj T6=>?_;subst T6;rw[nS e1] at r;refine m4 r λt T6=>?_;subst T6;exact wpAny_formatField_int (GT hj) (h _ _ _ (Ea hj))
 .refine nr (yi ok r e) λt u Ua hl=>?_;subst Ua;exact wpAny_formatField_str (h t u s.toks hl) (h t _ _ hl) (az (az hl hk) (by rw[cu];decide))
class inductive o4:List aa->List aa->Nat->Prop
 |nil:o4 [] [] 0
 |str {x:aI} {kd:Nat} {p:b8} {r vs:List aa} {n:Nat}:o4 r vs n->o4 (.Constant (.str x) kd p::r) vs (n+x.length)
 |val {v:aa} {p:b8} {r vs:List aa} {n:Nat}:o4 r vs n->o4 (.FormattedValue v (-1) none p::r) (v::vs) n
theorem BN{a b n:Nat}(e:a=b)(h:a+n+m<=bp):b<=bp:=e▸az (az (aN a n) (aN (a+n) m)) h
theorem LF(ok:ot W P){parts vals:List aa}{n:Nat}(X:o4 parts vals n):∀{es:MX},nV P W c q A C es vals->∀{φ:List ai} {σ:St} {s:ag} {acc:aI} {Q:aI->ag->Prop},ng W c ρ φ σ s->
  acc.length+n+1000 * vals.length<=bp->mS W c φ s (dF P q C es ρ σ) (λ_ _ k (out:aI)=>out.length<=acc.length+n+k) Q E->Joins W.M A E (evalEach parts c.env) acc Q s:=by
 induction X with
 |nil=>
  intro es a φ σ s acc Q H hl h
  cases a
  exact h _ _ _ (.refl H.inv) (aQ _)
 |@str x kd p r vs n X ih=>
  intro es a φ σ s acc Q H hl h;have hx:(acc++x).length=acc.length+x.length:=hU _ _
  have e:acc.length+(n+x.length)=(acc++x).length+n:=by rw[hx,cL,mo n]
  rw[e] at hl h;have gt:Good W [] φ s σ φ {s with toks:=s.toks+1}:=Good.tok H.inv;exact eW ⟨x,_,rfl,BN rfl hl,ih a (H.good gt) hl (mS.step gt h)⟩
 |@val v p r vs n X ih=>
  intro es a φ σ s acc Q H hl h
  cases a with
  |cons a b=>
   refine wpAny_FormattedValue_plain (a H (mS.bind h λu σ' TV y s' Z g rv hk=>?_));refine mO (mS.opt hk) λk hp hk=>?_;have hk:=mS.gd hk
   have hb:acc.length+k+n+1000 * vs.length<=bp:=by
    rw[bT acc.length k n,bT (acc.length+n) k];exact az (bd hk.1 _) (az (dv (cL _ _ 1000)) hl)
   refine Pk ok g.inv rv hp hk.1 λz t tk hz=>?_;have hx:(acc++z).length=acc.length+z.length:=hU _ _;have hle:(acc++z).length<=acc.length+k:=hx▸bd hz _;have hb':(acc++z).length+n+1000 * vs.length<=bp:=az (bS (bS hle n) _) hb;have gt:Good W [] TV s' σ' TV {s' with toks:=tk}:=Good.tok g.inv;refine⟨z,t,rfl,BN rfl hb',ih b ((H.good g).good gt) hb' (mS.bind (mS.step gt hk.2) λk2 UG Up out UB Z g2 ho Yz=>Yz _ _ _ (.refl g2.inv) ?_)⟩;refine az ho ?_;have:=bS (bS hle n) k2;refine az this (dv ?_);rw[bT acc.length,cL (acc.length+n)]
theorem NK(ok:ot W P){n:Nat}{parts vals:List aa}(hp:o4 parts vals n)(h2:2<=parts.length)(hn:n<=10000)(hv:vals.length<=50)(a:nV P W c q A C es vals):
  nc P W c q A C (.fstr n es) (.JoinedStr parts pos):=by
 intro ρ φ σ s Q E H h
 have hz:aI.empty.length+n+1000 * vals.length<=bp:=by
  rw[cu];exact az (jh ((gu n).symm▸hn) (gf 1000 hv)) (by decide)
 cases parts with
 |nil=>cases h2
 |cons WK r=>cases r with
  |nil=>exact absurd h2 (Nat.not_succ_le_self 1)
  |cons Wk rest=>
   refine wpAny_JoinedStr (LF ok hp a H hz (mS.bind h λk σ' TV out s' Z g ho hk=>?_));have hk:=mS.gd hk;have WU:out.length<=n+k:=az ho (dv (congrArg (·+k) (gu n)));exact⟨az WU (n5 hk.1),hk.2 _ _ _ (Good.tok g.inv) ⟨_,_,WU,rfl⟩⟩
end
theorem zp(rest:List af)(kw:List (aI×af))(C:ai):(ce "type.__call__" ⟨.ref C::rest,kw⟩).weight<=2:=by
 have h1:(ce "type.__call__" ⟨.ref C::rest,kw⟩).frames=0:=by kernel_rfl
 have h2:(ce "type.__call__" ⟨.ref C::rest,kw⟩).isGuard=false:=by kernel_rfl
 have h3:(ce "type.__call__" ⟨.ref C::rest,kw⟩).isCaller=false:=by kernel_rfl
 unfold Code.weight;rw[h1,h2,h3]
 split<;>simp
theorem JS(rest:List af)(kw:List (aI×af))(C:ai):(ce "type.__call__" ⟨.ref C::rest,kw⟩).cUnits<=5:=by
 have h1:(ce "type.__call__" ⟨.ref C::rest,kw⟩).frames=0:=by kernel_rfl
 simp [Code.cUnits,h1]
theorem LY(rest:List af)(kw:List (aI×af))(C:ai):(ce "type.__call__" ⟨.ref C::rest,kw⟩).envs=[]:=by kernel_rfl
section
variable {P:Pg}{c:Cx}{q:Bool}{C:Bool->Call}{s:ag}{fnA:Nat->ai}
theorem wo{M:ge}{C:ai}(x:Makes M h C)(k:∀b o,h.get? b=some o->h'.get? b=some o):Makes M h' C:=by
 obtain ⟨⟨oc,od,cd,sl,hC,r⟩,b,c,d,e,f,g⟩:=x;exact⟨⟨oc,od,cd,sl,k _ _ hC,r⟩,b.keeps k,c.keeps k,d.keeps k,e.keeps k,f.keeps k,g.keeps k⟩
theorem yB{cl:ai}(mk:Makes W.M W.base cl){es:List aa}(h:an W.M A (fw (nG es c.env)) (λvs s'=>W.base.StaysIn s'.heap/\an W.M A (call (.ref cl) vs) Q E s') E s):an W.M A (fv pos (.ref cl) [] (nG es c.env) []) Q E s:=by
 unfold fv;refine ac (aK (qJ (bB h (λvs TW T1=>?_) λZ Z x=>x)));refine ac (bv ?_);have mk':=wo mk T1.1;obtain ⟨⟨oc,od,cd,sl,hC,_⟩,_,_,_,_,hcall,_⟩:=mk';rw[qh];refine ac ?_;unfold keeperOf;refine ac (jR hC ?_);refine ac (hcall.here (al ?_));rw[if_pos (by simp)];exact ac (bB T1.2 (λr T2 hr=>ac (aK (wpAny_point (al hr)))) λZ Z x=>x)
theorem IN(i:Inv W φ σ s.heap)(k:Nat):
  Good W own φ s (σ++[.dict [],.inst k σ.length]) (φ++[s.heap.objs.size]++[(s.heap.push eE).objs.size]) {s with heap:=(s.heap.push eE).push (instObj W k s.heap.objs.size)}/\
   mT W (φ++[s.heap.objs.size]++[(s.heap.push eE).objs.size]) ((s.heap.push eE).push (instObj W k s.heap.objs.size)) (.obj (σ.length+1)) (.ref (s.heap.objs.size+1)):=by
 have g1:Good W own φ s (σ++[.dict []]) (φ++[s.heap.objs.size]) {s with heap:=s.heap.push eE}:=Good.alloc i eE (.dict []) rfl ⟨[],k9 s.heap,rfl⟩;have hlen:=i.last s.heap.objs.size
 have g2:Good W own (φ++[s.heap.objs.size]) {s with heap:=s.heap.push eE} (σ++[.dict []]++[.inst k σ.length]) (φ++[s.heap.objs.size]++[(s.heap.push eE).objs.size]) {s with heap:=(s.heap.push eE).push (instObj W k s.heap.objs.size)}:=
  Good.alloc g1.inv (instObj W k s.heap.objs.size) (.inst k σ.length) rfl ⟨s.heap.objs.size,by rw[ay (nO hlen)];exact hlen,ax _ rfl⟩
 have e:σ++[.dict []]++[.inst k σ.length]=σ++[.dict [],.inst k σ.length]:=aP ..;have hl:=g1.inv.last (s.heap.push eE).objs.size;rw[aL] at hl;exact⟨e▸g1.trans g2,_,hl,congrArg bJ (bk ..).symm⟩
theorem GZ(ar:oN A c q d){cl:ai}:wN (A.under (ce "type.__call__" ⟨[.ref cl],[]⟩)) (c.env₀::c.out) q d:=by
 have hw:=zp [] [] cl;have hu:=JS [] [] cl;refine⟨?_,?_,?_,ar.handled⟩
 .show pushEnvs (ce "type.__call__" ⟨[.ref cl],[]⟩).envs A.frames=_;rw[LY];exact ar.frames
 .show A.depth+(ce "type.__call__" ⟨[.ref cl],[]⟩).weight+_+3<=_;exact Sg hw ar.depth
 .show A.units+(ce "type.__call__" ⟨[.ref cl],[]⟩).cUnits+_+200<=_;exact Sh hu ar.units
theorem Qp(gl:oR G W mg mb)(hK:K.In W.base)(ck:uK fnA W d C)(ar:oN A c q d){k f:Nat}{x:aI}{p:b8}(hk:G.nm.cnm[k]?=some x)(hc:nN c.ck x=true)(hi:P.init k=some f)(hm:makesIn K (W.cls k)=true)(WD:dj K (.ref (W.cls k)) "__init__" = some (some (.ref (fnA f))))(hf:jP K (.ref (fnA f))=some (.type "function")):
  nc P W c q A (C q) (.new k) (.Call (.Name x p) [] [] pos):=by
 intro ρ φ σ s Q E H h;refine mO (mS.opt h) λf' XB h=>?_;obtain rfl:f=f':=ae (hi.symm.trans XB);refine cB (G0 gl hk hc H ?_);have mk:=makes_of (M:=W.M) hK hm;refine yB (c:=c) (es:=[]) mk (spliced_nil ⟨H.inv.base,?_⟩);obtain ⟨hh,g,dr,t,os⟩:=s;have hKs:K.In hh:=λa o e=>H.inv.base _ _ (hK a o e);refine fc (make_core (wo mk H.inv.base) (looks_findIn hKs WD) (λself=>bind_fn hKs self hf) (.inl rfl) ?_);have nw:=IN (own:=[]) (s:=⟨hh,g,dr,t,os⟩) H.inv k;have H2:=H.good nw.1;refine ck (q:=q) (f:=f) (args:=[.obj (σ.length+1)]) (GZ ar) H2.frs H2.inv (.one nw.2) ?_;refine mS.toC (c:=c) (mS.bind (mS.step nw.1 h) (Q₁:=λy s'=>y=.none/\Q (.ref (hh.objs.size+1)) s') λv σ' TV y s' Z g3 rv hk=>?_) (λZ Z h=>⟨h.1,h.2⟩) λZ Z h=>h
 cases v with
 |none=>exact⟨rv,hk TV _ s' (.refl g3.inv) (g3.rep nw.2)⟩
 |_=>exact hk.elim
end
def Step(M:ge)(A:aH)(target:aa)(I:ai)(Qn:ag->Prop)(Qs E:af->ag->Prop)(s:ag):Prop:=
 an M A (eB (.ref I)) (λr TW=>match r with | none=>Qn TW | some y=>an M A (iW target (.ref I) y) (λZ T2=>Qs y T2) E TW) E s
structure pI(W:Wd)(A:aH)(target:aa)(it:It)(I:ai)(F D:List ai)(T:Nat->List ai->aB->Prop):Prop where
 out:∀{i:Nat} {φ:List ai} {h:aB},T i φ h->∀b∈F,b∉φ/\W.base.get? b=none/\∃o,h.get? b=some o/\o.cls≠.type "frame" /\ (b∈W.hid\/∀xs n,o.data≠.seq xs n)
 sub:∀b∈D,b∈F
 keep:∀{i:Nat} {φ TV X:List ai} {h h':aB},T i φ h->qZ X h h'->Apart W φ X h->Grows h φ TV->(∀b∈F,b∉X)->T i TV h'
 next:∀{i:Nat} {φ:List ai} {σ:St} {s:ag} {v:V} {Qn:ag->Prop} {Qs:af->ag->Prop} {E:af->ag->Prop},T i φ s.heap->Inv W φ σ s.heap->it.at i σ=some (some v)->
  (∀y h' tk,Good W F φ s σ φ {s with heap:=h',toks:=tk}->mT W φ h' v y->T (i+1) φ h'->Qs y {s with heap:=h',toks:=tk})->Step W.M A target I Qn Qs E s
 done:∀{i:Nat} {φ:List ai} {σ:St} {s:ag} {Qn:ag->Prop} {Qs:af->ag->Prop} {E:af->ag->Prop},T i φ s.heap->Inv W φ σ s.heap->it.at i σ=some none->
  (∀h' tk,(∀b o,b∉D->s.heap.get? b=some o->h'.get? b=some o)->Qn {s with heap:=h',toks:=tk})->Step W.M A target I Qn Qs E s
 self:∀{i:Nat} {φ:List ai} {s:ag} {Q:af->ag->Prop} {E:af->ag->Prop},T i φ s.heap->Q (.ref I) s->an W.M A (fK (.ref I)) Q E s
section
variable {W:Wd}{A:aH}{E:af->ag->Prop}{s:ag}{φ:List ai}{σ:St}
theorem Good.writes(i:Inv W φ σ s.heap){t:Nat}(hF:∀b∈F,b∉φ/\W.base.get? b=none/\(b∈W.hid\/∀o,s.heap.get? b=some o->∀xs n,o.data≠.seq xs n))(k:∀b o,b∉F->s.heap.get? b=some o->h'.get? b=some o)(th:∀b∈F,∃o,h'.get? b=some o):Good W F φ s σ φ {s with heap:=h',toks:=t}/\qZ F s.heap h'/\Apart W φ F s.heap:=by
 have ev:qZ F s.heap h':=by
  refine⟨λb o e=>?_,λb o e hb=>⟨o.slots,k b o hb e,λZ=>rfl⟩⟩
  by_cases hb:b∈F
  .exact th b hb
  .exact⟨o,k b o hb e⟩
 have ap:Apart W φ F s.heap:=λb hb Z=>⟨(hF b hb).2.1,(hF b hb).2.2⟩;refine⟨⟨.refl _ _,ev.mono λb hb=>cw _ hb,i.evo ev ap (λa ha hm=>(hF a hm).1 ha) (λb o e=>k b o (λhm=>by rw[(hF b hm).2.1] at e;cases e) (i.base b o e)),rfl,rfl⟩,ev,ap⟩
theorem u2{o:eT}{n:String}{Q:Unit->ag->Prop}(ho:s.heap.get? I=some o)(hc:o.cls=.type n)(hn:(["enumerate", "zip", "dict_itemiterator", "dict_reverseitemiterator", "odict_iterator", "itertools.zip_longest", "itertools.pairwise"].contains n)=false)(h:Q () s):an W.M A (iW target (.ref I) y) Q E s:=by
 have body:an W.M A (do
   let (.ref r,.ref a):=(bJ I,y) | return
   let o <-load r
   match o.cls,o.data with
   |.type n,.fields vs=>
    if ["enumerate", "zip", "dict_itemiterator", "dict_reverseitemiterator", "odict_iterator", "itertools.zip_longest", "itertools.pairwise"].contains n&&vs[0]?==some (bH a) then
     rule "for.unpacks-the-owned-tuple"
     updateField r 0 .none
   |_,_=>pure ()) Q E s:=by
  cases y with
  |ref a=>
   refine ac (jR ho ?_);rw[hc]
   cases o.data<;>first | exact al h | (dsimp only;rw[hn];exact al h)
  |_=>exact al h
 cases target<;>first | exact al h | exact body
def A7(h:aB)(b:ai):Prop:=∃o,h.get? b=some o/\o.cls≠.type "frame" /\ ∀xs n,o.data≠.seq xs n
theorem A7.of{o:eT}{n:String}(e:h.get? b=some o)(c:o.cls=.type n)(d:o.data=.fields vs)(hn:n≠"frame"):A7 h b:=
 ⟨o,e,λq=>hn (ez (c.symm.trans q)),λxs m q=>by rw[d] at q;cases q⟩
theorem pU{t:ai}{i:Nat}(x:h.IsListIter I t i):A7 h I:=by
 refine nP x λo e c d=>?_;exact .of e c d (by decide)
theorem qz{t:ai}{i:Nat}(x:h.IsTupleIter I t i):A7 h I:=by
 refine nP x λo e c d=>?_;exact .of e c d (by decide)
theorem zY{t:ai}{i:Nat}(x:h.IsListIter I t i)(ev:qZ X h h')(hI:I∉X):h'.IsListIter I t i:=by
 refine nP x λo e c d=>?_;exact⟨o,ev.exact e hI (by rw[c];decide),c,d⟩
theorem AS{t:ai}{i:Nat}(x:h.IsTupleIter I t i)(ev:qZ X h h')(hI:I∉X):h'.IsTupleIter I t i:=by
 refine nP x λo e c d=>?_;exact⟨o,ev.exact e hI (by rw[c];decide),c,d⟩
theorem A7.there(x:A7 h b):∃o,h.get? b=some o:=by
 refine mO x λo e Z=>?_;exact⟨o,e⟩
theorem A7.none(x:A7 h b){o:eT}(e:h.get? b=some o):∀xs n,o.data≠.seq xs n:=by
 refine nP x λo' e' Z q=>?_;rw[<-ae (e'.symm.trans e)];exact q
theorem A7.out(x:A7 h b)(h1:b∉φ)(h2:W.base.get? b=.none):b∉φ/\W.base.get? b=.none/\∃o,h.get? b=some o/\o.cls≠.type "frame" /\ (b∈W.hid\/∀xs n,o.data≠.seq xs n):=by
 refine nP x λo e c q=>?_;exact⟨h1,h2,o,e,c,.inr q⟩
theorem A7.notin(x:A7 h b)(g:Grows h φ TV)(h1:b∉φ):b∉TV:=by
 refine mO x λo e Z=>?_;exact g.notin e h1
structure yq(W:Wd)(φ:List ai)(h:aB)(t:ai)(f:Nat->eT):Prop where
 out:t∉φ/\t∉W.hid
 at_:∃n,h.get? t=some (f n)
theorem yq.evo{t:ai}{f:Nat->eT}(x:yq W φ h t f)(ev:qZ X h h')(ap:Apart W φ X h)(g:Grows h φ TV)(hf:∀n,(∃xs m,(f n).data=.seq xs m)/\(f n).cls≠.type "frame"):yq W TV h' t f:=by
 obtain ⟨h2,n,e⟩:=x;exact⟨⟨g.notin e h2.1,h2.2⟩,n,ev.exact e (ap.seq h2 e (hf n).1) (hf n).2⟩
theorem xl(n:Nat):(∃ys m,(qY xs n).data=.seq ys m)/\(qY xs n).cls≠.type "frame" := ⟨⟨_,_,rfl⟩,s8⟩
theorem Bz(n:Nat):(∃ys m,(pF xs n).data=.seq ys m)/\(pF xs n).cls≠.type "frame" := ⟨⟨_,_,rfl⟩,qv⟩
theorem all1{p:ai->Prop}{a:ai}(h:p a):∀b∈[a],p b:=λb hb=>by rw[am.mp hb];exact h
theorem GA{a:ai}(h:b∉[a]):b≠a:=λq=>h (am.mpr q)
theorem sX(inv:Inv W φ σ s.heap){t:Nat}(x:A7 s.heap I)(h1:I∉φ)(hI:W.base.get? I=none)(x':A7 h' I)(hs:bf I s.heap h'):
  Good W [I] φ s σ φ {s with heap:=h',toks:=t}/\qZ [I] s.heap h'/\Apart W φ [I] s.heap:=
 Good.writes inv (all1 ⟨h1,hI,.inr λo e=>x.none e⟩) (λb o hb e=>(hs.2 b (GA hb)).trans e) (all1 x'.there)
theorem xj(r:nf W φ h l xs){i:Nat}(e:l[i]?=none):xs.toArray[i]?=none:=by
 rw[dY,eI,r.length];exact eI.mp e
structure Kx(W:Wd)(I t:ai)(f:Nat->eT)(It:aB->Nat->Prop)(l:List V)(xs:List af)(i:Nat)(φ:List ai)(h:aB):Prop where
 out:I∉φ
 held:yq W φ h t f
 it:It h i
 rep:nf W φ h l xs
theorem src_tuple(hh:A.handled=none){t:ai}(hI:W.base.get? I=none)(WQ:t≠I):
  pI W A target (.items l) I [I] [I] (Kx W I t (qY xs) (λh i=>h.IsTupleIter I t i) l xs) where
 out:=λT=>all1 ((qz T.it).out T.out hI)
 sub:=λb hb=>hb
 keep:=λT ev ap g hF=>⟨(qz T.it).notin g T.out,T.held.evo ev ap g xl,AS T.it ev (hF I ah),T.rep.evo ev ap g⟩
 next:=by
  intro i φ σ s v Qn Qs E T inv Ur hq;obtain ⟨h1,⟨h2,n,e2⟩,hit,r⟩:=T;refine mO (r.get (ae Ur)) λy hy ry=>?_;refine wpAny_pyNext_tuple_item hit ⟨_,e2,rfl,n,rfl⟩ (Kt hy) λh' UA Um=>?_;have w:=sX (t:=s.toks) inv (qz hit) h1 hI (qz UA) Um;have q:=hq y h' s.toks w.1 (ry.evo w.2.1 w.2.2 (.refl _ _)) ⟨h1,⟨h2,n,(Um.2 t WQ).trans e2⟩,UA,r.evo w.2.1 w.2.2 (.refl _ _)⟩;refine nP UA λo' e' c' d'=>?_;exact u2 e' c' (by decide) q
 done:=by
  intro i φ σ s Qn Qs E T inv Ur hq;obtain ⟨h1,⟨h2,n,e2⟩,hit,r⟩:=T;exact wpAny_pyNext_tuple_end hh hit ⟨_,e2,rfl,n,rfl⟩ (xj r (ae Ur)) λh' he=>hq h' s.toks λb o hb e=>he b o (GA hb) e
 self:=by
  intro i φ s Q E T hq;have hit:=T.it;refine fA hit.typeIs gH (a9 gH hit.typeIs F.entry_tuple_iterator_iter ?_ (F.args_tuple_iterator_iter_1 _));show an _ _ (ret (.ref I)) _ _ s;exact al ⟨_,rfl, "tuple_iterator",_,hit.typeIs,cg.lookup,hq⟩
theorem src_list(hh:A.handled=none){t:ai}(hI:W.base.get? I=none)(WQ:t≠I):
  pI W A target (.items l) I [I] [I] (Kx W I t (pF xs) (λh i=>h.IsListIter I t i) l xs) where
 out:=λT=>all1 ((pU T.it).out T.out hI)
 sub:=λb hb=>hb
 keep:=λT ev ap g hF=>⟨(pU T.it).notin g T.out,T.held.evo ev ap g Bz,zY T.it ev (hF I ah),T.rep.evo ev ap g⟩
 next:=by
  intro i φ σ s v Qn Qs E T inv Ur hq;obtain ⟨h1,⟨h2,n,e2⟩,hit,r⟩:=T;refine mO (r.get (ae Ur)) λy hy ry=>?_;refine iQ hit ⟨_,e2,rfl,n,rfl⟩ (Kt hy) λh' UA Um=>?_;have w:=sX (t:=s.toks) inv (pU hit) h1 hI (pU UA) Um;have q:=hq y h' s.toks w.1 (ry.evo w.2.1 w.2.2 (.refl _ _)) ⟨h1,⟨h2,n,(Um.2 t WQ).trans e2⟩,UA,r.evo w.2.1 w.2.2 (.refl _ _)⟩;refine nP UA λo' e' c' d'=>?_;exact u2 e' c' (by decide) q
 done:=by
  intro i φ σ s Qn Qs E T inv Ur hq;obtain ⟨h1,⟨h2,n,e2⟩,hit,r⟩:=T;exact i8 hh hit ⟨_,e2,rfl,n,rfl⟩ (xj r (ae Ur)) λh' he=>hq h' s.toks λb o hb e=>he b o (GA hb) e
 self:=λT hq=>i7 T.it hq
structure Mq(I t:ai)(n i:Nat)(φ:List ai)(h:aB):Prop where
 out:I∉φ
 at_:φ[n]?=some t
 it:h.IsListIter I t i
theorem JO(hh:A.handled=none){n:Nat}{t:ai}(hI:W.base.get? I=none)(WQ:t≠I):
  pI W A target (.live n) I [I] [I] (Mq I t n) where
 out:=λT=>all1 ((pU T.it).out T.out hI)
 sub:=λb hb=>hb
 keep:=λT ev ap g hF=>⟨(pU T.it).notin g T.out,g.get T.at_,zY T.it ev (hF I ah)⟩
 next:=by
  intro i φ σ s v Qn Qs E T inv Ur hq;obtain ⟨h1,h2,hit⟩:=T;refine mO (ms Ur) λl hl Ur=>?_;refine mU (inv.rep n _ t (listAt_eq hl) h2) λxs m hz e2 r=>?_;refine mO (r.get Ur) λy hy ry=>?_;refine iQ hit ⟨_,e2,rfl,m,rfl⟩ (Kt hy) λh' UA Um=>?_;have w:=sX (t:=s.toks) inv (pU hit) h1 hI (pU UA) Um;have q:=hq y h' s.toks w.1 (ry.evo w.2.1 w.2.2 (.refl _ _)) ⟨h1,h2,UA⟩;refine nP UA λo' e' c' d'=>?_;exact u2 e' c' (by decide) q
 done:=by
  intro i φ σ s Qn Qs E T inv Ur hq;obtain ⟨h1,h2,hit⟩:=T;refine mO (ms Ur) λl hl Ur=>?_;refine mU (inv.rep n _ t (listAt_eq hl) h2) λxs m hz e2 r=>?_;exact i8 hh hit ⟨_,e2,rfl,m,rfl⟩ (xj r Ur) λh' he=>hq h' s.toks λb o hb e=>he b o (GA hb) e
 self:=λT hq=>i7 T.it hq
structure Hq(I:ai)(a:Int)(k:Nat)(st:Int)(i:Nat)(φ:List ai)(h:aB):Prop where
 out:I∉φ
 le:i<=k
 it:IsRangeIter h I (a+st * i) ((k:Int) - i) st
theorem wW{a b c:Int}(x:IsRangeIter h I a b c):A7 h I:=.of x rfl rfl (by decide)
theorem zc{a st:Int}{k i:Nat}{w:Option V}(e:(It.items ((aM k).map λ(i:Nat)=>V.int (a+st * i))).at i σ=some w):(i < k/\w=some (.int (a+st * i)))\/(k<=i/\w=none):=by
 have e:((aM k).map λ(i:Nat)=>V.int (a+st * i))[i]?=w:=ae e;rw[br] at e
 rcases bE i k with hik | hik
 .rw[gc hik] at e;exact .inl ⟨hik,e.symm⟩
 .rw[bx (by rw[d4];exact hik)] at e;exact .inr ⟨hik,e.symm⟩
theorem src_range(hh:A.handled=none){a:Int}{k:Nat}{st:Int}(hI:W.base.get? I=none):
  pI W A target (.items ((aM k).map λ(i:Nat)=>V.int (a+st * i))) I [I] [I] (Hq I a k st) where
 out:=λT=>all1 ((wW T.it).out T.out hI)
 sub:=λb hb=>hb
 keep:=λT ev ap g hF=>⟨(wW T.it).notin g T.out,T.le,ev.exact T.it (hF I ah) (λq=>absurd (ez q) (by decide))⟩
 next:=by
  intro i φ σ s v Qn Qs E T inv Ur hq;obtain ⟨h1,h2,hit⟩:=T
  rcases zc Ur with ⟨hik,e⟩ | ⟨_,e⟩
  .rw[ae e] at hq;refine wpAny_pyNext_range_item hit (by omega) λh' UA Um=>?_;have w:=sX (t:=s.toks+1) inv (wW hit) h1 hI (wW UA) Um
   have a1:a+st * ((i+1:Nat):Int)=a+st * (i:Int)+st:=by rw[lc,Int.mul_add,Int.add_assoc];exact congrArg _ (congrArg _ (Int.mul_one st))
   have a2:((k:Int) - ((i+1:Nat):Int))=(k:Int) - i - 1:=by rw[lc,Int.sub_sub];rfl
   exact u2 UA rfl (by decide) (hq _ h' (s.toks+1) w.1 ⟨_,rfl⟩ ⟨h1,hik,by rw[a1,a2];exact UA⟩)
  .cases e
 done:=by
  intro i φ σ s Qn Qs E T inv Ur hq;obtain ⟨h1,h2,hit⟩:=T
  rcases zc Ur with ⟨_,e⟩ | ⟨hik,_⟩
  .cases e
  .exact wpAny_pyNext_range_end hh hit (by omega) λh' he=>hq h' s.toks λb o hb e=>he b o (GA hb) e
 self:=by
  intro i φ s Q E T hq;have hit:=T.it;have hT:s.TypeIs (.ref I) "range_iterator" := ⟨_,hit,rfl⟩;refine fA hT gG (a9 gG hT F.entry_range_iterator_iter ?_ (F.args_range_iterator_iter_1 _));show an _ _ (ret (.ref I)) _ _ s;exact al ⟨_,rfl, "range_iterator",_,hT,F.slot_range_iterator_next.lookup,hq⟩
end
def s4(W:Wd)(φ:List ai)(h:aB):Fl->fF->Prop
 |.next,f=>f=.next
 |.ret v,f=>∃y,f=.ret y/\mT W φ h v y
def mW(W:Wd)(c:Cx)(own φ:List ai)(s:ag)(r:R mQ (Fl×mQ))(Q:fF->ag->Prop)(E:af->ag->Prop):Prop:=
 match r with
 |.ok p σ'=>∀TV f s',Good W own φ s σ' TV s'->s4 W TV s'.heap p.1 f->ng W c p.2 TV σ' s'->Q f s'
 |.exc ρ' σ'=>∀TV e s',Good W own φ s σ' TV s'->oO W s.heap c.env₀.frame e s'.heap->ng W c ρ' TV σ' s'->E (.ref e) s'
 |.bad=>False
def rJ(P:Pg)(W:Wd)(c:Cx)(q:Bool)(A:aH)(C:Bool->Call)(b:MS)(body:List Stmt):Prop:=∀⦃ρ:mQ⦄ ⦃φ:List ai⦄ ⦃σ:St⦄ ⦃s:ag⦄ ⦃Q:fF->ag->Prop⦄ ⦃E:af->ag->Prop⦄,
 ng W c ρ φ σ s->mW W c (ownOf c.env) φ s (dS P C q b ρ σ) Q E->an W.M A (execs body c.env) Q E s
section
variable {c:Cx}{s:ag}{ρ':mQ}{Q:fF->ag->Prop}{q:Bool}
theorem mW.step{r:R mQ (Fl×mQ)}(g:Good W own φ s σ' TV s')(h:mW W c own φ s r Q E):mW W c own TV s' r Q E:=by
 cases r with
 |ok p UG=>exact λUp f UB g' r H=>h Up f UB (g.trans g') r H
 |exc u UG=>exact λUp e UB g' x H=>h Up e UB (g.trans g') (x.born λb hb=>g.evo.fresh hb) H
 |bad=>exact h
theorem mW.opt{o:Option γ}{f:γ->R mQ (Fl×mQ)}(h:mW W c own φ s (R.opt o f) Q E):∃a,o=some a/\mW W c own φ s (f a) Q E:=by
 cases o with
 |none=>exact h.elim
 |some a=>exact⟨a,rfl,h⟩
theorem mW.gd{p:Prop}[Decidable p]{r:R mQ (Fl×mQ)}(h:mW W c own φ s (Mine.Internal.gd p r) Q E):p/\mW W c own φ s r Q E:=by
 unfold Mine.Internal.gd at h
 by_cases hp:p
 .rw[if_pos hp] at h;exact⟨hp,h⟩
 .rw[if_neg hp] at h;exact h.elim
theorem mW.bindX{r:R mQ (Fl×mQ)}{k:Fl×mQ->St->R mQ (Fl×mQ)}{T9:List ai}{T5:St}{Q₁:fF->ag->Prop}(h:mW W c own φ s (r.bind k) Q E)(g:Good W own φ s T5 T9 TW)(hk:∀p σ' TV f s',Good W own φ s σ' TV s'->Good W own T9 TW σ' TV s'->s4 W TV s'.heap p.1 f->ng W c p.2 TV σ' s'->mW W c own φ s (k p σ') Q E->Q₁ f s')(he:∀ρ' σ' TV e s',Good W own φ s σ' TV s'->oO W s.heap c.env₀.frame e s'.heap->ng W c ρ' TV σ' s'->(∀s',Good W own φ s σ' TV s'->oO W s.heap c.env₀.frame e s'.heap->ng W c ρ' TV σ' s'->E (.ref e) s')->UR (.ref e) s'):
  mW W c own T9 TW r Q₁ UR:=by
 cases r with
 |ok p σ'=>exact λTV f s' g' rf H=>hk p σ' TV f s' (g.trans g') g' rf H h
 |exc ρ' σ'=>exact λTV e s' g' x H=>he ρ' σ' TV e s' (g.trans g') (x.born λb hb=>g.evo.fresh hb) H λs' g x H=>h TV e s' g x H
 |bad=>exact h
theorem mW.ofV{r:R Unit α}{k:α->St->R mQ (Fl×mQ)}{rep:List ai->aB->α->β->Prop}(H:ng W c ρ φ σ s)(h:mW W c own φ s ((r.lift ρ).bind k) Q E)(hk:∀v σ' TV y s',r=.ok v σ'->Good W [] φ s σ' TV s'->rep TV s'.heap v y->ng W c ρ TV σ' s'->mW W c own TV s' (k v σ') Q E->Q₁ y s'):mS W c φ s r rep Q₁ E:=by
 cases r with
 |ok v σ'=>exact λTV y s' g rp=>hk v σ' TV y s' rfl g rp (H.good g) (mW.step g.up h)
 |exc u σ'=>exact λTV e s' g x=>h TV e s' g.up x (H.good g)
 |bad=>exact h
theorem tg.at{l:List d9}(x:tg W φ h l):∀b∈oQ l,rI h b/\b∉φ/\W.base.get? b=none:=λb hb=>let ⟨a,b',c⟩:=x.mem hb;⟨c,a,b'⟩
theorem ng.hop{t:Nat}(H:ng W c ρ φ σ s)(y:yr TY (oQ (c.env₀::c.out)) s.heap h')(hb:W.base.StaysIn TY)(inv:Inv W φ σ h'):ng W c ρ φ σ {s with heap:=h',toks:=t}:=
 ⟨inv,H.ok.hop y (λb hb=>(H.frs.at b hb).1) hb,y.frs H.frs,H.sep⟩
theorem yN{e:ai}(ar:oN A c q d)(x:Good W own φ s₀ σ' TV s)(H:ng W c ρ TV σ' s)(ex:oO W s₀.heap c.env₀.frame e s.heap)(hb:W.base.StaysIn s₀.heap){R':af->ag->Prop}(h:∀TW,Good W own φ s₀ σ' TV TW->ng W c ρ TV σ' TW->(∃L,c.env₀.frame=some L/\oo W s₀.heap (bH L) e TW.heap)->R' (.ref e) TW):gw W.M A c.env R' (.ref e) s:=by
 refine sH H.frs λZ UJ Z=>?_;obtain ⟨L,hL,_⟩:=UJ;rw[hL] at ex;refine AW ar.frames H.frs hL ar.frame (λb hb=>x.evo.fresh hb) ex λh' hop fl=>?_;have g:=x.hop (t:=s.toks) hb hop H.frs.at;exact h _ g (H.hop (t:=s.toks) hop hb g.inv) ⟨L,hL,fl⟩
theorem HZ{e:ai}(ar:oN A c q d)(x:Good W own φ s₀ σ' TV s)(H:ng W c ρ TV σ' s)(ex:oo W s₀.heap fl e s.heap)(hb:W.base.StaysIn s₀.heap){R':af->ag->Prop}(h:∀TW,Good W own φ s₀ σ' TV TW->ng W c ρ TV σ' TW->(∃L,c.env₀.frame=some L/\oo W s₀.heap (bH L) e TW.heap)->R' (.ref e) TW):gQ W.M A c.env R' (.ref e) s:=by
 refine sH H.frs λZ UJ Z=>?_;obtain ⟨L,hL,_⟩:=UJ;refine Eh (F:=oQ (c.env₀::c.out)) ex λh' hop Vl=>?_;have g:=x.hop (t:=s.toks) hb hop H.frs.at;refine h _ g (H.hop (t:=s.toks) hop hb g.inv) ⟨L,hL,?_⟩;rw[ar.frame,hL] at Vl;exact Vl
theorem xk{e:ai}(ar:oN A c q d)(x:Good W own φ s₀ σ' TV s)(H:ng W c ρ TV σ' s)(ex:oO W s₀.heap c.env₀.frame e s.heap)(hb:W.base.StaysIn s₀.heap)(h:∀TW,Good W own φ s₀ σ' TV TW->ng W c ρ TV σ' TW->oO W s₀.heap c.env₀.frame e TW.heap->E (.ref e) TW):gw W.M A c.env (gQ W.M A c.env E) (.ref e) s:=
 yN ar x H ex hb λTW g₁ H₁ zq=>mO zq λL hL fl=>HZ ar g₁ H₁ fl hb λT2 Ug Ub zq=>mO zq λL' hL' Vl=>h T2 Ug Ub (hL'▸Vl.held)
theorem Good.drop(x:Good W own φ s₀ σ' TV s){t:Nat}(hF:∀b∈F,s₀.heap.get? b=none/\b∉TV/\b∉W.hid/\W.base.get? b=none/\∀o,s.heap.get? b=some o->∀xs n,o.data≠.seq xs n)(k:∀b o,b∉F->s.heap.get? b=some o->h'.get? b=some o):Good W own φ s₀ σ' TV {s with heap:=h',toks:=t}:=by
 have nb:∀{b o},s₀.heap.get? b=some o->b∉F:=λe hm=>by rw[(hF _ hm).1] at e;cases e
 have kp:Kp F s.heap h':=λb o e hb=>⟨o.slots,k b o hb e,λZ=>rfl⟩;have ap:Apart W TV F s.heap:=λb hb Z=>⟨(hF b hb).2.2.2.1,.inr (hF b hb).2.2.2.2⟩;refine⟨x.grows,⟨λb o e=>?_,λb o e hb=>?_⟩,x.inv.kp kp ap (λa ha hm=>(hF a hm).2.1 ha) (λb o e=>k b o (λhm=>by rw[(hF b hm).2.2.2.1] at e;cases e) (x.inv.base b o e)) λa ha=>?_,x.gens,x.os⟩
 .refine m4 (x.evo.there b o e) λo' e'=>?_;exact⟨o',k b o' (nb e) e'⟩
 .refine mO (x.evo.keep b o e hb) λsl e' q=>?_;exact⟨sl,k b _ (nb e) e',q⟩
 .refine m4 (x.inv.hid a ha) λo e=>?_;exact⟨o,k a o (λhm=>(hF a hm).2.2.1 ha) e⟩
theorem nA.drop{env:d9}(x:nA W env vars ρ φ h)(kp:Kp F h h')(ap:Apart W φ F h)(hL:env.locals∉F)(hc:∀n c,env.cells.lookup n=some c->c∉F):nA W env vars ρ φ h':=by
 refine⟨x.kind,x.glob,x.bui,x.inj,x.apart,x.out,?_,λn c U6=>?_,x.has⟩
 .refine mO x.loc λm UJ hv=>?_;obtain ⟨o,es,ep,e,r⟩:=UJ;refine mO (kp _ o e hL) λsl e' Z=>?_;refine⟨m,⟨_,es,ep,e',r⟩,λn i a b v c=>?_⟩;refine mO (hv n i a b v c) λy hy r=>?_;exact⟨y,hy,r.kp kp ap (.refl _ _)⟩
 .refine oC (x.cell n c U6) λa b c' u Vn hv=>?_;obtain ⟨o,e,d⟩:=Vn;refine mO (kp _ o e (hc n c U6)) λsl e' Z=>?_;refine⟨a,b,c',u,⟨_,e',d⟩,λi p q v w=>?_⟩;refine mO (hv i p q v w) λy hy r=>?_;exact⟨y,hy,r.kp kp ap (.refl _ _)⟩
theorem tg.drop(k:∀b o,b∉F->h.get? b=some o->h'.get? b=some o){l:List d9}(H:tg W φ h l)(hX:∀b∈oQ l,b∉F):tg W φ h' l:=
 H.map λL hL hn hb a=>⟨hn,hb,pO a λo es ep e cl dd=>⟨o,es,ep,k L o (hX L hL) e,cl,dd⟩⟩
theorem ng.drop{t:Nat}(H:ng W c ρ φ σ s)(hF:∀b∈F,b∉φ/\b∉W.hid/\W.base.get? b=none/\(∀o,s.heap.get? b=some o->∀xs n,o.data≠.seq xs n)/\b∉ownOf c.env/\b∉oQ (c.env₀::c.out))(k:∀b o,b∉F->s.heap.get? b=some o->h'.get? b=some o)(inv:Inv W φ σ h'):ng W c ρ φ σ {s with heap:=h',toks:=t}:=by
 have kp:Kp F s.heap h':=λb o e hb=>⟨o.slots,k b o hb e,λZ=>rfl⟩;have ap:Apart W φ F s.heap:=λb hb Z=>⟨(hF b hb).2.2.1,.inr (hF b hb).2.2.2.1⟩;exact⟨inv,H.ok.drop kp ap (λhm=>(hF _ hm).2.2.2.2.1 ah) (λn c U6 hm=>(hF _ hm).2.2.2.2.1 (mem_ownOf U6)),H.frs.drop k λb hb hm=>(hF b hm).2.2.2.2.2 hb,H.sep⟩
end
theorem pX{o:Option α}{f:α->Bool}(h:o.any f=true):∃a,o=some a/\f a=true:=by
 cases o with
 |none=>exact mP h
 |some a=>exact⟨a,rfl,h⟩
theorem Bm{a b:Bool}(h:(a||b)=true):a=true\/b=true:=by
 cases a with
 |true=>exact .inl rfl
 |false=>exact .inr h
noncomputable def oW{α:Type}(l:List α)(f:α->List α->Bool):Bool:=match l with
 |x::r=>f x r
 |[]=>false
theorem oX{l:List α}{f:α->List α->Bool}(h:oW l f=true):∃x r,l=x::r/\f x r=true:=by
 cases l with
 |nil=>exact mP h
 |cons x r=>exact⟨x,r,rfl,h⟩
noncomputable def qT{α:Type}(l:List α)(f:α->Bool):Bool:=oW l λx r=>r.isEmpty&&f x
theorem ny{l:List α}(h:l.isEmpty=true):l=[]:=by
 cases l with
 |nil=>rfl
 |cons _ _=>exact mP h
theorem GD{l:List α}{f:α->Bool}(h:qT l f=true):∃x,l=[x]/\f x=true:=by
 refine nr (oX h) λx r e h=>?_;exact⟨x,e.trans (congrArg (x::·) (ny (b2 h).1)),(b2 h).2⟩
noncomputable def xT{α:Type}(l:List α)(f:α->α->Bool):Bool:=oW l λx r=>qT r λy=>f x y
theorem GH{l:List α}{f:α->α->Bool}(h:xT l f=true):∃x y,l=[x,y]/\f x y=true:=by
 refine nr (oX h) λx r e h=>?_;refine mO (GD h) λy e' h=>?_;exact⟨x,y,e.trans (congrArg (x::·) e'),h⟩
theorem o6{l:List α}{f:α->List α->Bool}{P:List α->Prop}(h:oW l f=true)(k:∀x r,f x r=true->P (x::r)):P l:=by
 cases l with
 |nil=>exact mP h
 |cons x r=>exact k x r h
theorem tH{l:List α}{P:List α->Prop}(h:l.isEmpty=true)(k:P []):P l:=by
 cases l with
 |nil=>exact k
 |cons _ _=>exact mP h
theorem Ag{o:Option α}{P:Option α->Prop}(h:o.isNone=true)(k:P none):P o:=by
 cases o with
 |none=>exact k
 |some _=>exact mP h
theorem Bd{o:Option α}{f:α->Bool}{P:Option α->Prop}(h:o.any f=true)(k:∀a,f a=true->P (some a)):P o:=by
 cases o with
 |none=>exact mP h
 |some a=>exact k a h
theorem tx[DecidableEq α]{a b:α}{P:α->Prop}(h:decide (a=b)=true)(k:P b):P a:=of_decide_eq_true h▸k
theorem rB{a b:Bool}{P:Prop}(h:(a&&b)=true)(k:a=true->b=true->P):P:=k (b2 h).1 (b2 h).2
theorem wi{a b c:Bool}{P:Prop}(h:(a&&(b&&c))=true)(k:a=true->b=true->c=true->P):P:=rB h λh1 h=>rB h (k h1)
theorem He{a b c d:Bool}{P:Prop}(h:(a&&(b&&(c&&d)))=true)(k:a=true->b=true->c=true->d=true->P):P:=rB h λh1 h=>wi h (k h1)
theorem RN{a b c d e:Bool}{P:Prop}(h:(a&&(b&&(c&&(d&&e))))=true)(k:a=true->b=true->c=true->d=true->e=true->P):P:=rB h λh1 h=>He h (k h1)
theorem pj{l:List α}{f:α->Bool}{P:List α->Prop}(h:qT l f=true)(k:∀x,f x=true->P [x]):P l:=o6 h λx Z h=>rB h λh1 h=>tH (P:=λr=>P (x::r)) h1 (k x h)
theorem wV{l:List α}{f:α->α->Bool}{P:List α->Prop}(h:xT l f=true)(k:∀x y,f x y=true->P [x,y]):P l:=o6 h λx Z h=>pj (P:=λr=>P (x::r)) h λy h=>k x y h
noncomputable def qw(x:aa)(f:aI->Bool):Bool:=av (motive_1:=λZ=>Bool) x (λZ Z Z=>false) (λZ Z Z=>false) (λZ Z Z Z=>false) (λZ Z Z=>false) (λZ Z Z Z=>false) (λZ Z Z Z=>false) (λZ Z Z=>false) (λZ Z Z=>false) (λZ Z Z Z=>false) (λZ Z Z Z=>false) (λZ Z Z Z Z=>false) (λZ Z Z Z=>false) (λZ Z=>false) (λZ Z=>false) (λZ Z=>false) (λZ Z Z Z=>false) (λZ Z Z Z=>false) (λZ Z Z Z=>false) (λZ Z=>false) (λZ Z Z=>false) (λZ Z Z=>false) (λZ Z Z=>false) (λZ Z=>false) (λn Z=>f n) (λZ Z=>false) (λZ Z Z=>false) (λZ Z Z Z=>false)
theorem oJ{x:aa}{f:aI->Bool}{P:aa->Prop}(h:qw x f=true)(k:∀n p,f n=true->P (.Name n p)):P x:=av (motive_1:=λx=>qw x f=true->P x) x (λZ Z Z=>mP) (λZ Z Z=>mP) (λZ Z Z Z=>mP) (λZ Z Z=>mP) (λZ Z Z Z=>mP) (λZ Z Z Z=>mP) (λZ Z Z=>mP) (λZ Z Z=>mP) (λZ Z Z Z=>mP) (λZ Z Z Z=>mP) (λZ Z Z Z Z=>mP) (λZ Z Z Z=>mP) (λZ Z=>mP) (λZ Z=>mP) (λZ Z=>mP) (λZ Z Z Z=>mP) (λZ Z Z Z=>mP) (λZ Z Z Z=>mP) (λZ Z=>mP) (λZ Z Z=>mP) (λZ Z Z=>mP) (λZ Z Z=>mP) (λZ Z=>mP) (λZ Z h=>k _ _ h) (λZ Z=>mP) (λZ Z Z=>mP) (λZ Z Z Z=>mP) h
noncomputable def r7(x:aa)(f:(List aa)->Bool):Bool:=av (motive_1:=λZ=>Bool) x (λZ Z Z=>false) (λZ Z Z=>false) (λZ Z Z Z=>false) (λZ Z Z=>false) (λZ Z Z Z=>false) (λZ Z Z Z=>false) (λZ Z Z=>false) (λZ Z Z=>false) (λZ Z Z Z=>false) (λZ Z Z Z=>false) (λZ Z Z Z Z=>false) (λZ Z Z Z=>false) (λZ Z=>false) (λZ Z=>false) (λZ Z=>false) (λZ Z Z Z=>false) (λZ Z Z Z=>false) (λZ Z Z Z=>false) (λZ Z=>false) (λZ Z Z=>false) (λZ Z Z=>false) (λZ Z Z=>false) (λZ Z=>false) (λZ Z=>false) (λZ Z=>false) (λxs Z Z=>f xs) (λZ Z Z Z=>false)
theorem rG{x:aa}{f:(List aa)->Bool}{P:aa->Prop}(h:r7 x f=true)(k:∀xs k p,f xs=true->P (.Tuple xs k p)):P x:=av (motive_1:=λx=>r7 x f=true->P x) x (λZ Z Z=>mP) (λZ Z Z=>mP) (λZ Z Z Z=>mP) (λZ Z Z=>mP) (λZ Z Z Z=>mP) (λZ Z Z Z=>mP) (λZ Z Z=>mP) (λZ Z Z=>mP) (λZ Z Z Z=>mP) (λZ Z Z Z=>mP) (λZ Z Z Z Z=>mP) (λZ Z Z Z=>mP) (λZ Z=>mP) (λZ Z=>mP) (λZ Z=>mP) (λZ Z Z Z=>mP) (λZ Z Z Z=>mP) (λZ Z Z Z=>mP) (λZ Z=>mP) (λZ Z Z=>mP) (λZ Z Z=>mP) (λZ Z Z=>mP) (λZ Z=>mP) (λZ Z=>mP) (λZ Z=>mP) (λZ Z Z h=>k _ _ _ h) (λZ Z Z Z=>mP) h
noncomputable def An(x:aa)(f:(List aa)->Bool):Bool:=av (motive_1:=λZ=>Bool) x (λZ Z Z=>false) (λZ Z Z=>false) (λZ Z Z Z=>false) (λZ Z Z=>false) (λZ Z Z Z=>false) (λZ Z Z Z=>false) (λZ Z Z=>false) (λZ Z Z=>false) (λZ Z Z Z=>false) (λZ Z Z Z=>false) (λZ Z Z Z Z=>false) (λZ Z Z Z=>false) (λZ Z=>false) (λZ Z=>false) (λZ Z=>false) (λZ Z Z Z=>false) (λZ Z Z Z=>false) (λZ Z Z Z=>false) (λZ Z=>false) (λZ Z Z=>false) (λZ Z Z=>false) (λZ Z Z=>false) (λZ Z=>false) (λZ Z=>false) (λxs Z=>f xs) (λZ Z Z=>false) (λZ Z Z Z=>false)
theorem Co{x:aa}{f:(List aa)->Bool}{P:aa->Prop}(h:An x f=true)(k:∀xs p,f xs=true->P (.List xs p)):P x:=av (motive_1:=λx=>An x f=true->P x) x (λZ Z Z=>mP) (λZ Z Z=>mP) (λZ Z Z Z=>mP) (λZ Z Z=>mP) (λZ Z Z Z=>mP) (λZ Z Z Z=>mP) (λZ Z Z=>mP) (λZ Z Z=>mP) (λZ Z Z Z=>mP) (λZ Z Z Z=>mP) (λZ Z Z Z Z=>mP) (λZ Z Z Z=>mP) (λZ Z=>mP) (λZ Z=>mP) (λZ Z=>mP) (λZ Z Z Z=>mP) (λZ Z Z Z=>mP) (λZ Z Z Z=>mP) (λZ Z=>mP) (λZ Z Z=>mP) (λZ Z Z=>mP) (λZ Z Z=>mP) (λZ Z=>mP) (λZ Z=>mP) (λZ Z h=>k _ _ h) (λZ Z Z=>mP) (λZ Z Z Z=>mP) h
noncomputable def DQ(x:aa)(f:(List (Option aa))->(List aa)->Bool):Bool:=av (motive_1:=λZ=>Bool) x (λZ Z Z=>false) (λZ Z Z=>false) (λZ Z Z Z=>false) (λZ Z Z=>false) (λZ Z Z Z=>false) (λZ Z Z Z=>false) (λks xs Z=>f ks xs) (λZ Z Z=>false) (λZ Z Z Z=>false) (λZ Z Z Z=>false) (λZ Z Z Z Z=>false) (λZ Z Z Z=>false) (λZ Z=>false) (λZ Z=>false) (λZ Z=>false) (λZ Z Z Z=>false) (λZ Z Z Z=>false) (λZ Z Z Z=>false) (λZ Z=>false) (λZ Z Z=>false) (λZ Z Z=>false) (λZ Z Z=>false) (λZ Z=>false) (λZ Z=>false) (λZ Z=>false) (λZ Z Z=>false) (λZ Z Z Z=>false)
theorem I6{x:aa}{f:(List (Option aa))->(List aa)->Bool}{P:aa->Prop}(h:DQ x f=true)(k:∀ks xs p,f ks xs=true->P (.Dict ks xs p)):P x:=av (motive_1:=λx=>DQ x f=true->P x) x (λZ Z Z=>mP) (λZ Z Z=>mP) (λZ Z Z Z=>mP) (λZ Z Z=>mP) (λZ Z Z Z=>mP) (λZ Z Z Z=>mP) (λZ Z Z h=>k _ _ _ h) (λZ Z Z=>mP) (λZ Z Z Z=>mP) (λZ Z Z Z=>mP) (λZ Z Z Z Z=>mP) (λZ Z Z Z=>mP) (λZ Z=>mP) (λZ Z=>mP) (λZ Z=>mP) (λZ Z Z Z=>mP) (λZ Z Z Z=>mP) (λZ Z Z Z=>mP) (λZ Z=>mP) (λZ Z Z=>mP) (λZ Z Z=>mP) (λZ Z Z=>mP) (λZ Z=>mP) (λZ Z=>mP) (λZ Z=>mP) (λZ Z Z=>mP) (λZ Z Z Z=>mP) h
noncomputable def uz(x:aa)(f:aa->aI->b8->Bool):Bool:=av (motive_1:=λZ=>Bool) x (λZ Z Z=>false) (λZ Z Z=>false) (λZ Z Z Z=>false) (λZ Z Z=>false) (λZ Z Z Z=>false) (λZ Z Z Z=>false) (λZ Z Z=>false) (λZ Z Z=>false) (λZ Z Z Z=>false) (λZ Z Z Z=>false) (λZ Z Z Z Z=>false) (λZ Z Z Z=>false) (λZ Z=>false) (λZ Z=>false) (λZ Z=>false) (λZ Z Z Z=>false) (λZ Z Z Z=>false) (λZ Z Z Z=>false) (λZ Z=>false) (λZ Z Z=>false) (λy n p=>f y n p) (λZ Z Z=>false) (λZ Z=>false) (λZ Z=>false) (λZ Z=>false) (λZ Z Z=>false) (λZ Z Z Z=>false)
theorem tK{x:aa}{f:aa->aI->b8->Bool}{P:aa->Prop}(h:uz x f=true)(k:∀y n p,f y n p=true->P (.Attribute y n p)):P x:=av (motive_1:=λx=>uz x f=true->P x) x (λZ Z Z=>mP) (λZ Z Z=>mP) (λZ Z Z Z=>mP) (λZ Z Z=>mP) (λZ Z Z Z=>mP) (λZ Z Z Z=>mP) (λZ Z Z=>mP) (λZ Z Z=>mP) (λZ Z Z Z=>mP) (λZ Z Z Z=>mP) (λZ Z Z Z Z=>mP) (λZ Z Z Z=>mP) (λZ Z=>mP) (λZ Z=>mP) (λZ Z=>mP) (λZ Z Z Z=>mP) (λZ Z Z Z=>mP) (λZ Z Z Z=>mP) (λZ Z=>mP) (λZ Z Z=>mP) (λZ Z Z h=>k _ _ _ h) (λZ Z Z=>mP) (λZ Z=>mP) (λZ Z=>mP) (λZ Z=>mP) (λZ Z Z=>mP) (λZ Z Z Z=>mP) h
noncomputable def Cp(x:aa)(f:aa->aa->Bool):Bool:=av (motive_1:=λZ=>Bool) x (λZ Z Z=>false) (λZ Z Z=>false) (λZ Z Z Z=>false) (λZ Z Z=>false) (λZ Z Z Z=>false) (λZ Z Z Z=>false) (λZ Z Z=>false) (λZ Z Z=>false) (λZ Z Z Z=>false) (λZ Z Z Z=>false) (λZ Z Z Z Z=>false) (λZ Z Z Z=>false) (λZ Z=>false) (λZ Z=>false) (λZ Z=>false) (λZ Z Z Z=>false) (λZ Z Z Z=>false) (λZ Z Z Z=>false) (λZ Z=>false) (λZ Z Z=>false) (λZ Z Z=>false) (λy z Z=>f y z) (λZ Z=>false) (λZ Z=>false) (λZ Z=>false) (λZ Z Z=>false) (λZ Z Z Z=>false)
theorem At{x:aa}{f:aa->aa->Bool}{P:aa->Prop}(h:Cp x f=true)(k:∀y z p,f y z=true->P (.Subscript y z p)):P x:=av (motive_1:=λx=>Cp x f=true->P x) x (λZ Z Z=>mP) (λZ Z Z=>mP) (λZ Z Z Z=>mP) (λZ Z Z=>mP) (λZ Z Z Z=>mP) (λZ Z Z Z=>mP) (λZ Z Z=>mP) (λZ Z Z=>mP) (λZ Z Z Z=>mP) (λZ Z Z Z=>mP) (λZ Z Z Z Z=>mP) (λZ Z Z Z=>mP) (λZ Z=>mP) (λZ Z=>mP) (λZ Z=>mP) (λZ Z Z Z=>mP) (λZ Z Z Z=>mP) (λZ Z Z Z=>mP) (λZ Z=>mP) (λZ Z Z=>mP) (λZ Z Z=>mP) (λZ Z Z h=>k _ _ _ h) (λZ Z=>mP) (λZ Z=>mP) (λZ Z=>mP) (λZ Z Z=>mP) (λZ Z Z Z=>mP) h
noncomputable def Ao(x:aa)(f:(Option aa)->(Option aa)->(Option aa)->Bool):Bool:=av (motive_1:=λZ=>Bool) x (λZ Z Z=>false) (λZ Z Z=>false) (λZ Z Z Z=>false) (λZ Z Z=>false) (λZ Z Z Z=>false) (λZ Z Z Z=>false) (λZ Z Z=>false) (λZ Z Z=>false) (λZ Z Z Z=>false) (λZ Z Z Z=>false) (λZ Z Z Z Z=>false) (λZ Z Z Z=>false) (λZ Z=>false) (λZ Z=>false) (λZ Z=>false) (λZ Z Z Z=>false) (λZ Z Z Z=>false) (λZ Z Z Z=>false) (λZ Z=>false) (λZ Z Z=>false) (λZ Z Z=>false) (λZ Z Z=>false) (λZ Z=>false) (λZ Z=>false) (λZ Z=>false) (λZ Z Z=>false) (λlo up st Z=>f lo up st)
theorem GG{x:aa}{f:(Option aa)->(Option aa)->(Option aa)->Bool}{P:aa->Prop}(h:Ao x f=true)(k:∀lo up st p,f lo up st=true->P (.Slice lo up st p)):P x:=av (motive_1:=λx=>Ao x f=true->P x) x (λZ Z Z=>mP) (λZ Z Z=>mP) (λZ Z Z Z=>mP) (λZ Z Z=>mP) (λZ Z Z Z=>mP) (λZ Z Z Z=>mP) (λZ Z Z=>mP) (λZ Z Z=>mP) (λZ Z Z Z=>mP) (λZ Z Z Z=>mP) (λZ Z Z Z Z=>mP) (λZ Z Z Z=>mP) (λZ Z=>mP) (λZ Z=>mP) (λZ Z=>mP) (λZ Z Z Z=>mP) (λZ Z Z Z=>mP) (λZ Z Z Z=>mP) (λZ Z=>mP) (λZ Z Z=>mP) (λZ Z Z=>mP) (λZ Z Z=>mP) (λZ Z=>mP) (λZ Z=>mP) (λZ Z=>mP) (λZ Z Z=>mP) (λZ Z Z Z h=>k _ _ _ _ h) h
noncomputable def I3(x:aa)(f:aa->Operator->aa->Bool):Bool:=av (motive_1:=λZ=>Bool) x (λZ Z Z=>false) (λZ Z Z=>false) (λy o z Z=>f y o z) (λZ Z Z=>false) (λZ Z Z Z=>false) (λZ Z Z Z=>false) (λZ Z Z=>false) (λZ Z Z=>false) (λZ Z Z Z=>false) (λZ Z Z Z=>false) (λZ Z Z Z Z=>false) (λZ Z Z Z=>false) (λZ Z=>false) (λZ Z=>false) (λZ Z=>false) (λZ Z Z Z=>false) (λZ Z Z Z=>false) (λZ Z Z Z=>false) (λZ Z=>false) (λZ Z Z=>false) (λZ Z Z=>false) (λZ Z Z=>false) (λZ Z=>false) (λZ Z=>false) (λZ Z=>false) (λZ Z Z=>false) (λZ Z Z Z=>false)
theorem Ls{x:aa}{f:aa->Operator->aa->Bool}{P:aa->Prop}(h:I3 x f=true)(k:∀y o z p,f y o z=true->P (.BinOp y o z p)):P x:=av (motive_1:=λx=>I3 x f=true->P x) x (λZ Z Z=>mP) (λZ Z Z=>mP) (λZ Z Z Z h=>k _ _ _ _ h) (λZ Z Z=>mP) (λZ Z Z Z=>mP) (λZ Z Z Z=>mP) (λZ Z Z=>mP) (λZ Z Z=>mP) (λZ Z Z Z=>mP) (λZ Z Z Z=>mP) (λZ Z Z Z Z=>mP) (λZ Z Z Z=>mP) (λZ Z=>mP) (λZ Z=>mP) (λZ Z=>mP) (λZ Z Z Z=>mP) (λZ Z Z Z=>mP) (λZ Z Z Z=>mP) (λZ Z=>mP) (λZ Z Z=>mP) (λZ Z Z=>mP) (λZ Z Z=>mP) (λZ Z=>mP) (λZ Z=>mP) (λZ Z=>mP) (λZ Z Z=>mP) (λZ Z Z Z=>mP) h
noncomputable def Ft(x:aa)(f:aa->(List CmpOp)->(List aa)->Bool):Bool:=av (motive_1:=λZ=>Bool) x (λZ Z Z=>false) (λZ Z Z=>false) (λZ Z Z Z=>false) (λZ Z Z=>false) (λZ Z Z Z=>false) (λZ Z Z Z=>false) (λZ Z Z=>false) (λZ Z Z=>false) (λZ Z Z Z=>false) (λZ Z Z Z=>false) (λZ Z Z Z Z=>false) (λZ Z Z Z=>false) (λZ Z=>false) (λZ Z=>false) (λZ Z=>false) (λy os zs Z=>f y os zs) (λZ Z Z Z=>false) (λZ Z Z Z=>false) (λZ Z=>false) (λZ Z Z=>false) (λZ Z Z=>false) (λZ Z Z=>false) (λZ Z=>false) (λZ Z=>false) (λZ Z=>false) (λZ Z Z=>false) (λZ Z Z Z=>false)
theorem Fu{x:aa}{f:aa->(List CmpOp)->(List aa)->Bool}{P:aa->Prop}(h:Ft x f=true)(k:∀y os zs p,f y os zs=true->P (.Compare y os zs p)):P x:=av (motive_1:=λx=>Ft x f=true->P x) x (λZ Z Z=>mP) (λZ Z Z=>mP) (λZ Z Z Z=>mP) (λZ Z Z=>mP) (λZ Z Z Z=>mP) (λZ Z Z Z=>mP) (λZ Z Z=>mP) (λZ Z Z=>mP) (λZ Z Z Z=>mP) (λZ Z Z Z=>mP) (λZ Z Z Z Z=>mP) (λZ Z Z Z=>mP) (λZ Z=>mP) (λZ Z=>mP) (λZ Z=>mP) (λZ Z Z Z h=>k _ _ _ _ h) (λZ Z Z Z=>mP) (λZ Z Z Z=>mP) (λZ Z=>mP) (λZ Z Z=>mP) (λZ Z Z=>mP) (λZ Z Z=>mP) (λZ Z=>mP) (λZ Z=>mP) (λZ Z=>mP) (λZ Z Z=>mP) (λZ Z Z Z=>mP) h
noncomputable def Je(x:aa)(f:UnaryOp->aa->Bool):Bool:=av (motive_1:=λZ=>Bool) x (λZ Z Z=>false) (λZ Z Z=>false) (λZ Z Z Z=>false) (λo y Z=>f o y) (λZ Z Z Z=>false) (λZ Z Z Z=>false) (λZ Z Z=>false) (λZ Z Z=>false) (λZ Z Z Z=>false) (λZ Z Z Z=>false) (λZ Z Z Z Z=>false) (λZ Z Z Z=>false) (λZ Z=>false) (λZ Z=>false) (λZ Z=>false) (λZ Z Z Z=>false) (λZ Z Z Z=>false) (λZ Z Z Z=>false) (λZ Z=>false) (λZ Z Z=>false) (λZ Z Z=>false) (λZ Z Z=>false) (λZ Z=>false) (λZ Z=>false) (λZ Z=>false) (λZ Z Z=>false) (λZ Z Z Z=>false)
theorem DW{x:aa}{f:UnaryOp->aa->Bool}{P:aa->Prop}(h:Je x f=true)(k:∀o y p,f o y=true->P (.UnaryOp o y p)):P x:=av (motive_1:=λx=>Je x f=true->P x) x (λZ Z Z=>mP) (λZ Z Z=>mP) (λZ Z Z Z=>mP) (λZ Z Z h=>k _ _ _ h) (λZ Z Z Z=>mP) (λZ Z Z Z=>mP) (λZ Z Z=>mP) (λZ Z Z=>mP) (λZ Z Z Z=>mP) (λZ Z Z Z=>mP) (λZ Z Z Z Z=>mP) (λZ Z Z Z=>mP) (λZ Z=>mP) (λZ Z=>mP) (λZ Z=>mP) (λZ Z Z Z=>mP) (λZ Z Z Z=>mP) (λZ Z Z Z=>mP) (λZ Z=>mP) (λZ Z Z=>mP) (λZ Z Z=>mP) (λZ Z Z=>mP) (λZ Z=>mP) (λZ Z=>mP) (λZ Z=>mP) (λZ Z Z=>mP) (λZ Z Z Z=>mP) h
noncomputable def v5(x:aa)(f:BoolOp->(List aa)->Bool):Bool:=av (motive_1:=λZ=>Bool) x (λo xs Z=>f o xs) (λZ Z Z=>false) (λZ Z Z Z=>false) (λZ Z Z=>false) (λZ Z Z Z=>false) (λZ Z Z Z=>false) (λZ Z Z=>false) (λZ Z Z=>false) (λZ Z Z Z=>false) (λZ Z Z Z=>false) (λZ Z Z Z Z=>false) (λZ Z Z Z=>false) (λZ Z=>false) (λZ Z=>false) (λZ Z=>false) (λZ Z Z Z=>false) (λZ Z Z Z=>false) (λZ Z Z Z=>false) (λZ Z=>false) (λZ Z Z=>false) (λZ Z Z=>false) (λZ Z Z=>false) (λZ Z=>false) (λZ Z=>false) (λZ Z=>false) (λZ Z Z=>false) (λZ Z Z Z=>false)
theorem vh{x:aa}{f:BoolOp->(List aa)->Bool}{P:aa->Prop}(h:v5 x f=true)(k:∀o xs p,f o xs=true->P (.BoolOp o xs p)):P x:=av (motive_1:=λx=>v5 x f=true->P x) x (λZ Z Z h=>k _ _ _ h) (λZ Z Z=>mP) (λZ Z Z Z=>mP) (λZ Z Z=>mP) (λZ Z Z Z=>mP) (λZ Z Z Z=>mP) (λZ Z Z=>mP) (λZ Z Z=>mP) (λZ Z Z Z=>mP) (λZ Z Z Z=>mP) (λZ Z Z Z Z=>mP) (λZ Z Z Z=>mP) (λZ Z=>mP) (λZ Z=>mP) (λZ Z=>mP) (λZ Z Z Z=>mP) (λZ Z Z Z=>mP) (λZ Z Z Z=>mP) (λZ Z=>mP) (λZ Z Z=>mP) (λZ Z Z=>mP) (λZ Z Z=>mP) (λZ Z=>mP) (λZ Z=>mP) (λZ Z=>mP) (λZ Z Z=>mP) (λZ Z Z Z=>mP) h
noncomputable def Lw(x:aa)(f:aa->aa->aa->Bool):Bool:=av (motive_1:=λZ=>Bool) x (λZ Z Z=>false) (λZ Z Z=>false) (λZ Z Z Z=>false) (λZ Z Z=>false) (λZ Z Z Z=>false) (λy z w Z=>f y z w) (λZ Z Z=>false) (λZ Z Z=>false) (λZ Z Z Z=>false) (λZ Z Z Z=>false) (λZ Z Z Z Z=>false) (λZ Z Z Z=>false) (λZ Z=>false) (λZ Z=>false) (λZ Z=>false) (λZ Z Z Z=>false) (λZ Z Z Z=>false) (λZ Z Z Z=>false) (λZ Z=>false) (λZ Z Z=>false) (λZ Z Z=>false) (λZ Z Z=>false) (λZ Z=>false) (λZ Z=>false) (λZ Z=>false) (λZ Z Z=>false) (λZ Z Z Z=>false)
theorem Jb{x:aa}{f:aa->aa->aa->Bool}{P:aa->Prop}(h:Lw x f=true)(k:∀y z w p,f y z w=true->P (.IfExp y z w p)):P x:=av (motive_1:=λx=>Lw x f=true->P x) x (λZ Z Z=>mP) (λZ Z Z=>mP) (λZ Z Z Z=>mP) (λZ Z Z=>mP) (λZ Z Z Z=>mP) (λZ Z Z Z h=>k _ _ _ _ h) (λZ Z Z=>mP) (λZ Z Z=>mP) (λZ Z Z Z=>mP) (λZ Z Z Z=>mP) (λZ Z Z Z Z=>mP) (λZ Z Z Z=>mP) (λZ Z=>mP) (λZ Z=>mP) (λZ Z=>mP) (λZ Z Z Z=>mP) (λZ Z Z Z=>mP) (λZ Z Z Z=>mP) (λZ Z=>mP) (λZ Z Z=>mP) (λZ Z Z=>mP) (λZ Z Z=>mP) (λZ Z=>mP) (λZ Z=>mP) (λZ Z=>mP) (λZ Z Z=>mP) (λZ Z Z Z=>mP) h
noncomputable def v6(x:aa)(f:aa->(List aa)->(List ll)->b8->Bool):Bool:=av (motive_1:=λZ=>Bool) x (λZ Z Z=>false) (λZ Z Z=>false) (λZ Z Z Z=>false) (λZ Z Z=>false) (λZ Z Z Z=>false) (λZ Z Z Z=>false) (λZ Z Z=>false) (λZ Z Z=>false) (λZ Z Z Z=>false) (λZ Z Z Z=>false) (λZ Z Z Z Z=>false) (λZ Z Z Z=>false) (λZ Z=>false) (λZ Z=>false) (λZ Z=>false) (λZ Z Z Z=>false) (λg xs ks p=>f g xs ks p) (λZ Z Z Z=>false) (λZ Z=>false) (λZ Z Z=>false) (λZ Z Z=>false) (λZ Z Z=>false) (λZ Z=>false) (λZ Z=>false) (λZ Z=>false) (λZ Z Z=>false) (λZ Z Z Z=>false)
theorem vj{x:aa}{f:aa->(List aa)->(List ll)->b8->Bool}{P:aa->Prop}(h:v6 x f=true)(k:∀g xs ks p,f g xs ks p=true->P (.Call g xs ks p)):P x:=av (motive_1:=λx=>v6 x f=true->P x) x (λZ Z Z=>mP) (λZ Z Z=>mP) (λZ Z Z Z=>mP) (λZ Z Z=>mP) (λZ Z Z Z=>mP) (λZ Z Z Z=>mP) (λZ Z Z=>mP) (λZ Z Z=>mP) (λZ Z Z Z=>mP) (λZ Z Z Z=>mP) (λZ Z Z Z Z=>mP) (λZ Z Z Z=>mP) (λZ Z=>mP) (λZ Z=>mP) (λZ Z=>mP) (λZ Z Z Z=>mP) (λZ Z Z Z h=>k _ _ _ _ h) (λZ Z Z Z=>mP) (λZ Z=>mP) (λZ Z Z=>mP) (λZ Z Z=>mP) (λZ Z Z=>mP) (λZ Z=>mP) (λZ Z=>mP) (λZ Z=>mP) (λZ Z Z=>mP) (λZ Z Z Z=>mP) h
noncomputable def xR(x:aa)(f:(List aa)->Bool):Bool:=av (motive_1:=λZ=>Bool) x (λZ Z Z=>false) (λZ Z Z=>false) (λZ Z Z Z=>false) (λZ Z Z=>false) (λZ Z Z Z=>false) (λZ Z Z Z=>false) (λZ Z Z=>false) (λZ Z Z=>false) (λZ Z Z Z=>false) (λZ Z Z Z=>false) (λZ Z Z Z Z=>false) (λZ Z Z Z=>false) (λZ Z=>false) (λZ Z=>false) (λZ Z=>false) (λZ Z Z Z=>false) (λZ Z Z Z=>false) (λZ Z Z Z=>false) (λxs Z=>f xs) (λZ Z Z=>false) (λZ Z Z=>false) (λZ Z Z=>false) (λZ Z=>false) (λZ Z=>false) (λZ Z=>false) (λZ Z Z=>false) (λZ Z Z Z=>false)
theorem DT{x:aa}{f:(List aa)->Bool}{P:aa->Prop}(h:xR x f=true)(k:∀xs p,f xs=true->P (.JoinedStr xs p)):P x:=av (motive_1:=λx=>xR x f=true->P x) x (λZ Z Z=>mP) (λZ Z Z=>mP) (λZ Z Z Z=>mP) (λZ Z Z=>mP) (λZ Z Z Z=>mP) (λZ Z Z Z=>mP) (λZ Z Z=>mP) (λZ Z Z=>mP) (λZ Z Z Z=>mP) (λZ Z Z Z=>mP) (λZ Z Z Z Z=>mP) (λZ Z Z Z=>mP) (λZ Z=>mP) (λZ Z=>mP) (λZ Z=>mP) (λZ Z Z Z=>mP) (λZ Z Z Z=>mP) (λZ Z Z Z=>mP) (λZ Z h=>k _ _ h) (λZ Z Z=>mP) (λZ Z Z=>mP) (λZ Z Z=>mP) (λZ Z=>mP) (λZ Z=>mP) (λZ Z=>mP) (λZ Z Z=>mP) (λZ Z Z Z=>mP) h
noncomputable def DS(x:aa)(f:aa->Int->(Option aa)->Bool):Bool:=av (motive_1:=λZ=>Bool) x (λZ Z Z=>false) (λZ Z Z=>false) (λZ Z Z Z=>false) (λZ Z Z=>false) (λZ Z Z Z=>false) (λZ Z Z Z=>false) (λZ Z Z=>false) (λZ Z Z=>false) (λZ Z Z Z=>false) (λZ Z Z Z=>false) (λZ Z Z Z Z=>false) (λZ Z Z Z=>false) (λZ Z=>false) (λZ Z=>false) (λZ Z=>false) (λZ Z Z Z=>false) (λZ Z Z Z=>false) (λy i sp Z=>f y i sp) (λZ Z=>false) (λZ Z Z=>false) (λZ Z Z=>false) (λZ Z Z=>false) (λZ Z=>false) (λZ Z=>false) (λZ Z=>false) (λZ Z Z=>false) (λZ Z Z Z=>false)
theorem I9{x:aa}{f:aa->Int->(Option aa)->Bool}{P:aa->Prop}(h:DS x f=true)(k:∀y i sp p,f y i sp=true->P (.FormattedValue y i sp p)):P x:=av (motive_1:=λx=>DS x f=true->P x) x (λZ Z Z=>mP) (λZ Z Z=>mP) (λZ Z Z Z=>mP) (λZ Z Z=>mP) (λZ Z Z Z=>mP) (λZ Z Z Z=>mP) (λZ Z Z=>mP) (λZ Z Z=>mP) (λZ Z Z Z=>mP) (λZ Z Z Z=>mP) (λZ Z Z Z Z=>mP) (λZ Z Z Z=>mP) (λZ Z=>mP) (λZ Z=>mP) (λZ Z=>mP) (λZ Z Z Z=>mP) (λZ Z Z Z=>mP) (λZ Z Z Z h=>k _ _ _ _ h) (λZ Z=>mP) (λZ Z Z=>mP) (λZ Z Z=>mP) (λZ Z Z=>mP) (λZ Z=>mP) (λZ Z=>mP) (λZ Z=>mP) (λZ Z Z=>mP) (λZ Z Z Z=>mP) h
noncomputable def sW(x:aa)(f:lu->Bool):Bool:=av (motive_1:=λZ=>Bool) x (λZ Z Z=>false) (λZ Z Z=>false) (λZ Z Z Z=>false) (λZ Z Z=>false) (λZ Z Z Z=>false) (λZ Z Z Z=>false) (λZ Z Z=>false) (λZ Z Z=>false) (λZ Z Z Z=>false) (λZ Z Z Z=>false) (λZ Z Z Z Z=>false) (λZ Z Z Z=>false) (λZ Z=>false) (λZ Z=>false) (λZ Z=>false) (λZ Z Z Z=>false) (λZ Z Z Z=>false) (λZ Z Z Z=>false) (λZ Z=>false) (λc Z Z=>f c) (λZ Z Z=>false) (λZ Z Z=>false) (λZ Z=>false) (λZ Z=>false) (λZ Z=>false) (λZ Z Z=>false) (λZ Z Z Z=>false)
theorem sI{x:aa}{f:lu->Bool}{P:aa->Prop}(h:sW x f=true)(k:∀c k p,f c=true->P (.Constant c k p)):P x:=av (motive_1:=λx=>sW x f=true->P x) x (λZ Z Z=>mP) (λZ Z Z=>mP) (λZ Z Z Z=>mP) (λZ Z Z=>mP) (λZ Z Z Z=>mP) (λZ Z Z Z=>mP) (λZ Z Z=>mP) (λZ Z Z=>mP) (λZ Z Z Z=>mP) (λZ Z Z Z=>mP) (λZ Z Z Z Z=>mP) (λZ Z Z Z=>mP) (λZ Z=>mP) (λZ Z=>mP) (λZ Z=>mP) (λZ Z Z Z=>mP) (λZ Z Z Z=>mP) (λZ Z Z Z=>mP) (λZ Z=>mP) (λZ Z Z h=>k _ _ _ h) (λZ Z Z=>mP) (λZ Z Z=>mP) (λZ Z=>mP) (λZ Z=>mP) (λZ Z=>mP) (λZ Z Z=>mP) (λZ Z Z Z=>mP) h
noncomputable def Al(x:aa)(f:aa->(List eU)->fD->Bool):Bool:=av (motive_1:=λZ=>Bool) x (λZ Z Z=>false) (λZ Z Z=>false) (λZ Z Z Z=>false) (λZ Z Z=>false) (λZ Z Z Z=>false) (λZ Z Z Z=>false) (λZ Z Z=>false) (λZ Z Z=>false) (λy gs sc Z=>f y gs sc) (λZ Z Z Z=>false) (λZ Z Z Z Z=>false) (λZ Z Z Z=>false) (λZ Z=>false) (λZ Z=>false) (λZ Z=>false) (λZ Z Z Z=>false) (λZ Z Z Z=>false) (λZ Z Z Z=>false) (λZ Z=>false) (λZ Z Z=>false) (λZ Z Z=>false) (λZ Z Z=>false) (λZ Z=>false) (λZ Z=>false) (λZ Z=>false) (λZ Z Z=>false) (λZ Z Z Z=>false)
theorem Cj{x:aa}{f:aa->(List eU)->fD->Bool}{P:aa->Prop}(h:Al x f=true)(k:∀y gs sc p,f y gs sc=true->P (.ListComp y gs sc p)):P x:=av (motive_1:=λx=>Al x f=true->P x) x (λZ Z Z=>mP) (λZ Z Z=>mP) (λZ Z Z Z=>mP) (λZ Z Z=>mP) (λZ Z Z Z=>mP) (λZ Z Z Z=>mP) (λZ Z Z=>mP) (λZ Z Z=>mP) (λZ Z Z Z h=>k _ _ _ _ h) (λZ Z Z Z=>mP) (λZ Z Z Z Z=>mP) (λZ Z Z Z=>mP) (λZ Z=>mP) (λZ Z=>mP) (λZ Z=>mP) (λZ Z Z Z=>mP) (λZ Z Z Z=>mP) (λZ Z Z Z=>mP) (λZ Z=>mP) (λZ Z Z=>mP) (λZ Z Z=>mP) (λZ Z Z=>mP) (λZ Z=>mP) (λZ Z=>mP) (λZ Z=>mP) (λZ Z Z=>mP) (λZ Z Z Z=>mP) h
noncomputable def Am(st:bo)(f:aa->Bool):Bool:=aT (motive_2:=λZ=>Bool) st (λZ Z Z Z Z Z Z Z Z Z=>false) (λZ Z Z Z Z Z Z Z Z Z=>false) (λZ Z Z Z Z Z Z Z Z Z Z=>false) (λZ Z=>false) (λZ Z=>false) (λZ Z Z=>false) (λZ Z Z Z Z Z Z=>false) (λZ Z Z Z=>false) (λZ Z Z Z Z=>false) (λZ Z Z Z Z=>false) (λZ Z Z Z Z=>false) (λZ Z Z Z=>false) (λZ Z Z Z=>false) (λZ Z Z=>false) (λZ Z Z=>false) (λZ Z Z=>false) (λZ Z Z=>false) (λZ Z Z Z Z=>false) (λZ Z Z Z Z=>false) (λZ Z Z=>false) (λZ Z=>false) (λZ Z Z Z=>false) (λZ Z=>false) (λZ Z=>false) (λx Z=>f x) (λZ=>false) (λZ=>false) (λZ=>false)
theorem Cm{x:bo}{f:aa->Bool}{P:bo->Prop}(h:Am x f=true)(k:∀x p,f x=true->P (.Expr x p)):P x:=aT (motive_2:=λx=>Am x f=true->P x) x (λZ Z Z Z Z Z Z Z Z Z=>mP) (λZ Z Z Z Z Z Z Z Z Z=>mP) (λZ Z Z Z Z Z Z Z Z Z Z=>mP) (λZ Z=>mP) (λZ Z=>mP) (λZ Z Z=>mP) (λZ Z Z Z Z Z Z=>mP) (λZ Z Z Z=>mP) (λZ Z Z Z Z=>mP) (λZ Z Z Z Z=>mP) (λZ Z Z Z Z=>mP) (λZ Z Z Z=>mP) (λZ Z Z Z=>mP) (λZ Z Z=>mP) (λZ Z Z=>mP) (λZ Z Z=>mP) (λZ Z Z=>mP) (λZ Z Z Z Z=>mP) (λZ Z Z Z Z=>mP) (λZ Z Z=>mP) (λZ Z=>mP) (λZ Z Z Z=>mP) (λZ Z=>mP) (λZ Z=>mP) (λZ Z h=>k _ _ h) (λZ=>mP) (λZ=>mP) (λZ=>mP) h
noncomputable def vg(st:bo)(f:(List aa)->aa->Bool):Bool:=aT (motive_2:=λZ=>Bool) st (λZ Z Z Z Z Z Z Z Z Z=>false) (λZ Z Z Z Z Z Z Z Z Z=>false) (λZ Z Z Z Z Z Z Z Z Z Z=>false) (λZ Z=>false) (λZ Z=>false) (λzs x Z=>f zs x) (λZ Z Z Z Z Z Z=>false) (λZ Z Z Z=>false) (λZ Z Z Z Z=>false) (λZ Z Z Z Z=>false) (λZ Z Z Z Z=>false) (λZ Z Z Z=>false) (λZ Z Z Z=>false) (λZ Z Z=>false) (λZ Z Z=>false) (λZ Z Z=>false) (λZ Z Z=>false) (λZ Z Z Z Z=>false) (λZ Z Z Z Z=>false) (λZ Z Z=>false) (λZ Z=>false) (λZ Z Z Z=>false) (λZ Z=>false) (λZ Z=>false) (λZ Z=>false) (λZ=>false) (λZ=>false) (λZ=>false)
theorem xP{x:bo}{f:(List aa)->aa->Bool}{P:bo->Prop}(h:vg x f=true)(k:∀zs x p,f zs x=true->P (.Assign zs x p)):P x:=aT (motive_2:=λx=>vg x f=true->P x) x (λZ Z Z Z Z Z Z Z Z Z=>mP) (λZ Z Z Z Z Z Z Z Z Z=>mP) (λZ Z Z Z Z Z Z Z Z Z Z=>mP) (λZ Z=>mP) (λZ Z=>mP) (λZ Z Z h=>k _ _ _ h) (λZ Z Z Z Z Z Z=>mP) (λZ Z Z Z=>mP) (λZ Z Z Z Z=>mP) (λZ Z Z Z Z=>mP) (λZ Z Z Z Z=>mP) (λZ Z Z Z=>mP) (λZ Z Z Z=>mP) (λZ Z Z=>mP) (λZ Z Z=>mP) (λZ Z Z=>mP) (λZ Z Z=>mP) (λZ Z Z Z Z=>mP) (λZ Z Z Z Z=>mP) (λZ Z Z=>mP) (λZ Z=>mP) (λZ Z Z Z=>mP) (λZ Z=>mP) (λZ Z=>mP) (λZ Z=>mP) (λZ=>mP) (λZ=>mP) (λZ=>mP) h
noncomputable def xS(st:bo)(f:(Option aa)->Bool):Bool:=aT (motive_2:=λZ=>Bool) st (λZ Z Z Z Z Z Z Z Z Z=>false) (λZ Z Z Z Z Z Z Z Z Z=>false) (λZ Z Z Z Z Z Z Z Z Z Z=>false) (λx Z=>f x) (λZ Z=>false) (λZ Z Z=>false) (λZ Z Z Z Z Z Z=>false) (λZ Z Z Z=>false) (λZ Z Z Z Z=>false) (λZ Z Z Z Z=>false) (λZ Z Z Z Z=>false) (λZ Z Z Z=>false) (λZ Z Z Z=>false) (λZ Z Z=>false) (λZ Z Z=>false) (λZ Z Z=>false) (λZ Z Z=>false) (λZ Z Z Z Z=>false) (λZ Z Z Z Z=>false) (λZ Z Z=>false) (λZ Z=>false) (λZ Z Z Z=>false) (λZ Z=>false) (λZ Z=>false) (λZ Z=>false) (λZ=>false) (λZ=>false) (λZ=>false)
theorem DV{x:bo}{f:(Option aa)->Bool}{P:bo->Prop}(h:xS x f=true)(k:∀x p,f x=true->P (.Return x p)):P x:=aT (motive_2:=λx=>xS x f=true->P x) x (λZ Z Z Z Z Z Z Z Z Z=>mP) (λZ Z Z Z Z Z Z Z Z Z=>mP) (λZ Z Z Z Z Z Z Z Z Z Z=>mP) (λZ Z h=>k _ _ h) (λZ Z=>mP) (λZ Z Z=>mP) (λZ Z Z Z Z Z Z=>mP) (λZ Z Z Z=>mP) (λZ Z Z Z Z=>mP) (λZ Z Z Z Z=>mP) (λZ Z Z Z Z=>mP) (λZ Z Z Z=>mP) (λZ Z Z Z=>mP) (λZ Z Z=>mP) (λZ Z Z=>mP) (λZ Z Z=>mP) (λZ Z Z=>mP) (λZ Z Z Z Z=>mP) (λZ Z Z Z Z=>mP) (λZ Z Z=>mP) (λZ Z=>mP) (λZ Z Z Z=>mP) (λZ Z=>mP) (λZ Z=>mP) (λZ Z=>mP) (λZ=>mP) (λZ=>mP) (λZ=>mP) h
noncomputable def Ja(st:bo)(f:aa->(List Stmt)->(List Stmt)->Bool):Bool:=aT (motive_2:=λZ=>Bool) st (λZ Z Z Z Z Z Z Z Z Z=>false) (λZ Z Z Z Z Z Z Z Z Z=>false) (λZ Z Z Z Z Z Z Z Z Z Z=>false) (λZ Z=>false) (λZ Z=>false) (λZ Z Z=>false) (λZ Z Z Z Z Z Z=>false) (λZ Z Z Z=>false) (λZ Z Z Z Z=>false) (λZ Z Z Z Z=>false) (λZ Z Z Z Z=>false) (λZ Z Z Z=>false) (λz l r Z=>f z l r) (λZ Z Z=>false) (λZ Z Z=>false) (λZ Z Z=>false) (λZ Z Z=>false) (λZ Z Z Z Z=>false) (λZ Z Z Z Z=>false) (λZ Z Z=>false) (λZ Z=>false) (λZ Z Z Z=>false) (λZ Z=>false) (λZ Z=>false) (λZ Z=>false) (λZ=>false) (λZ=>false) (λZ=>false)
theorem Lx{x:bo}{f:aa->(List Stmt)->(List Stmt)->Bool}{P:bo->Prop}(h:Ja x f=true)(k:∀z l r p,f z l r=true->P (.If z l r p)):P x:=aT (motive_2:=λx=>Ja x f=true->P x) x (λZ Z Z Z Z Z Z Z Z Z=>mP) (λZ Z Z Z Z Z Z Z Z Z=>mP) (λZ Z Z Z Z Z Z Z Z Z Z=>mP) (λZ Z=>mP) (λZ Z=>mP) (λZ Z Z=>mP) (λZ Z Z Z Z Z Z=>mP) (λZ Z Z Z=>mP) (λZ Z Z Z Z=>mP) (λZ Z Z Z Z=>mP) (λZ Z Z Z Z=>mP) (λZ Z Z Z=>mP) (λZ Z Z Z h=>k _ _ _ _ h) (λZ Z Z=>mP) (λZ Z Z=>mP) (λZ Z Z=>mP) (λZ Z Z=>mP) (λZ Z Z Z Z=>mP) (λZ Z Z Z Z=>mP) (λZ Z Z=>mP) (λZ Z=>mP) (λZ Z Z Z=>mP) (λZ Z=>mP) (λZ Z=>mP) (λZ Z=>mP) (λZ=>mP) (λZ=>mP) (λZ=>mP) h
noncomputable def Av(st:bo)(f:aa->(List Stmt)->(List Stmt)->Bool):Bool:=aT (motive_2:=λZ=>Bool) st (λZ Z Z Z Z Z Z Z Z Z=>false) (λZ Z Z Z Z Z Z Z Z Z=>false) (λZ Z Z Z Z Z Z Z Z Z Z=>false) (λZ Z=>false) (λZ Z=>false) (λZ Z Z=>false) (λZ Z Z Z Z Z Z=>false) (λZ Z Z Z=>false) (λZ Z Z Z Z=>false) (λZ Z Z Z Z=>false) (λZ Z Z Z Z=>false) (λz l r Z=>f z l r) (λZ Z Z Z=>false) (λZ Z Z=>false) (λZ Z Z=>false) (λZ Z Z=>false) (λZ Z Z=>false) (λZ Z Z Z Z=>false) (λZ Z Z Z Z=>false) (λZ Z Z=>false) (λZ Z=>false) (λZ Z Z Z=>false) (λZ Z=>false) (λZ Z=>false) (λZ Z=>false) (λZ=>false) (λZ=>false) (λZ=>false)
theorem GI{x:bo}{f:aa->(List Stmt)->(List Stmt)->Bool}{P:bo->Prop}(h:Av x f=true)(k:∀z l r p,f z l r=true->P (.While z l r p)):P x:=aT (motive_2:=λx=>Av x f=true->P x) x (λZ Z Z Z Z Z Z Z Z Z=>mP) (λZ Z Z Z Z Z Z Z Z Z=>mP) (λZ Z Z Z Z Z Z Z Z Z Z=>mP) (λZ Z=>mP) (λZ Z=>mP) (λZ Z Z=>mP) (λZ Z Z Z Z Z Z=>mP) (λZ Z Z Z=>mP) (λZ Z Z Z Z=>mP) (λZ Z Z Z Z=>mP) (λZ Z Z Z Z=>mP) (λZ Z Z Z h=>k _ _ _ _ h) (λZ Z Z Z=>mP) (λZ Z Z=>mP) (λZ Z Z=>mP) (λZ Z Z=>mP) (λZ Z Z=>mP) (λZ Z Z Z Z=>mP) (λZ Z Z Z Z=>mP) (λZ Z Z=>mP) (λZ Z=>mP) (λZ Z Z Z=>mP) (λZ Z=>mP) (λZ Z=>mP) (λZ Z=>mP) (λZ=>mP) (λZ=>mP) (λZ=>mP) h
noncomputable def I8(st:bo)(f:aa->aa->(List Stmt)->(List Stmt)->Bool):Bool:=aT (motive_2:=λZ=>Bool) st (λZ Z Z Z Z Z Z Z Z Z=>false) (λZ Z Z Z Z Z Z Z Z Z=>false) (λZ Z Z Z Z Z Z Z Z Z Z=>false) (λZ Z=>false) (λZ Z=>false) (λZ Z Z=>false) (λZ Z Z Z Z Z Z=>false) (λZ Z Z Z=>false) (λZ Z Z Z Z=>false) (λt i l r Z=>f t i l r) (λZ Z Z Z Z=>false) (λZ Z Z Z=>false) (λZ Z Z Z=>false) (λZ Z Z=>false) (λZ Z Z=>false) (λZ Z Z=>false) (λZ Z Z=>false) (λZ Z Z Z Z=>false) (λZ Z Z Z Z=>false) (λZ Z Z=>false) (λZ Z=>false) (λZ Z Z Z=>false) (λZ Z=>false) (λZ Z=>false) (λZ Z=>false) (λZ=>false) (λZ=>false) (λZ=>false)
theorem Lv{x:bo}{f:aa->aa->(List Stmt)->(List Stmt)->Bool}{P:bo->Prop}(h:I8 x f=true)(k:∀t i l r p,f t i l r=true->P (.For t i l r p)):P x:=aT (motive_2:=λx=>I8 x f=true->P x) x (λZ Z Z Z Z Z Z Z Z Z=>mP) (λZ Z Z Z Z Z Z Z Z Z=>mP) (λZ Z Z Z Z Z Z Z Z Z Z=>mP) (λZ Z=>mP) (λZ Z=>mP) (λZ Z Z=>mP) (λZ Z Z Z Z Z Z=>mP) (λZ Z Z Z=>mP) (λZ Z Z Z Z=>mP) (λZ Z Z Z Z h=>k _ _ _ _ _ h) (λZ Z Z Z Z=>mP) (λZ Z Z Z=>mP) (λZ Z Z Z=>mP) (λZ Z Z=>mP) (λZ Z Z=>mP) (λZ Z Z=>mP) (λZ Z Z=>mP) (λZ Z Z Z Z=>mP) (λZ Z Z Z Z=>mP) (λZ Z Z=>mP) (λZ Z=>mP) (λZ Z Z Z=>mP) (λZ Z=>mP) (λZ Z=>mP) (λZ Z=>mP) (λZ=>mP) (λZ=>mP) (λZ=>mP) h
noncomputable def onRaise(st:bo)(f:(Option aa)->(Option aa)->Bool):Bool:=aT (motive_2:=λZ=>Bool) st (λZ Z Z Z Z Z Z Z Z Z=>false) (λZ Z Z Z Z Z Z Z Z Z=>false) (λZ Z Z Z Z Z Z Z Z Z Z=>false) (λZ Z=>false) (λZ Z=>false) (λZ Z Z=>false) (λZ Z Z Z Z Z Z=>false) (λZ Z Z Z=>false) (λZ Z Z Z Z=>false) (λZ Z Z Z Z=>false) (λZ Z Z Z Z=>false) (λZ Z Z Z=>false) (λZ Z Z Z=>false) (λZ Z Z=>false) (λZ Z Z=>false) (λZ Z Z=>false) (λa b Z=>f a b) (λZ Z Z Z Z=>false) (λZ Z Z Z Z=>false) (λZ Z Z=>false) (λZ Z=>false) (λZ Z Z Z=>false) (λZ Z=>false) (λZ Z=>false) (λZ Z=>false) (λZ=>false) (λZ=>false) (λZ=>false)
theorem GE{x:bo}{f:(Option aa)->(Option aa)->Bool}{P:bo->Prop}(h:onRaise x f=true)(k:∀a b p,f a b=true->P (.Raise a b p)):P x:=aT (motive_2:=λx=>onRaise x f=true->P x) x (λZ Z Z Z Z Z Z Z Z Z=>mP) (λZ Z Z Z Z Z Z Z Z Z=>mP) (λZ Z Z Z Z Z Z Z Z Z Z=>mP) (λZ Z=>mP) (λZ Z=>mP) (λZ Z Z=>mP) (λZ Z Z Z Z Z Z=>mP) (λZ Z Z Z=>mP) (λZ Z Z Z Z=>mP) (λZ Z Z Z Z=>mP) (λZ Z Z Z Z=>mP) (λZ Z Z Z=>mP) (λZ Z Z Z=>mP) (λZ Z Z=>mP) (λZ Z Z=>mP) (λZ Z Z=>mP) (λZ Z Z h=>k _ _ _ h) (λZ Z Z Z Z=>mP) (λZ Z Z Z Z=>mP) (λZ Z Z=>mP) (λZ Z=>mP) (λZ Z Z Z=>mP) (λZ Z=>mP) (λZ Z=>mP) (λZ Z=>mP) (λZ=>mP) (λZ=>mP) (λZ=>mP) h
noncomputable def Fv(st:bo)(f:(List Stmt)->(List ExceptHandler)->(List Stmt)->(List Stmt)->Bool):Bool:=aT (motive_2:=λZ=>Bool) st (λZ Z Z Z Z Z Z Z Z Z=>false) (λZ Z Z Z Z Z Z Z Z Z=>false) (λZ Z Z Z Z Z Z Z Z Z Z=>false) (λZ Z=>false) (λZ Z=>false) (λZ Z Z=>false) (λZ Z Z Z Z Z Z=>false) (λZ Z Z Z=>false) (λZ Z Z Z Z=>false) (λZ Z Z Z Z=>false) (λZ Z Z Z Z=>false) (λZ Z Z Z=>false) (λZ Z Z Z=>false) (λZ Z Z=>false) (λZ Z Z=>false) (λZ Z Z=>false) (λZ Z Z=>false) (λl hs o f' Z=>f l hs o f') (λZ Z Z Z Z=>false) (λZ Z Z=>false) (λZ Z=>false) (λZ Z Z Z=>false) (λZ Z=>false) (λZ Z=>false) (λZ Z=>false) (λZ=>false) (λZ=>false) (λZ=>false)
theorem Fw{x:bo}{f:(List Stmt)->(List ExceptHandler)->(List Stmt)->(List Stmt)->Bool}{P:bo->Prop}(h:Fv x f=true)(k:∀l hs o f' p,f l hs o f'=true->P (.Try l hs o f' p)):P x:=aT (motive_2:=λx=>Fv x f=true->P x) x (λZ Z Z Z Z Z Z Z Z Z=>mP) (λZ Z Z Z Z Z Z Z Z Z=>mP) (λZ Z Z Z Z Z Z Z Z Z Z=>mP) (λZ Z=>mP) (λZ Z=>mP) (λZ Z Z=>mP) (λZ Z Z Z Z Z Z=>mP) (λZ Z Z Z=>mP) (λZ Z Z Z Z=>mP) (λZ Z Z Z Z=>mP) (λZ Z Z Z Z=>mP) (λZ Z Z Z=>mP) (λZ Z Z Z=>mP) (λZ Z Z=>mP) (λZ Z Z=>mP) (λZ Z Z=>mP) (λZ Z Z=>mP) (λZ Z Z Z Z h=>k _ _ _ _ _ h) (λZ Z Z Z Z=>mP) (λZ Z Z=>mP) (λZ Z=>mP) (λZ Z Z Z=>mP) (λZ Z=>mP) (λZ Z=>mP) (λZ Z=>mP) (λZ=>mP) (λZ=>mP) (λZ=>mP) h
noncomputable def DU(st:bo)(f:b8->Bool):Bool:=aT (motive_2:=λZ=>Bool) st (λZ Z Z Z Z Z Z Z Z Z=>false) (λZ Z Z Z Z Z Z Z Z Z=>false) (λZ Z Z Z Z Z Z Z Z Z Z=>false) (λZ Z=>false) (λZ Z=>false) (λZ Z Z=>false) (λZ Z Z Z Z Z Z=>false) (λZ Z Z Z=>false) (λZ Z Z Z Z=>false) (λZ Z Z Z Z=>false) (λZ Z Z Z Z=>false) (λZ Z Z Z=>false) (λZ Z Z Z=>false) (λZ Z Z=>false) (λZ Z Z=>false) (λZ Z Z=>false) (λZ Z Z=>false) (λZ Z Z Z Z=>false) (λZ Z Z Z Z=>false) (λZ Z Z=>false) (λZ Z=>false) (λZ Z Z Z=>false) (λZ Z=>false) (λZ Z=>false) (λZ Z=>false) (λp=>f p) (λZ=>false) (λZ=>false)
theorem Jc{x:bo}{f:b8->Bool}{P:bo->Prop}(h:DU x f=true)(k:∀p,f p=true->P (.Pass p)):P x:=aT (motive_2:=λx=>DU x f=true->P x) x (λZ Z Z Z Z Z Z Z Z Z=>mP) (λZ Z Z Z Z Z Z Z Z Z=>mP) (λZ Z Z Z Z Z Z Z Z Z Z=>mP) (λZ Z=>mP) (λZ Z=>mP) (λZ Z Z=>mP) (λZ Z Z Z Z Z Z=>mP) (λZ Z Z Z=>mP) (λZ Z Z Z Z=>mP) (λZ Z Z Z Z=>mP) (λZ Z Z Z Z=>mP) (λZ Z Z Z=>mP) (λZ Z Z Z=>mP) (λZ Z Z=>mP) (λZ Z Z=>mP) (λZ Z Z=>mP) (λZ Z Z=>mP) (λZ Z Z Z Z=>mP) (λZ Z Z Z Z=>mP) (λZ Z Z=>mP) (λZ Z=>mP) (λZ Z Z Z=>mP) (λZ Z=>mP) (λZ Z=>mP) (λZ Z=>mP) (λZ h=>k _ h) (λZ=>mP) (λZ=>mP) h
noncomputable def onStr(x:aa)(f:aI->Bool):Bool:=sW x λc=>match c with
 |.str s=>f s
 |_=>false
theorem Aq{x:aa}{f:aI->Bool}{P:aa->Prop}(h:onStr x f=true)(k:∀s kd p,f s=true->P (.Constant (.str s) kd p)):P x:=sI h λc kd p h=>by
 cases c with
 |str s=>exact k s kd p h
 |_=>exact mP h
noncomputable def namesOk(vars:List (aI×Nat)):List Nat->List aa->Bool
 |[],xs=>xs.isEmpty
 |i::is,xs=>oW xs λx xs=>qw x (λn=>vars.lookup n==some i)&&namesOk vars is xs
noncomputable def Eg:MX->Option MX
 |.tup ts=>some ts
 |_=>none
noncomputable def zE(vars:List (aI×Nat))(t:MX)(x:aa):Bool:=
 ((CT t).any λi=>qw x λn=>vars.lookup n==some i)||((Eg t).any λts=>r7 x λxs=>(sY ts).any λis=>namesOk vars is xs)
theorem vB{t:MX}{i:Nat}:CT t=some i->t=.var i:=by
 cases t<;>first | exact mV | exact λh=>congrArg MX.var (ae h)
theorem zr{t i:MX}:Eg t=some i->t=.tup i:=by
 cases t<;>first | exact mV | exact λh=>congrArg MX.tup (ae h)
theorem HH{t:MX}{x:aa}(h:zE vars t x=true):
  (∃i n p,t=.var i/\x=.Name n p/\vars.lookup n=some i)\/∃ts is xs k p,t=.tup ts/\sY ts=some is/\x=.Tuple xs k p/\namesOk vars is xs=true:=by
 rcases Bm h with h | h
 .refine mO (pX h) λi e h=>?_;apply oJ h;exact λn p h=>.inl ⟨i,n,p,vB e,rfl,eq_of_beq h⟩
 .refine mO (pX h) λts e h=>?_;apply rG h;exact λxs k p h=>(pX h).elim λis h=>.inr ⟨ts,is,xs,k,p,zr e,h.1,rfl,h.2⟩
section
variable {c:Cx}{s:ag}{ρ':mQ}{q:Bool}
theorem se(H:ng W c ρ φ σ s){x:aI}{i:Nat}{v:V}{Q:Unit->ag->Prop}(hx:c.vars.lookup x=some i)(hi:i < ρ.length)(rv:mT W φ s.heap v y)(V2:loc=true->c.env.kindOf x=some .local)(h:∀s',Good W (v7 loc c.env) φ s σ φ s'->ng W c (ρ.set i (some v)) φ σ s'->Q () s'):an W.M A (gz c.env x y) Q E s:=by
 refine Mh H.ok H.inv hx hi rv V2 λs' g ok' hfr=>h s' g ⟨g.inv,ok',H.frs.evo g.evo g.grows λb hb=>?_,H.sep⟩;refine sH (H.frs.mem hb) λh1 h2 h3=>?_
 by_cases ho:b∈v7 loc c.env
 .right
  rcases oV (tM ho) with e | ⟨n,hn⟩
  .subst e;exact hfr h3
  .refine pO h3 λo es ep e Z dd=>?_;refine oC (H.ok.cell n b hn) λZ Z Z u Vn Z=>?_;obtain ⟨o',e',d'⟩:=Vn;rw[ae (e.symm.trans e'),d'] at dd
   cases dd
 .left;intro hm
  rcases aG.mp hm with hm | hm
  .exact h1 hm
  .exact ho hm
theorem sZ(H:ng W c ρ φ σ s){x:aI}{i:Nat}{v:V}{Q:Unit->ag->Prop}(hx:c.vars.lookup x=some i)(hi:i < ρ.length)(rv:mT W φ s.heap v y)(V2:loc=true->c.env.kindOf x=some .local)(h:∀s',Good W (v7 loc c.env) φ s σ φ s'->ng W c (ρ.set i (some v)) φ σ s'->Q () s'):an W.M A (bindName c.env x y) Q E s:=
 wpAny_bindName (se H hx hi rv V2 h)
theorem L8(VF:∀x i,lv.lookup x=some i->c.vars.lookup x=some i/\(loc=true->c.env.kindOf x=some .local)){is:List Nat}:
  ∀{xs:List aa},namesOk lv is xs=true->∀{l:List V} {ys:List af} {ρ ρ':mQ} {s:ag} {Q:Unit->ag->Prop},ng W c ρ φ σ s->nf W φ s.heap l ys->bindL is l ρ=some ρ'->
  (∀s',Good W (v7 loc c.env) φ s σ φ s'->ng W c ρ' φ σ s'->Q () s')->an W.M A (c9 ((cU xs c.env).map (·.2)) ys) Q E s:=by
 induction is with
 |nil=>
  intro xs hc l ys ρ ρ' s Q H r e h;refine mO (ms e) λZ e1 Ua=>?_;subst Ua;rw[rj e1] at r;rw[ny hc,show ys=[] from r];exact al (h s (.refl H.inv) H)
 |cons i is ih=>
  intro xs hc l ys ρ ρ' s Q H r e h;apply o6 hc;intro x xs' hc;refine rB hc λhn hc=>?_;apply oJ hn;intro n p hn;refine mO (bs e) λv e1 e=>?_;refine mO (bs e) λT3 e2 e=>?_;refine nE (nu e2) λhi T6=>?_;subst T6;rw[s6 e1] at r;refine mU r λy X9 Ua rv rl=>?_;subst Ua;show an W.M A (do iM X9 (iI (.Name n p) c.env y);c9 ((cU xs' c.env).map (·.2)) X9) Q E s;rw[hJ];have hl:=VF _ _ (eq_of_beq hn);refine ac (aK (ac (bv (sZ H hl.1 hi rv hl.2 λs' g H'=>?_))));exact ih hc H' (rl.evo (X:=φ++v7 loc c.env) g.evo ((Apart.self _ _ _).append λb hb=>H.ok.ownApart b (tM hb)) g.grows) e λUB g' H''=>h UB (g.trans g') H''
theorem own_apart(H:ng W c ρ φ σ s):Apart W φ (φ++ownOf c.env) s.heap:=(Apart.self _ _ _).append H.ok.ownApart
theorem Ac{is:List Nat}:∀{xs:List aa},namesOk vars is xs=true->∀{l:List V} {ρ ρ':mQ},bindL is l ρ=some ρ'->l.length=xs.length:=by
 induction is with
 |nil=>
  intro xs hc l ρ ρ' e;refine mO (ms e) λZ e1 Z=>?_;rw[rj e1,ny hc];rfl
 |cons i is ih=>
  intro xs hc l ρ ρ' e;apply o6 hc;intro x xs' hc;refine mO (bs e) λv e1 e=>?_;refine mO (bs e) λT3 Z e=>?_;rw[s6 e1];exact congrArg ji (ih (b2 hc).2 e)
theorem vI{env:d9}{is:List Nat}:∀{xs:List aa},namesOk vars is xs=true->(cU xs env).length=xs.length/\(cU xs env).findIdx? (·.1)=none:=by
 induction is with
 |nil=>intro xs hc;rw[ny hc];exact⟨rfl,rfl⟩
 |cons i is ih=>
  intro xs hc;apply o6 hc;intro x xs' hc;refine rB hc λhn hc=>?_;apply oJ hn;intro n p _;have ih:=ih hc;refine⟨congrArg ji ih.1,?_⟩;show ((false,iI (.Name n p) env)::cU xs' env).findIdx? (·.1)=none;rw[jK,ih.2];rfl
theorem FT(VF:∀x i,lv.lookup x=some i->c.vars.lookup x=some i/\(loc=true->c.env.kindOf x=some .local))(hh:A.handled=none){t:MX}{x:aa}(hc:zE lv t x=true){v:V}{Q:Unit->ag->Prop}(H:ng W c ρ φ σ s)(r:mT W φ s.heap v y)(e:qo t v ρ=some ρ')(h:∀s',Good W (v7 loc c.env) φ s σ φ s'->ng W c ρ' φ σ s'->Q () s'):an W.M A (iI x c.env y) Q E s:=by
 refine mO (bs e) λis e1 f=>?_;refine mO (bs f) λl e2 f'=>?_
 rcases HH hc with ⟨i,n,p,rfl,rfl,hn⟩ | ⟨ts,ZG,xs,k,p,rfl,hv,rfl,hn⟩
 .rw[<-ae e1,<-ae e2] at f';refine mO (bs f') λZ e3 f'=>?_;refine mO (bs f') λT3 e4 f'=>?_;have hi:=nu e4;rw[<-ae f',<-hi.2,<-ae e3] at h;rw[hJ];exact ac (bv (sZ H (VF _ _ hn).1 hi.1 r (VF _ _ hn).2 h))
 .rw[ae (e1.symm.trans hv)] at f';rw[oy e2] at r;refine nk r λa zs n Uc Z hz ho rl=>?_;subst Uc;have XY:=vI (env:=c.env) hn;refine jO (items:=zs.toArray) hh ⟨_,ho,rfl,n,rfl⟩ (by rw[XY.1,aY,rl.length,Ac hn f']) XY.2 λh' he=>?_;have k:∀b o,s.heap.get? b=some o->h'.get? b=some o:=λb o e=>he b o (aS (aX e)) e;have g:Good W [] φ s σ φ {s with heap:=h'}:=Good.keeps H.inv k;exact L8 VF hn (H.good g) (g.repL rl) f' λs' g' H'=>h s' (g.up.trans g') H'
end
section
variable {W:Wd}{c:Cx}{own φ φ₀ TV:List ai}{σ σ':St}{s s' s₀:ag}{ρ ρ':mQ}{Q:fF->ag->Prop}{E:af->ag->Prop}{A:aH}{q:Bool}{d:Nat}
structure sf(W:Wd)(c:Cx)(F D:List ai)(TY:aB):Prop where
 new:∀b∈F,TY.get? b=none
 hid:∀b∈D,b∉W.hid
 notOwn:∀{b:ai},b∈F->b∉ownOf c.env
 notFrs:∀{b:ai},b∈F->b∉oQ (c.env₀::c.out)
 base:W.base.StaysIn TY
theorem sf.of(H:ng W c ρ φ σ s){D:List ai}(hn:∀b∈F,s.heap.get? b=none)(hD:∀b∈D,b∈F):sf W c F D s.heap:=by
 refine⟨hn,λb hb hm=>?_,λ{b} hb hm=>?_,λ{b} hb hm=>?_,H.inv.base⟩
 .refine m4 (H.inv.hid b hm) λo e=>?_;rw[hn b (hD b hb)] at e;cases e
 .rcases oV hm with q | ⟨n,U1⟩
  .exact H.ok.there.elim λo e=>mV ((hn _ hb).symm.trans (q▸e.1))
  .exact (H.ok.cellThere U1).elim λo e=>mV ((hn b hb).symm.trans e.1)
 .refine y4 (H.frs.mem hm) λZ Z o Z Z e Z=>?_;rw[hn b hb] at e;cases e
theorem pI.good{D:List ai}{T:Nat->List ai->aB->Prop}(T8:pI W A target it I F D T)(aw:sf W c F D TY){i:Nat}(H:ng W c ρ φ σ s)(t:T i φ s.heap)(g:Good W (ownOf c.env) φ s σ' TV s'):T i TV s'.heap:=
 T8.keep t g.evo (own_apart H) g.grows λb hb hm=>(aG.mp hm).elim (T8.out t b hb).1 (aw.notOwn hb)
theorem ng.iter{D:List ai}{t:Nat}(aw:sf W c F D TY)(H:ng W c ρ φ σ s)(g:Good W F φ s σ φ {s with heap:=h',toks:=t})(hF:∀b∈F,b∉φ/\W.base.get? b=none/\(b∈W.hid\/∀o,s.heap.get? b=some o->∀xs n,o.data≠.seq xs n)):ng W c ρ φ σ {s with heap:=h',toks:=t}:=by
 refine⟨g.inv,H.ok.evo g.evo ((Apart.self _ _ _).append λb hb Z=>⟨(hF b hb).2.1,(hF b hb).2.2⟩) g.grows ?_ ?_,H.frs.evo g.evo g.grows λb hb=>.inl λhm=>?_,H.sep⟩
 .intro hm
  rcases aG.mp hm with hm | hm
  .exact H.ok.out.1 hm
  .exact aw.notOwn hm ah
 .intro n cc hn hm
  rcases aG.mp hm with hm | hm
  .exact (H.ok.cell n cc hn).1 hm
  .exact aw.notOwn hm (mem_ownOf hn)
 .rcases aG.mp hm with hm | hm
  .exact (H.frs.mem hb).1 hm
  .exact aw.notFrs hm hb
theorem Good.iter{t:Nat}(x:Good W own φ₀ s₀ σ φ s)(hn:∀b∈F,s₀.heap.get? b=none)(y:Good W F φ s σ' TV {s with heap:=h',toks:=t}):Good W own φ₀ s₀ σ' TV {s with heap:=h',toks:=t}:=by
 refine⟨x.grows.trans x.evo y.grows,x.evo.trans y.evo λb hb=>?_,y.inv,y.gens.trans x.gens,y.os.trans x.os⟩
 rcases aG.mp hb with hb | hb
 .exact (x.grows.either hb).imp (bR _) id
 .exact .inr (hn b hb)
theorem pI.apart{D:List ai}{T:Nat->List ai->aB->Prop}(T8:pI W A target it I F D T){i:Nat}(t:T i φ s.heap)(hb:b∈F):b∉φ/\W.base.get? b=none/\(b∈W.hid\/∀o,s.heap.get? b=some o->∀xs n,o.data≠.seq xs n):=by
 refine IX (T8.out t b hb) λh1 h2 o e Z h3=>?_;exact⟨h1,h2,h3.imp id λh3 o' e'=>ae (e.symm.trans e')▸h3⟩
theorem mW.bodyE{o:Option γ}{f:γ->R mQ (Fl×mQ)}{k:Fl×mQ->St->R mQ (Fl×mQ)}{p:Prop}(h:mW W c own φ s ((R.opt o f).bind k) Q E)(h1:∀a,o=some a->mW W c own φ s ((f a).bind k) Q E->p):p:=by
 cases o with
 |none=>exact h.elim
 |some a=>exact h1 a rfl h
noncomputable def HC(P:Pg)(C:Bool->Call)(q:Bool)(t:MX)(b:MS)(v:V)(ρ:mQ)(σ:St):R mQ (Fl×mQ):=R.opt (qo t v ρ) λρ'=>dS P C q b ρ' σ
def LoopAt(W:Wd)(c:Cx)(φ₀:List ai)(s₀:ag)(T:Nat->List ai->aB->Prop)(r:Nat->Nat->mQ->St->R mQ (Fl×mQ))(Q:fF->ag->Prop)(E:af->ag->Prop)(k:Nat)(s:ag):Prop:=
 ∃i ρ σ φ,Good W (ownOf c.env) φ₀ s₀ σ φ s/\ng W c ρ φ σ s/\T i φ s.heap/\mW W c (ownOf c.env) φ₀ s₀ (r k i ρ σ) Q E
theorem LoopAt.elim{T:Nat->List ai->aB->Prop}{r:Nat->Nat->mQ->St->R mQ (Fl×mQ)}{k:Nat}{p:Prop}(x:LoopAt W c φ₀ s₀ T r Q E k s)(f:∀i ρ σ φ,Good W (ownOf c.env) φ₀ s₀ σ φ s->ng W c ρ φ σ s->T i φ s.heap->mW W c (ownOf c.env) φ₀ s₀ (r k i ρ σ) Q E->p):p:=by
 refine ux x λi ρ σ φ g H t h=>?_;exact f i ρ σ φ g H t h
theorem mW.turn{f:V->mQ->St->R mQ (Fl×mQ)}{k i:Nat}{p:Prop}(h:mW W c own φ s (loopS it f k i ρ σ) Q E)(h1:it.at i σ=some none->mW W c own φ s (.ok (.next,ρ) σ) Q E->p)(h2:∀v k',k' < k->it.at i σ=some (some v)->mW W c own φ s ((f v ρ σ).bind (Mine.Internal.after (loopS it f k' (i+1)))) Q E->p):p:=by
 cases k with
 |zero=>exact h.elim
 |succ k=>
  refine mO (mW.opt h) λw Ur h=>?_
  cases w with
  |none=>exact h1 Ur h
  |some v=>exact h2 v k (aR k) Ur h
theorem mW.turned{r:Nat->Nat->mQ->St->R mQ (Fl×mQ)}{T:Nat->List ai->aB->Prop}{k k' i:Nat}{x:Fl×mQ}{f:fF}(h:mW W c (ownOf c.env) φ₀ s₀ (Mine.Internal.after (r k' i) x σ) Q E)(hk:k' < k)(rf:s4 W φ s.heap x.1 f)(g:Good W (ownOf c.env) φ₀ s₀ σ φ s)(H:ng W c x.2 φ σ s)(t:T i φ s.heap):(f=.next/\∃m,m < k/\LoopAt W c φ₀ s₀ T r Q E m s)\/∃v,f=.ret v/\Q (.ret v) s:=by
 obtain ⟨fl,Ut⟩:=x
 cases fl with
 |next=>exact .inl ⟨rf,k',hk,i,Ut,σ,φ,g,H,t,h⟩
 |ret v=>refine mO rf λy e ry=>?_;exact .inr ⟨y,e,h φ (.ret y) s g ⟨y,rfl,ry⟩ H⟩
theorem G2{P:Pg}{C:Bool->Call}{t:MX}{b:MS}{D:List ai}{T:Nat->List ai->aB->Prop}(hh:A.handled=none)(ar:oN A c q d)(hc:zE c.vars t target=true)(hb:rJ P W c q A C b body)(T8:pI W A target it I F D T)(aw:sf W c F D s₀.heap){fu i:Nat}(g:Good W (ownOf c.env) φ₀ s₀ σ φ s)(H:ng W c ρ φ σ s)(ht:T i φ s.heap)(h:mW W c (ownOf c.env) φ₀ s₀ (loopS it (HC P C q t b) fu i ρ σ) Q E):
  dc W.M A (.forLoop target (.ref I) body [] c.env) (λr s'=>match r with | .ok f=>Q f s' | .error e=>gQ W.M A c.env E e s') s:=by
 refine codeAny_forLoop_any (LoopAt W c φ₀ s₀ T (loopS it (HC P C q t b)) Q E) (λk s x=>x.elim λi ρ σ φ g H ht h=>h.turn (λUr h=>?_) λv k' hk Ur h=>?_) fu ⟨i,ρ,σ,φ,g,H,ht,h⟩
 .have hF:∀b∈D,s₀.heap.get? b=none/\b∉φ/\b∉W.hid/\W.base.get? b=none/\∀o,s.heap.get? b=some o->∀xs n,o.data≠.seq xs n:=λb hb=>
   have a:=T8.apart ht (T8.sub b hb)
   ⟨aw.new b (T8.sub b hb),a.1,aw.hid b hb,a.2.1,a.2.2.resolve_left (aw.hid b hb)⟩
  exact T8.done ht H.inv Ur λh' tk hk=>dN (h φ .next _ (g.drop (t:=tk) hF hk) rfl (H.drop (t:=tk) (λb hb=>⟨(hF b hb).2.1,(hF b hb).2.2.1,(hF b hb).2.2.2.1,(hF b hb).2.2.2.2,aw.notOwn (T8.sub b hb),aw.notFrs (T8.sub b hb)⟩) hk (g.drop (t:=tk) hF hk).inv))
 .refine T8.next ht H.inv Ur λy h' tk gi rv Yl=>mW.bodyE (o:=qo t v ρ) (f:=λρ'=>dS P C q b ρ' σ) h λT3 W8 h=>?_;have H₁:=ng.iter aw H gi λb hb=>T8.apart ht hb;have g₁:=g.iter aw.new gi;refine FT (loc:=false) (λx i e=>⟨e,λq=>mP q⟩) hh hc H₁ rv W8 λT2 Ug Ub=>hb Ub ?_;refine mW.bindX h (g₁.trans Ug) (λp Ul Uf f Uj g' Uk rf Uy hk'=>?_) λUt Ul Uf e Uj g' x Uy he=>xk ar g' Uy x aw.base λUH UI UT Vo=>he UH UI Vo UT
  rcases hk'.turned hk rf g' Uy (T8.good aw Ub (T8.good aw H₁ Yl Ug) Uk) with ⟨e,x⟩ | ⟨v,e,x⟩<;>(rw[e];exact x)
end
noncomputable def Wd.hides(W:Wd)(ws:List ai):Wd:={W with hid:=ws++W.hid}
structure S6(W:Wd)(A:aH)(target:aa)(it:It)(I:ai)(F D:List ai)(T:Wd->Nat->List ai->aB->Prop):Prop where
 ok:pI W A target it I F D (T W)
 hid:∀a,pI (W.hide a) A target it I F D (T (W.hide a))
 move:∀{a:ai} {φ:List ai} {h h':aB},T W 0 φ h->h.get? a=none->(∀b o,h.get? b=some o->h'.get? b=some o)->T (W.hide a) 0 φ h'
def nX(W:Wd)(c:Cx)(A:aH)(target:aa)(φ:List ai)(s:ag)(r:R Unit It)(Q E:af->ag->Prop):Prop:=
 match r with
 |.ok it σ'=>∀TV s' ws I F D T,Good W [] φ s σ' TV s'->Inv (W.hides ws) TV σ' s'.heap->(∀b∈ws,s.heap.get? b=none)->(∀b∈F,s.heap.get? b=none)->(∀b∈D,b∉ws)->
   S6 (W.hides ws) A target it I F D T->T (W.hides ws) 0 TV s'.heap->Q (.ref I) s'
 |.exc _ σ'=>∀TV e s',Good W [] φ s σ' TV s'->oO W s.heap c.env₀.frame e s'.heap->E (.ref e) s'
 |.bad=>False
section
variable {c:Cx}{φ₀:List ai}{s:ag}{ρ':mQ}{q:Bool}
theorem nX.step{r:R Unit It}(g:Good W [] φ s σ' TV s')(h:nX W c A target φ s r Q E):nX W c A target TV s' r Q E:=by
 cases r with
 |ok it UG=>exact λUp UB ws I F D T g' i a b e x t=>h Up UB ws I F D T (g.trans g') i (λb hb=>g.evo.fresh (a b hb)) (λb' hb=>g.evo.fresh (b b' hb)) e x t
 |exc u UG=>exact λUp e UB g' x=>h Up e UB (g.trans g') (x.born λb hb=>g.evo.fresh hb)
 |bad=>exact h
theorem nX.ofV{r:R Unit α}{k:α->St->R Unit It}{rep:List ai->aB->α->β->Prop}(h:nX W c A target φ s (r.bind k) Q E)(hk:∀v σ' TV y s',r=.ok v σ'->Good W [] φ s σ' TV s'->rep TV s'.heap v y->nX W c A target TV s' (k v σ') Q E->Q₁ y s'):mS W c φ s r rep Q₁ E:=by
 cases r with
 |ok v σ'=>exact λTV y s' g rp=>hk v σ' TV y s' rfl g rp (nX.step g h)
 |exc u σ'=>exact λTV e s' g x=>h TV e s' g x
 |bad=>exact h
theorem nX.opt{o:Option γ}{f:γ->R Unit It}(h:nX W c A target φ s (R.opt o f) Q E):∃a,o=some a/\nX W c A target φ s (f a) Q E:=by
 cases o with
 |none=>exact h.elim
 |some a=>exact⟨a,rfl,h⟩
theorem nX.gd{p:Prop}[Decidable p]{r:R Unit It}(h:nX W c A target φ s (Mine.Internal.gd p r) Q E):p/\nX W c A target φ s r Q E:=by
 unfold Mine.Internal.gd at h
 by_cases hp:p
 .rw[if_pos hp] at h;exact⟨hp,h⟩
 .rw[if_neg hp] at h;exact h.elim
theorem xF{a:ai}{o:eT}(hb:b∉W.hid)(e:h.get? b=some o)(ha:h.get? a=none):b∉(W.hide a).hid:=λhm=>by
 rcases aA.mp hm with q | q
 .rw[q,ha] at e;cases e
 .exact hb q
theorem nf.moved{a:ai}(r:nf W φ h l ys)(ha:h.get? a=none)(k:∀b o,h.get? b=some o->h'.get? b=some o):nf (W.hide a) φ h' l ys:=
 (r.hide ha).evo (X:=[]) (qZ.of_keeps k) (Apart.nil _ _ _) (.refl _ _)
theorem Inv.fresh(i:Inv W φ σ s.heap){a:ai}(ha:s.heap.get? a=none):a∉φ/\W.base.get? a=none:=⟨(i.notin ha).1,tZ i.base ha⟩
theorem yq.moved{a t:ai}{f:Nat->eT}(x:yq W φ h t f)(ha:h.get? a=none)(k:∀b o,h.get? b=some o->h'.get? b=some o):yq (W.hide a) φ h' t f:=by
 obtain ⟨h2,n,e⟩:=x;exact⟨⟨h2.1,xF h2.2 e ha⟩,n,k _ _ e⟩
theorem pv{t a:ai}{o:eT}(e:h.get? t=some o)(ha:h.get? a=none):t≠a:=λq=>mV (ha.symm.trans (q▸e))
theorem nX.one{T:Wd->Nat->List ai->aB->Prop}{o:eT}(h:nX W c A target φ s (.ok it σ) Q E)(i:Inv W φ σ s.heap)(sr:∀W:Wd,W.base.get? s.heap.objs.size=none->pI W A target it s.heap.objs.size [s.heap.objs.size] [s.heap.objs.size] (T W))(mv:∀{a:ai} {φ:List ai} {h h':aB},T W 0 φ h->h.get? a=none->(∀b o,h.get? b=some o->h'.get? b=some o)->T (W.hide a) 0 φ h')(t:T W 0 φ (s.heap.push o)):Q (.ref s.heap.objs.size) {s with heap:=s.heap.push o}:=
 have hf:=m9 s.heap;have f:=(i.fresh hf).2
 h φ _ [] s.heap.objs.size [s.heap.objs.size] [s.heap.objs.size] T (.push i _) (Good.push (own:=[]) i _).inv (λZ hb=>nomatch hb) (all1 hf) (λZ Z hb=>nomatch hb) ⟨sr W f,λa=>sr (W.hide a) f,mv⟩ t
theorem CW(hh:A.handled=none){x:af}(i:Inv W φ σ s.heap)(r:mT W φ s.heap (.tup l) x)(h:nX W c A target φ s (.ok (.items l) σ) Q E):an W.M A (fK x) Q E s:=by
 refine nk r λt xs n Uc ht hz e rl=>?_;subst Uc;have hf:=m9 s.heap
 refine fe ⟨_,e,rfl,n,rfl⟩ (h.one i (T:=λW=>Kx W s.heap.objs.size t (qY xs) (λh i=>h.IsTupleIter s.heap.objs.size t i) l xs) (λW f=>src_tuple hh f (pv e hf)) (λT ha k=>?_)
  ⟨(i.fresh hf).1,⟨ht,n,aj _ e⟩,⟨_,ax _ rfl,rfl,rfl⟩,(Good.push (own:=[]) i _).repL rl⟩)
 obtain ⟨h1,h2,⟨o,e1,r1⟩,r⟩:=T;exact⟨h1,h2.moved ha k,⟨o,k _ o e1,r1⟩,r.moved ha k⟩
theorem Ek(hh:A.handled=none){x:af}(i:Inv W φ σ s.heap)(r:mT W φ s.heap (.lst l) x)(h:nX W c A target φ s (.ok (.items l) σ) Q E):an W.M A (fK x) Q E s:=by
 refine nk r λt xs n Uc ht hz e rl=>?_;subst Uc;have hf:=m9 s.heap
 refine d7 ⟨_,e,rfl,n,rfl⟩ (h.one i (T:=λW=>Kx W s.heap.objs.size t (pF xs) (λh i=>h.IsListIter s.heap.objs.size t i) l xs) (λW f=>src_list hh f (pv e hf)) (λT ha k=>?_)
  ⟨(i.fresh hf).1,⟨ht,n,aj _ e⟩,⟨_,ax _ rfl,rfl,rfl⟩,(Good.push (own:=[]) i _).repL rl⟩)
 obtain ⟨h1,h2,⟨o,e1,r1⟩,r⟩:=T;exact⟨h1,h2.moved ha k,⟨o,k _ o e1,r1⟩,r.moved ha k⟩
theorem El(hh:A.handled=none){n:Nat}{x:af}(i:Inv W φ σ s.heap)(hn:σ[n]?=some (.list l))(r:mT W φ s.heap (.obj n) x)(h:nX W c A target φ s (.ok (.live n) σ) Q E):an W.M A (fK x) Q E s:=by
 refine mO r λt ht Ua=>?_;subst Ua;refine mU (i.rep n _ t hn ht) λxs m hz e rl=>?_;have hf:=m9 s.heap;refine d7 ⟨_,e,rfl,m,rfl⟩ (h.one i (T:=λZ=>Mq s.heap.objs.size t n) (λW f=>JO hh f (pv e hf)) (λT ha k=>?_) ⟨(i.fresh hf).1,ht,⟨_,ax _ rfl,rfl,rfl⟩⟩);obtain ⟨h1,h2,⟨o,e1,r1⟩⟩:=T;exact⟨h1,h2,⟨o,k _ o e1,r1⟩⟩
theorem wz(hh:A.handled=none){a b st:Int}{k:Nat}{u v w:lP}{r:ai}(i:Inv W φ σ s.heap)(hr:IsRange s.heap r a b st u v w)(ZL:eM a b st=true)(hk:cG a b st=(k:Int))(h:nX W c A target φ s (.ok (.items ((aM k).map λ(i:Nat)=>V.int (a+st * i))) σ) Q E):an W.M A (fK (.ref r)) Q E s:=by
 have hf:=m9 s.heap;refine wpAny_pyIter_range hr ZL (h.one i (T:=λZ=>Hq s.heap.objs.size a k st) (λW f=>src_range hh f) (λT ha k=>?_) ⟨(i.fresh hf).1,bc _,?_⟩)
 .obtain ⟨h1,h2,e1⟩:=T;exact⟨h1,h2,k _ _ e1⟩
 .have:=ax s.heap (o:={cls:=.type "range_iterator",data:=.fields #[bH a,bH (cG a b st),bH st]}) rfl;rw[hk] at this
  simpa [hk] using this
end
section
open AutoSeq1 (wpAny_loadPart')
section
variable {s:ag}
theorem r5{it t:ai}{i:Nat}{x:af}(hit:s.heap.IsTupleIter it t i)(ht:s.heap.IsTuple t items)(hx:items[i]?=some x)(hQ:∀h',h'.IsTupleIter it t (i+1)->bf it s.heap h'->Q x {s with heap:=h'}):
  an (aO prog w) A (bI (.ref it)) Q E s:=by
 refine nP (id hit) λo ho hc hd=>?_;refine Fs ht λol Ys Z nl YE=>?_;unfold bI
 refine ac (bt (name:=bw "__next__") hit.typeIs cg
  (a9 cg hit.typeIs gk ?_ (fU _)))
 show an _ _ (kR (.ref it) 0 >>= _) _ _ s;refine ac (a8 ho hd (x:=.ref t) rfl ?_);show an _ _ (if (bJ t==bX)=true then _ else _) _ _ s;rw[if_neg (show ¬((bJ t==bX)=true) from cy)];show an _ _ (kR (.ref it) 1 >>= _) _ _ s;refine ac (a8 ho hd (x:=.int i 0) rfl ?_);show an _ _ (seqItems? (.ref t) >>= _) _ _ s;refine ac (cF Ys YE ?_);simp only[dZ,hx];refine ac (dm ho hd (by simp) (al ⟨x,rfl,al (hQ _ ?_ (ct ..))⟩))
 exact⟨_,aW _ ho (cx (bL hd _)),(g9 ..).trans hc,by
  rw[bL hd];simp [bH]⟩
theorem sG{it t:ai}{i:Nat}(hh:A.handled=none)(hit:s.heap.IsTupleIter it t i)(ht:s.heap.IsTuple t items)(hx:items[i]?=none)(hE:∀h' e,aB.ExtBut it s.heap h'->(∃o,h'.get? e=some o/\o.cls=.type "StopIteration")->E (.ref e) {s with heap:=h'}):
  an (aO prog w) A (bI (.ref it)) Q E s:=by
 refine nP (id hit) λo ho hc hd=>?_;refine Fs ht λol Ys Z nl YE=>?_;unfold bI
 refine ac (bt (name:=bw "__next__") hit.typeIs cg
  (a9 cg hit.typeIs gk ?_ (fU _)))
 show an _ _ (kR (.ref it) 0 >>= _) _ _ s;refine ac (a8 ho hd (x:=.ref t) rfl ?_);show an _ _ (if (bJ t==bX)=true then _ else _) _ _ s;rw[if_neg (show ¬((bJ t==bX)=true) from cy)];show an _ _ (kR (.ref it) 1 >>= _) _ _ s;refine ac (a8 ho hd (x:=.int i 0) rfl ?_);show an _ _ (seqItems? (.ref t) >>= _) _ _ s;refine ac (cF Ys YE ?_);simp only[dZ,hx];refine ac (fO (ac (dm ho hd (by simp) ?_)));show an _ _ (newExc (.type "StopIteration") [] >>= _) _ _ _;refine ac ?_;simp only[newExc,lL];refine ac (aZ ?_ (by size_fits));refine ac (m:=gR _ _) (dq (a:=bX) (by first | rfl | (simp only[gR];rfl)) ?_);refine aZ ?_ (by size_fits);refine ac (wpAny_handled ?_)
 first | rw[show A.in1.handled=none from hh] | rw[hh]
 refine ac (al (kW ?_));exact hE _ _ (((ct ..).extBut.push _).push _) ⟨_,ax _ rfl,rfl⟩
theorem Bv(hh:A.handled=none)(it t:ai)(hne:t≠it)(items:Array af):
  Draws prog w A it [it,t] items.size (λi v=>items[i]?=some v) (λi h=>h.IsTupleIter it t i/\h.IsTuple t items) where
 live:=λZ Z st=>let ⟨o,ho,_⟩:=st.1;⟨o,ho⟩
 frame:=λZ Z Z st hk=>⟨let ⟨o,e,r⟩:=st.1;⟨o,hk it (by simp) o e,r⟩,let ⟨o,e,r⟩:=st.2;⟨o,hk t (by simp) o e,r⟩⟩
 item:=λi s Q E hi st hQ=>by
  refine r5 st.1 st.2 (x:=items[i]) (by simp [hi]) λh' UA Um=>?_;exact hQ _ h' s.toks (by simp [hi]) ⟨UA,st.2.extBut Um.extBut hne⟩ Um
 done:=λs Q E st hE=>sG hh st.1 st.2 (by simp) hE
theorem Jm{M:ge}{a:α}{Q:α->ag->Prop}{s:ag}(h:∀b,Q b s):an M A (pure a) Q E s:=al (h a)
set_option tactic.hygienic true in
theorem vW(l:ai)(items:Array af):
  Meets (b7.«enumerate.__new__» ⟨[.type "enumerate",.ref l],[]⟩) (λZ R s=>s.heap.IsTuple l items/\
   R (.ok (.ret (.ref (s.heap.push {cls:=.type "tuple_iterator",data:=.fields #[.ref l,.int 0 0]}).objs.size)))
    {s with heap:=(s.heap.push {cls:=.type "tuple_iterator",data:=.fields #[.ref l,.int 0 0]}).push {cls:=.type "enumerate",data:=.fields #[.none,.bool false,.ref s.heap.objs.size,bH 0,.none,.none]}}):=
 .of_wp λprog w A R s h=>by
  obtain ⟨hp,g,d,tk,os⟩:=s;refine nE h λhl h=>?_;have hsub:=sub_enumerate;have hL:mh (kQ ⟨hp,g,d,tk,os⟩) l items:=hl
  wp_walk
  refine wpAny_stack_any λst=>Jm λb=>?_
  cases b
  .wp_walk using fe hL
   exact⟨_,rfl,h⟩
  .wp_walk using fe hL
   exact⟨_,rfl,h⟩
theorem wE{l:ai}(hl:s.heap.IsTuple l items)(h:∀h',mj h' (s.heap.objs.size+1) s.heap.objs.size 0 .none->h'.IsTupleIter s.heap.objs.size l 0->h'.objs.size=s.heap.objs.size+2->
   (∀b o,s.heap.get? b=some o->h'.get? b=some o)->Q (.ref (s.heap.objs.size+1)) {s with heap:=h'}):
  an (aO prog w) A (call (.type "enumerate") [.ref l]) Q E s:=by
 refine callType_new F.called_enumerate (by decide) (F.typeCall_enumerate_1 _) (F.newCall_enumerate_1 _) (λobj=>F.args_object_init_2 obj _) F.entry_enumerate_new
  (vW l items) ⟨hl,?_⟩
 have hz:(s.heap.push {cls:=.type "tuple_iterator",data:=.fields #[.ref l,.int 0 0]}).objs.size=s.heap.objs.size+1:=bk ..;show _/\_;rw[hz]
 have he:mj ((s.heap.push {cls:=.type "tuple_iterator",data:=.fields #[.ref l,.int 0 0]}).push
   {cls:=.type "enumerate",data:=.fields #[.none,.bool false,.ref s.heap.objs.size,bH 0,.none,.none]}) (s.heap.objs.size+1) s.heap.objs.size 0 .none:=by
  have:=ax (s.heap.push {cls:=.type "tuple_iterator",data:=.fields #[.ref l,.int 0 0]})
   (o:={cls:=.type "enumerate",data:=.fields #[.none,.bool false,.ref s.heap.objs.size,bH 0,.none,.none]}) rfl
  rw[hz] at this;exact this
 refine⟨⟨_,he,rfl⟩,h _ he ⟨_,aj _ (ax _ rfl),rfl,rfl⟩ (by rw[bk,hz]) λb o x=>aj _ (aj _ x)⟩
end
end
section
variable {W:Wd}{A:aH}{E:af->ag->Prop}{s:ag}{φ:List ai}{σ:St}
theorem yM{i:Nat}:(uT l)[i]?=l[i]?.map λv=>V.tup [.int i,v]:=by
 simp [uT,br,List.getElem?_zipIdx]
 cases l[i]?<;>simp
theorem zu:2<=bp:=by rw[cu];decide
theorem all2{p:ai->Prop}{a:ai}(h:p a)(h':p b):∀x∈[a,b],p x:=λx hx=>(aA.mp hx).elim (λq=>q▸h) (all1 h' x)
theorem DL{a x:ai}(h:x∉[a,b]):x≠a/\x≠b:=⟨λq=>h (q▸ah),GA λq=>h (ao _ q)⟩
theorem Td{a x:ai}(h1:x≠a)(h2:x≠b):x∉[a,b]:=λq=>(aA.mp q).elim h1 λq=>h2 (am.mp q)
structure Ho(W:Wd)(e it t:ai)(l:List V)(xs:List af)(i:Nat)(φ:List ai)(h:aB):Prop where
 h1:e∉φ
 h2:it∉φ
 held:yq W φ h t (qY xs)
 en:∃old,mj h e it i old
 it:h.IsTupleIter it t i
 rep:nf W φ h l xs
theorem Bw{e it:ai}{i:Int}{old:af}(x:mj h e it i old):A7 h e:=.of x rfl rfl (by decide)
theorem Gg(hh:A.handled=none){e it t:ai}{i:Nat}{old:af}{Qn:ag->Prop}{Qs:af->ag->Prop}(e1:mj s.heap e it i old)(hi:s.heap.IsTupleIter it t i)(ht:s.heap.IsTuple t items)(hx:items[i]?=none)(hq:∀h',(∀b o,b∉[e,it]->s.heap.get? b=some o->h'.get? b=some o)->Qn {s with heap:=h'}):an W.M A (eB (.ref e)) (λr TW=>match r with | none=>Qn TW | some y=>Qs y TW) E s:=by
 have hT:s.TypeIs (.ref e) "enumerate" := ⟨_,e1,rfl⟩;unfold eB
 refine ac (cN (bt (name:=bw "__next__") hT i4
  (a9 i4 hT F.entry_enumerate_next ?_ (F.args_enumerate_next_1 _))))
 show an _ _ (kR (.ref e) 2 >>= _) _ _ _;refine ac (a8 e1 rfl (x:=.ref it) rfl (ac (sG hh hi ht hx λh' x X1 XV=>?_)));refine mO XV λo ho hc=>?_;exact ac (fN (T:="StopIteration") (b:=true) ⟨o,ho,hc⟩ jm (al (hq _ λb o hb eb=>X1 b o (DL hb).2 eb)))
theorem JN(hh:A.handled=none){k:Nat}{t e it:ai}(he:W.base.get? e=none)(hit:W.base.get? it=none)(hei:e≠it)(Y5:t≠e)(WQ:t≠it):
  pI W A (.Tuple UQ k pos) (.items (uT l)) e [e,it] [e,it] (Ho W e it t l xs) where
 out:=by
  intro i φ h T;refine m4 T.en λold e1=>?_;exact all2 ((Bw e1).out T.h1 he) ((qz T.it).out T.h2 hit)
 sub:=λb hb=>hb
 keep:=by
  intro i φ TV X h h' T ev ap g hF;obtain ⟨h1,h2,h3,⟨old,e1⟩,hi,r⟩:=T;exact⟨g.notin e1 h1,(qz hi).notin g h2,h3.evo ev ap g xl,⟨old,ev.exact e1 (hF e ah) (λq=>absurd (ez q) (by decide))⟩,AS hi ev (hF it (ao _ ah)),r.evo ev ap g⟩
 next:=by
  intro i φ σ s v Qn Qs E T inv Ur hq;obtain ⟨h1,h2,⟨h3,n,e3⟩,⟨old,e1⟩,hi,r⟩:=T;refine mO (ms (yM.symm.trans (ae Ur))) λZv Xr hv=>?_;refine mO (r.get Xr) λy hy ry=>?_;have hf:=m9 s.heap;refine wpAny_pyNext_enum_itemD (Bv (A:=A.in1) hh it t WQ xs.toArray) e1 ⟨hi,_,e3,rfl,n,rfl⟩ (by rw[aY];exact nO hy) hei (λq=>(aA.mp q).elim hei λq=>Y5 (am.mp q).symm) λx h' tk hx ho hst hT hsz hk=>?_;rw[ae (((dY).symm.trans hx).symm.trans hy)] at hT;refine wpAny_letOwnedTupleGo_enum ho λUE X1 Um=>?_;refine mO (id hi) λo e2 Z=>?_;refine nE hst λVy Z=>?_;obtain ⟨o',e2',c',d'⟩:=Vy;have kp:∀b o,b∉[e,it]->s.heap.get? b=some o->UE.get? b=some o:=λb o hb eb=>(Um.2 b (DL hb).1).trans (hk b o (DL hb).1 (DL hb).2 eb);have XO:UE.get? it=some o':=(Um.2 it (eZ hei)).trans e2';have w:=Good.writes (t:=tk+1) inv (F:=[e,it]) (h':=UE) (all2 ⟨h1,he,.inr λo q=>(Bw e1).none q⟩ ⟨h2,hit,.inr λo q=>(qz hi).none q⟩) kp (all2 ⟨_,X1⟩ ⟨_,XO⟩);have WY:UE.get? s.heap.objs.size=some (qY [.int i tk,y] _):=(Um.2 _ (pv e1 hf).symm).trans hT;rw[<-hv] at hq;exact hq _ UE (tk+1) w.1 ⟨_,[.int i tk,y],_,rfl,inv.notin hf,zu,WY,.cons' ⟨tk,rfl⟩ (.one (ry.evo w.2.1 w.2.2 (.refl _ _)))⟩
   ⟨h1,h2,⟨h3,n,kp t _ (Td Y5 WQ) e3⟩,⟨_,X1⟩,⟨o',XO,c',d'⟩,r.evo w.2.1 w.2.2 (.refl _ _)⟩
 done:=by
  intro i φ σ s Qn Qs E T inv Ur hq;obtain ⟨h1,h2,⟨h3,n,e3⟩,⟨old,e1⟩,hi,r⟩:=T;have hn:l[i]?=none:=Option.map_eq_none_iff.mp (yM.symm.trans (ae Ur));exact Gg hh e1 hi ⟨_,e3,rfl,n,rfl⟩ (xj r hn) λh' hk=>hq h' s.toks hk
 self:=by
  intro i φ s Q E T hq;refine m4 T.en λold e1=>?_;exact kg e1 hq
end
section
variable {c:Cx}{s:ag}
theorem zM(h:aB)(j:Nat):h.get? (h.objs.size+j)=none:=by
 cases q:h.get? (h.objs.size+j) with
 |none=>rfl
 |some o=>exact absurd (aX q) (gN.mpr (aN _ _))
theorem Pc(hh:A.handled=none){k:Nat}{x:af}(i:Inv W φ σ s.heap)(r:mT W φ s.heap (.tup l) x)(h:nX W c A (.Tuple UQ k pos) φ s (.ok (.items (uT l)) σ) Q E):an W.M A (call (.type "enumerate") [x]) (λy TW=>an W.M A (fK y) Q E TW) E s:=by
 refine nk r λt xs n Uc ht hz e rl=>?_;subst Uc;have hf:=zM s.heap 0;have hf1:=zM s.heap 1;have f:=i.fresh hf;have f1:=i.fresh hf1;have hei:s.heap.objs.size+1≠s.heap.objs.size:=ku _
 have sr:∀W:Wd,W.base.get? s.heap.objs.size=none->W.base.get? (s.heap.objs.size+1)=none->pI W A (.Tuple UQ k pos) (.items (uT l)) (s.heap.objs.size+1) [s.heap.objs.size+1,s.heap.objs.size] [s.heap.objs.size+1,s.heap.objs.size] (Ho W (s.heap.objs.size+1) s.heap.objs.size t l xs):=
  λW h0 h1=>JN hh h1 h0 hei (pv e hf1) (pv e hf)
 refine wE ⟨_,e,rfl,n,rfl⟩ λh' he hi hsz hk=>kg he ?_;have g:Good W [] φ s σ φ {s with heap:=h'}:=Good.keeps i hk;refine h φ _ [] (s.heap.objs.size+1) [s.heap.objs.size+1,s.heap.objs.size] [s.heap.objs.size+1,s.heap.objs.size] (λW=>Ho W (s.heap.objs.size+1) s.heap.objs.size t l xs)
  g g.inv (λZ hb=>nomatch hb) (all2 hf1 hf) (λZ Z hb=>nomatch hb) ⟨sr W f.2 f1.2,λa=>sr (W.hide a) f.2 f1.2,λT ha k=>?_⟩ ⟨f1.1,f.1,⟨ht,n,hk _ _ e⟩,⟨_,he⟩,hi,g.repL rl⟩
 obtain ⟨h1,h2,h3,⟨old,e1⟩,⟨o,e2,r2⟩,r⟩:=T;exact⟨h1,h2,h3.moved ha k,⟨old,k _ _ e1⟩,⟨o,k _ _ e2,r2⟩,r.moved ha k⟩
end
section
variable {prog:bA}{w:cM}{A:aH}{E:af->ag->Prop}{s:ag}
theorem C1{z TO:ai}{k2:Nat}{xs ys:Array af}{x a b:af}(D:lE z TI TO i1 i2 l1 l2)(hz:gJ s.heap z TI TO .none)(Vb:cP s.heap TI (.ref i1) (.ref i2))(VK:cP s.heap TO a b)(h1:s.heap.IsListIter i1 l1 k1)(h2:s.heap.IsTupleIter i2 l2 k2)(hl1:s.heap.IsList l1 xs)(Wg:s.heap.IsTuple l2 ys)(hx:xs[k1]?=some x)(hy:ys[k2]?=some y)(hQ:∀h',gJ h' z TI TO (bH s.heap.objs.size)->cP h' TO x y->h'.IsListIter i1 l1 (k1+1)->h'.IsTupleIter i2 l2 (k2+1)->cP h' s.heap.objs.size x y->h'.objs.size=s.heap.objs.size+1->
   (∀c o,c≠z->c≠TO->c≠i1->c≠i2->s.heap.get? c=some o->h'.get? c=some o)->Q (.ref s.heap.objs.size) {s with heap:=h'}):
  an (aO prog w) A (b7.«zip.__next__» ⟨[.ref z],[]⟩) (λfin s'=>∃v,fin=.done (.ret v)/\Q v s') E s:=by
 refine (ac (a8 hz rfl (x:=.bool false) rfl ?_):an _ _ (kR (.ref z) 2 >>= _) _ _ _);refine (ac (a8 hz rfl (x:=.ref TI) rfl ?_):an _ _ (kR (.ref z) 3 >>= _) _ _ _);refine ac (cF Vb rfl ?_);refine (ac ?_:an _ _ (bZ (.ref z) >>= _) _ _ _);unfold bZ;refine ac (a8 hz rfl (x:=.none) rfl (al ?_));refine ac (fO ?_);refine ac (a8 hz rfl (x:=.ref TO) rfl ?_);refine ac (dK hz (by simp) λT1 hz₁ Un=>?_);replace hz₁:gJ T1 z TI TO .ellipsis:=hz₁;refine ac ?_;refine ac (ac (im ?_));show an _ _ (bI (.ref i1) >>= _) _ _ _;refine ac (wpAny_nextOf_list_item (h1.extBut Un.extBut D.i1z) (hl1.extBut Un.extBut D.l1z) hx λUh XM UL=>al ?_);have hTO₂:cP Uh TO a b:=UL.extBut _ _ D.TOi1 (Un.extBut _ _ D.TOz VK);refine ac (cF hTO₂ rfl ?_);refine ac (jq hTO₂ λUP hTO₃ UK=>?_);replace hTO₃:cP UP TO x b:=hTO₃;refine ac (wpAny_letGo (al ?_));refine ac (ac (im ?_));show an _ _ (bI (.ref i2) >>= _) _ _ _
 refine ac (r5 (((h2.extBut Un.extBut D.i2z).extBut UL.extBut D.i12.symm).extBut UK.extBut D.TOi2.symm)
  (((Wg.extBut Un.extBut D.l2z).extBut UL.extBut D.l2i1).extBut UK.extBut D.l2TO) hy λh₄ XK Vg=>al ?_)
 have hTO₄:cP h₄ TO x b:=Vg.extBut _ _ D.TOi2 hTO₃;refine ac (cF hTO₄ rfl ?_);refine ac (jq hTO₄ λUw hTO₅ UY=>?_);replace hTO₅:cP Uw TO x y:=hTO₅;refine ac (wpAny_letGo (al (al ?_)));refine ac (cF hTO₅ rfl ?_);refine ac (wpAny_newTuple ?_)
 have hsz:Uw.objs.size=s.heap.objs.size:=by rw[UY.1,Vg.1,UK.1,UL.1,Un.1]
 have hz₅:gJ Uw z TI TO .ellipsis:=UY.extBut _ _ D.TOz.symm (Vg.extBut _ _ D.i2z.symm (UK.extBut _ _ D.TOz.symm (UL.extBut _ _ D.i1z.symm hz₁)));have hk₅:∀c o,c≠z->c≠TO->c≠i1->c≠i2->s.heap.get? c=some o->Uw.get? c=some o:=λc o c1 c2 c3 c4 e=>
  UY.extBut _ _ c2 (Vg.extBut _ _ c4 (UK.extBut _ _ c2 (UL.extBut _ _ c3 (Un.extBut _ _ c1 e))))
 have h1₅:Uw.IsListIter i1 l1 (k1+1):=((XM.extBut UK.extBut D.TOi1.symm).extBut Vg.extBut D.i12).extBut UY.extBut D.TOi1.symm;have h2₅:Uw.IsTupleIter i2 l2 (k2+1):=XK.extBut UY.extBut D.TOi2.symm;have hzlt:z < Uw.objs.size:=aX hz₅;refine (ac ?_:an _ _ (eN (.ref z) (.ref Uw.objs.size) >>= _) _ _ _);unfold eN;have hz₆:gJ (Uw.push {cls:=.type "tuple",data:=.seq #[x,y]}) z TI TO .ellipsis:=aj _ hz₅;refine ac (dK hz₆ (by simp) λYg hz₇ VW=>?_);replace hz₇:gJ Yg z TI TO (bH Uw.objs.size):=hz₇;refine dK hz₇ (by simp) λVU hz₈ VV=>?_;replace hz₈:gJ VU z TI TO (bH Uw.objs.size):=hz₈;have up:∀c o,c≠z->Uw.get? c=some o->VU.get? c=some o:=λc o c1 e=>VV.extBut _ _ c1 (VW.extBut _ _ c1 (aj _ e));have hT₈:cP VU Uw.objs.size x y:=VV.extBut _ _ (dz hzlt) (VW.extBut _ _ (dz hzlt) (ax _ rfl))
 have hz8:VU.objs.size=Uw.objs.size+1:=by rw[VV.1,VW.1,bk]
 rw[hsz] at hz₈ hT₈ hz8;refine al ⟨_,rfl,?_⟩;show Q (.ref Uw.objs.size) _;rw[hsz];exact hQ VU hz₈ (up _ _ D.TOz hTO₅) (h1₅.at λo e=>up _ o D.i1z e) (let ⟨o,e,r⟩:=h2₅;⟨o,up _ o D.i2z e,r⟩) hT₈ hz8 λc o c1 c2 c3 c4 e=>up c o c1 (hk₅ c o c1 c2 c3 c4 e)
theorem Ew{z TO:ai}{xs:Array af}{a b:af}{Q:Fin->ag->Prop}(hh:A.handled=none)(Ws:i1≠z)(WW:l1≠z)(hz:gJ s.heap z TI TO .none)(Vb:cP s.heap TI (.ref i1) (.ref i2))(VK:cP s.heap TO a b)(h1:s.heap.IsListIter i1 l1 k1)(hl1:s.heap.IsList l1 xs)(hx:xs[k1]?=none)(hE:∀h' e,(∀c o,c≠z->c≠i1->s.heap.get? c=some o->h'.get? c=some o)->(∃o,h'.get? e=some o/\o.cls=.type "StopIteration")->E (.ref e) {s with heap:=h'}):
  an (aO prog w) A (b7.«zip.__next__» ⟨[.ref z],[]⟩) Q E s:=by
 refine (ac (a8 hz rfl (x:=.bool false) rfl ?_):an _ _ (kR (.ref z) 2 >>= _) _ _ _);refine (ac (a8 hz rfl (x:=.ref TI) rfl ?_):an _ _ (kR (.ref z) 3 >>= _) _ _ _);refine ac (cF Vb rfl ?_);refine (ac ?_:an _ _ (bZ (.ref z) >>= _) _ _ _);unfold bZ;refine ac (a8 hz rfl (x:=.none) rfl (al ?_));refine ac (fO ?_);refine ac (a8 hz rfl (x:=.ref TO) rfl ?_);refine ac (dK hz (by simp) λT1 hz₁ Un=>?_);replace hz₁:gJ T1 z TI TO .ellipsis:=hz₁;refine ac ?_;refine ac (ac (im ?_));show an _ _ (bI (.ref i1) >>= _) _ _ _;refine ac (wpAny_nextOf_list_end hh (h1.extBut Un.extBut Ws) (hl1.extBut Un.extBut WW) hx λUh e UL he=>?_);refine mO he λoe Yt Zc=>?_;have hz₂:gJ Uh z TI TO .ellipsis:=UL _ _ (eZ Ws) hz₁
 have hez:e≠z:=λx=>by subst x;rw[hz₂] at Yt;cases Yt;simp at Zc
 exact dK hz₂ (by simp) λUP Z UK=>hE UP e (λc o c1 c3 x=>UK.extBut _ _ c1 (UL _ _ c3 (Un.extBut _ _ c1 x))) ⟨oe,UK.extBut _ _ hez Yt,Zc⟩
theorem yD{z TO:ai}{k2:Nat}{xs ys:Array af}{x a b:af}{Q:Option af->ag->Prop}(D:lE z TI TO i1 i2 l1 l2)(hz:gJ s.heap z TI TO .none)(Vb:cP s.heap TI (.ref i1) (.ref i2))(VK:cP s.heap TO a b)(h1:s.heap.IsListIter i1 l1 k1)(h2:s.heap.IsTupleIter i2 l2 k2)(hl1:s.heap.IsList l1 xs)(Wg:s.heap.IsTuple l2 ys)(hx:xs[k1]?=some x)(hy:ys[k2]?=some y)(hQ:∀h',gJ h' z TI TO (bH s.heap.objs.size)->cP h' TO x y->h'.IsListIter i1 l1 (k1+1)->h'.IsTupleIter i2 l2 (k2+1)->cP h' s.heap.objs.size x y->h'.objs.size=s.heap.objs.size+1->
   (∀c o,c≠z->c≠TO->c≠i1->c≠i2->s.heap.get? c=some o->h'.get? c=some o)->Q (some (.ref s.heap.objs.size)) {s with heap:=h'}):
  an (aO prog w) A (eB (.ref z)) Q E s:=by
 have hT:s.TypeIs (.ref z) "zip" := ⟨_,hz,rfl⟩;unfold eB
 exact ac (cN (bt (name:=bw "__next__") hT fX
  (a9 fX hT kn
   (C1 D hz Vb VK h1 h2 hl1 Wg hx hy λh' a1 a2 a3 a4 a5 a6 a7=>al (hQ h' a1 a2 a3 a4 a5 a6 a7)) (jT _))))
theorem A0{z TO:ai}{xs:Array af}{a b:af}{Q:Option af->ag->Prop}(hh:A.handled=none)(Ws:i1≠z)(WW:l1≠z)(hz:gJ s.heap z TI TO .none)(Vb:cP s.heap TI (.ref i1) (.ref i2))(VK:cP s.heap TO a b)(h1:s.heap.IsListIter i1 l1 k1)(hl1:s.heap.IsList l1 xs)(hx:xs[k1]?=none)(hQ:∀h',(∀c o,c≠z->c≠i1->s.heap.get? c=some o->h'.get? c=some o)->Q none {s with heap:=h'}):an (aO prog w) A (eB (.ref z)) Q E s:=by
 have hT:s.TypeIs (.ref z) "zip" := ⟨_,hz,rfl⟩;unfold eB
 refine ac (cN (bt (name:=bw "__next__") hT fX
  (a9 fX hT kn (Ew hh Ws WW hz Vb VK h1 hl1 hx λh' e hk he=>?_) (jT _))))
 refine mO he λo ho hc=>?_;refine ac (fN (T:="StopIteration") (b:=true) ⟨o,ho,hc⟩ jm ?_);exact al (hQ _ hk)
noncomputable abbrev RS(h:aB)(l1:ai):aB:=h.push {cls:=.type "list_iterator",data:=.fields #[.ref l1,.int 0 0]}
noncomputable abbrev RT(h:aB)(l1 l2:ai):aB:=(RS h l1).push {cls:=.type "tuple_iterator",data:=.fields #[.ref l2,.int 0 0]}
noncomputable abbrev RU(h:aB)(l1 l2:ai):aB:=(RT h l1 l2).push {cls:=.type "tuple",data:=.seq #[.ref h.objs.size,.ref (RS h l1).objs.size]}
noncomputable abbrev RV(h:aB)(l1 l2:ai):aB:=(RU h l1 l2).push {cls:=.type "tuple",data:=.seq #[.none,.none]}
noncomputable abbrev Pz(h:aB)(l1 l2:ai):aB:=(RV h l1 l2).push {cls:=.type "zip",data:=.fields #[.none,.bool false,.bool false,.ref (RT h l1 l2).objs.size,.ref (RU h l1 l2).objs.size]}
theorem BZ(l1 l2:ai)(xs ys:Array af):
  Meets (b7.«zip.__new__» ⟨[.type "zip",.ref l1,.ref l2],[]⟩) (λZ R s=>s.heap.IsList l1 xs/\s.heap.IsTuple l2 ys/\
   R (.ok (.ret (.ref (RV s.heap l1 l2).objs.size))) {s with heap:=Pz s.heap l1 l2}):=
 .of_wp λprog w A R s h=>by
  obtain ⟨hp,g,d,tk,os⟩:=s;refine sH h λhl1 Wg h=>?_;have hsub:=sub_zip;have hL1:aB.IsList (kQ ⟨hp,g,d,tk,os⟩) l1 xs:=hl1;have XI:mh (kQ ⟨hp.push {cls:=.type "list_iterator",data:=.fields #[.ref l1,.int 0 0]},g,d,tk,os⟩) l2 ys:=mh.push Wg _
  wp_walk using wpAny_ctt,d7 hL1,fe XI
  exact⟨_,rfl,h⟩
theorem HF{xs ys:Array af}(hl1:s.heap.IsList l1 xs)(Wg:s.heap.IsTuple l2 ys)(h:∀h',gJ h' (s.heap.objs.size+4) (s.heap.objs.size+2) (s.heap.objs.size+3) .none->cP h' (s.heap.objs.size+2) (.ref s.heap.objs.size) (.ref (s.heap.objs.size+1))->
   cP h' (s.heap.objs.size+3) .none .none->h'.IsListIter s.heap.objs.size l1 0->h'.IsTupleIter (s.heap.objs.size+1) l2 0->h'.objs.size=s.heap.objs.size+5->
   (∀c o,s.heap.get? c=some o->h'.get? c=some o)->Q (.ref (s.heap.objs.size+4)) {s with heap:=h'}):
  an (aO prog w) A (call (.type "zip") [.ref l1,.ref l2]) Q E s:=by
 refine callType_new F.called_zip (by decide) (F.typeCall_zip_2 _ _) (F.newCall_zip_2 _ _) (λobj=>F.args_object_init_3 obj _ _) F.entry_zip_new
  (BZ l1 l2 xs ys) ⟨hl1,Wg,?_⟩
 have z1:(RS s.heap l1).objs.size=s.heap.objs.size+1:=bk ..
 have z2:(RT s.heap l1 l2).objs.size=s.heap.objs.size+2:=by rw[bk,z1]
 have z3:(RU s.heap l1 l2).objs.size=s.heap.objs.size+3:=by rw[bk,z2]
 have z4:(RV s.heap l1 l2).objs.size=s.heap.objs.size+4:=by rw[bk,z3]
 have z5:(Pz s.heap l1 l2).objs.size=s.heap.objs.size+5:=by rw[bk,z4]
 have g5:(Pz s.heap l1 l2).get? (RV s.heap l1 l2).objs.size=some _:=ax _ rfl;have g4:(Pz s.heap l1 l2).get? (RU s.heap l1 l2).objs.size=some _:=aj _ (ax _ rfl);have g3:(Pz s.heap l1 l2).get? (RT s.heap l1 l2).objs.size=some _:=aj _ (aj _ (ax _ rfl));have g2:(Pz s.heap l1 l2).get? (RS s.heap l1).objs.size=some _:=aj _ (aj _ (aj _ (ax _ rfl)));have g1:(Pz s.heap l1 l2).get? s.heap.objs.size=some _:=aj _ (aj _ (aj _ (aj _ (ax _ rfl))));show _/\_;rw[z2,z3,z4] at g5;rw[z1,z2] at g3;rw[z3] at g4;rw[z1] at g2;rw[z4]
 exact⟨⟨_,g5,rfl⟩,h _ g5 g3 g4 ⟨_,g1,rfl,rfl⟩ ⟨_,g2,rfl,rfl⟩ z5 λc o x=>
  aj _ (aj _ (aj _ (aj _ (aj _ x))))⟩
end
theorem Kk{r:List V}{i:Nat}{v:V}(h:(yE l r)[i]?=some v):∃a b,l[i]?=some a/\r[i]?=some b/\v=.tup [a,b]:=by
 unfold yE at h;rw[br] at h;refine mO (ms h) λp hp e=>?_;have hp:=List.getElem?_zip_eq_some.mp hp;exact⟨p.1,p.2,hp.1,hp.2,e.symm⟩
theorem Kj{r:List V}{i:Nat}(W5:l.length=r.length)(h:(yE l r)[i]?=none):l[i]?=none:=by
 rw[eI] at h ⊢;unfold yE at h;rw[aU,List.length_zip,W5,Nat.min_self] at h;rw[W5];exact h
theorem Kz{p:ai->Prop}{a c d:ai}(h1:p a)(h2:p b)(h3:p c)(h4:p d):∀x∈[a,b,c,d],p x:=λx hx=>(aA.mp hx).elim (λq=>q▸h1) λhx=>(aA.mp hx).elim (λq=>q▸h2) (all2 h3 h4 x)
theorem IQ{a c d x:ai}(h:x∉[a,b,c,d]):x≠a/\x≠b/\x≠c/\x≠d:=
 ⟨λq=>h (q▸ah),λq=>h (q▸ao _ ah),DL λq=>h (ao _ (ao _ q))⟩
theorem SA{a c d x:ai}(h1:x≠a)(h2:x≠b)(h3:x≠c)(h4:x≠d):x∉[a,b,c,d]:=λq=>(aA.mp q).elim h1 λq=>(aA.mp q).elim h2 λq=>Td h3 h4 q
section
variable {W:Wd}{A:aH}{E:af->ag->Prop}{s:ag}{φ:List ai}{σ:St}
structure Hs(W:Wd)(z TI TO i1 i2 l1 l2:ai)(xs ys:List af)(l r:List V)(i:Nat)(φ:List ai)(h:aB):Prop where
 h1:z∉φ
 h2:TO∉φ
 h3:i1∉φ
 h4:i2∉φ
 m1:yq W φ h l1 (pF xs)
 m2:yq W φ h l2 (qY ys)
 tI:TI∉φ/\TI∉W.hid
 e1:gJ h z TI TO .none
 e2:cP h TI (.ref i1) (.ref i2)
 e3:∃a b,cP h TO a b
 i1:h.IsListIter i1 l1 i
 i2:h.IsTupleIter i2 l2 i
 r1:nf W φ h l xs
 r2:nf W φ h r ys
theorem FY{z TO:ai}{f:af}(x:gJ h z TI TO f):A7 h z:=.of x rfl rfl (by decide)
theorem D3{t:ai}(x:∃a b,cP h t a b):∃o,h.get? t=some o/\o.cls≠.type "frame" := by
 refine xK x λa b e=>?_;exact⟨_,e,λq=>absurd (ez q) (by decide)⟩
theorem Cw{t:ai}{a b:af}(x:cP h t a b)(ev:qZ X h h')(hX:t∉X):cP h' t a b:=ev.exact x hX λq=>absurd (ez q) (by decide)
theorem LU(hh:A.handled=none){k:Nat}{r:List V}{z TO:ai}(D:lE z TI TO i1 i2 l1 l2)(VK:TO∈W.hid)(W5:l.length=r.length)(bz:W.base.get? z=none)(Zn:W.base.get? TO=none)(b1:W.base.get? i1=none)(b2:W.base.get? i2=none):
  pI W A (.Tuple UQ k pos) (.items (yE l r)) z [z,TO,i1,i2] [z,i1] (Hs W z TI TO i1 i2 l1 l2 xs ys l r) where
 out:=by
  intro i φ h T;refine mO (D3 T.e3) λo e c=>?_;exact Kz ((FY T.e1).out T.h1 bz) ⟨T.h2,Zn,o,e,c,.inl VK⟩ ((pU T.i1).out T.h3 b1) ((qz T.i2).out T.h4 b2)
 sub:=all2 ah (ao _ (ao _ ah))
 keep:=by
  intro i φ TV X h h' T ev ap g hF;obtain ⟨h1,h2,h3,h4,m1,m2,Vb,e1,e2,⟨a,b,e3⟩,q1,q2,r1,r2⟩:=T
  exact⟨g.notin e1 h1,g.notin e3 h2,(pU q1).notin g h3,(qz q2).notin g h4,m1.evo ev ap g Bz,m2.evo ev ap g xl,⟨g.notin e2 Vb.1,Vb.2⟩,
   ev.exact e1 (hF z ah) (λq=>absurd (ez q) (by decide)),Cw e2 ev (ap.seq Vb e2 ⟨_,_,rfl⟩),⟨a,b,Cw e3 ev (hF TO (ao _ ah))⟩,
   zY q1 ev (hF i1 (ao _ (ao _ ah))),AS q2 ev (hF i2 (ao _ (ao _ (ao _ ah)))),r1.evo ev ap g,r2.evo ev ap g⟩
 next:=by
  intro i φ σ s v Qn Qs E T inv Ur hq;obtain ⟨h1,h2,h3,h4,⟨m1,n1,g1⟩,⟨m2,n2,g2⟩,Vb,e1,e2,⟨a,b,e3⟩,q1,q2,r1,r2⟩:=T;refine mU (Kk (ae Ur)) λva vb ha hb hv=>?_;refine mO (r1.get ha) λx hx rx=>?_;refine mO (r2.get hb) λy hy ry=>?_;have hf:=m9 s.heap;refine yD D e1 e2 e3 q1 q2 ⟨_,g1,rfl,n1,rfl⟩ ⟨_,g2,rfl,n2,rfl⟩ (Kt hx) (Kt hy) λh' a1 a2 a3 a4 a5 a6 hk=>wpAny_letOwnedTupleGo_zip a1 λUE Y3 Um=>?_;have up:∀{c:ai} {o:eT},c≠z->h'.get? c=some o->UE.get? c=some o:=λhc e=>(Um.2 _ hc).trans e;have kp:∀b o,b∉[z,TO,i1,i2]->s.heap.get? b=some o->UE.get? b=some o:=λb o hb eb=>up (IQ hb).1 (hk b o (IQ hb).1 (IQ hb).2.1 (IQ hb).2.2.1 (IQ hb).2.2.2 eb)
  have Zq:UE.IsListIter i1 l1 (i+1):=by refine mO a3 λo f q=>?_;exact⟨o,up D.i1z f,q⟩
  have Zp:UE.IsTupleIter i2 l2 (i+1):=by refine mO a4 λo f q=>?_;exact⟨o,up D.i2z f,q⟩
  have w:=Good.writes (t:=s.toks) inv (F:=[z,TO,i1,i2]) (h':=UE) (Kz ⟨h1,bz,.inr λo q=>(FY e1).none q⟩ ⟨h2,Zn,.inl VK⟩ ⟨h3,b1,.inr λo q=>(pU q1).none q⟩ ⟨h4,b2,.inr λo q=>(qz q2).none q⟩)
   kp (Kz ⟨_,Y3⟩ ⟨_,up D.TOz a2⟩ (pU Zq).there (qz Zp).there)
  have WY:UE.get? s.heap.objs.size=some (qY [x,y] _):=up (pv e1 hf).symm a5;rw[hv] at hq;exact hq _ UE s.toks w.1 ⟨_,[x,y],_,rfl,inv.notin hf,zu,WY,.cons' (rx.evo w.2.1 w.2.2 (.refl _ _)) (.one (ry.evo w.2.1 w.2.2 (.refl _ _)))⟩
   ⟨h1,h2,h3,h4,⟨m1,n1,kp l1 _ (SA D.l1z D.l1TO D.l1i1 D.l1i2) g1⟩,⟨m2,n2,kp l2 _ (SA D.l2z D.l2TO D.l2i1 D.l2i2) g2⟩,Vb,Y3,kp TI _ (SA D.TIz D.TITO D.TIi1 D.TIi2) e2,⟨x,y,up D.TOz a2⟩,Zq,Zp,r1.evo w.2.1 w.2.2 (.refl _ _),r2.evo w.2.1 w.2.2 (.refl _ _)⟩
 done:=by
  intro i φ σ s Qn Qs E T inv Ur hq;obtain ⟨h1,h2,h3,h4,⟨m1,n1,g1⟩,⟨m2,n2,g2⟩,Vb,e1,e2,⟨a,b,e3⟩,q1,q2,r1,r2⟩:=T;exact A0 hh D.i1z D.l1z e1 e2 e3 q1 ⟨_,g1,rfl,n1,rfl⟩ (xj r1 (Kj W5 (ae Ur))) λh' he=>hq h' s.toks λb o hb eb=>he b o (DL hb).1 (DL hb).2 eb
 self:=λT hq=>kN T.e1 hq
end
section
variable {c:Cx}{s:ag}
theorem Ha{z TO a:ai}{r:List V}(T:Hs W z TI TO i1 i2 l1 l2 xs ys l r 0 φ h)(ha:h.get? a=none)(k:∀b o,h.get? b=some o->h'.get? b=some o):Hs (W.hide a) z TI TO i1 i2 l1 l2 xs ys l r 0 φ h':=by
 obtain ⟨h1,h2,h3,h4,m1,m2,Vb,e1,e2,⟨x,y,e3⟩,⟨o1,f1,d1⟩,⟨o2,f2,d2⟩,r1,r2⟩:=T;exact⟨h1,h2,h3,h4,m1.moved ha k,m2.moved ha k,⟨Vb.1,xF Vb.2 e2 ha⟩,k _ _ e1,k _ _ e2,⟨x,y,k _ _ e3⟩,⟨o1,k _ _ f1,d1⟩,⟨o2,k _ _ f2,d2⟩,r1.moved ha k,r2.moved ha k⟩
theorem RE(hh:A.handled=none){k:Nat}{r:List V}{x:af}(i:Inv W φ σ s.heap)(rx:mT W φ s.heap (.lst l) x)(ry:mT W φ s.heap (.tup r) y)(W5:l.length=r.length)(h:nX W c A (.Tuple UQ k pos) φ s (.ok (.items (yE l r)) σ) Q E):an W.M A (call (.type "zip") [x,y]) (λy TW=>an W.M A (fK y) Q E TW) E s:=by
 refine nk rx λl1 xs n1 Uc hl1 hz1 g1 r1=>?_;subst Uc;refine nk ry λl2 ys n2 Uc Wg hz2 g2 r2=>?_;subst Uc;have hfr:=zM s.heap;have fr:∀j,s.heap.objs.size+j∉φ/\W.base.get? (s.heap.objs.size+j)=none:=λj=>i.fresh (hfr j)
 have D:lE (s.heap.objs.size+4) (s.heap.objs.size+2) (s.heap.objs.size+3) (s.heap.objs.size+0) (s.heap.objs.size+1) l1 l2:=by
  constructor<;>first | exact pv g1 (hfr _) | exact pv g2 (hfr _) | (intro q;exact absurd (eQ q) (by decide))
 have sr:∀W:Wd,s.heap.objs.size+3∈W.hid->(∀j,W.base.get? (s.heap.objs.size+j)=none)->pI W A (.Tuple UQ k pos) (.items (yE l r)) (s.heap.objs.size+4) [s.heap.objs.size+4,s.heap.objs.size+3,s.heap.objs.size+0,s.heap.objs.size+1] [s.heap.objs.size+4,s.heap.objs.size+0]
   (Hs W (s.heap.objs.size+4) (s.heap.objs.size+2) (s.heap.objs.size+3) (s.heap.objs.size+0) (s.heap.objs.size+1) l1 l2 xs ys l r):=λW h0 h1=>LU hh D h0 W5 (h1 4) (h1 3) (h1 0) (h1 1)
 refine HF ⟨_,g1,rfl,n1,rfl⟩ ⟨_,g2,rfl,n2,rfl⟩ λh' hz Vb VK Z2 ZZ hsz hk=>kN hz ?_;have g:Good W [] φ s σ φ {s with heap:=h'}:=Good.keeps i hk;have out:∀{t o},t∉W.hid->t≠s.heap.objs.size+3->(W.hides [s.heap.objs.size+3]).hid=o->t∉(W.hides [s.heap.objs.size+3]).hid:=λh1 h2 Z hm=>(aA.mp hm).elim h2 h1;exact h φ _ [s.heap.objs.size+3] (s.heap.objs.size+4) [s.heap.objs.size+4,s.heap.objs.size+3,s.heap.objs.size+0,s.heap.objs.size+1] [s.heap.objs.size+4,s.heap.objs.size+0]
  (λW=>Hs W (s.heap.objs.size+4) (s.heap.objs.size+2) (s.heap.objs.size+3) (s.heap.objs.size+0) (s.heap.objs.size+1) l1 l2 xs ys l r)
  g (i.hide (hfr 3) hk ⟨_,VK⟩) (all1 (hfr 3)) (Kz (hfr _) (hfr _) (hfr _) (hfr _)) (all2 (λq=>absurd (eQ (am.mp q)) (by decide)) λq=>absurd (eQ (am.mp q)) (by decide))
  ⟨sr _ ah λj=>(fr j).2,λa=>sr _ (ao _ ah) λj=>(fr j).2,Ha⟩
  ⟨(fr 4).1,(fr 3).1,(fr 0).1,(fr 1).1,⟨⟨hl1.1,out hl1.2 (pv g1 (hfr 3)) rfl⟩,n1,hk _ _ g1⟩,⟨⟨Wg.1,out Wg.2 (pv g2 (hfr 3)) rfl⟩,n2,hk _ _ g2⟩,⟨(fr 2).1,out (i.notin (hfr 2)).2 (λq=>absurd (eQ q) (by decide)) rfl⟩,hz,Vb,⟨_,_,VK⟩,Z2,ZZ,r1.moved (hfr 3) hk,r2.moved (hfr 3) hk⟩
end
def wh(P:Pg)(W:Wd)(c:Cx)(q:Bool)(A:aH)(C:Call)(target:aa)(e:MX)(x:aa):Prop:=∀⦃ρ:mQ⦄ ⦃φ:List ai⦄ ⦃σ:St⦄ ⦃s:ag⦄ ⦃Q:af->ag->Prop⦄ ⦃E:af->ag->Prop⦄,
 ng W c ρ φ σ s->nX W c A target φ s (dI P q C e ρ σ) Q E->an W.M A (eval x c.env) (λy TW=>an W.M A (fK y) Q E TW) E s
theorem D7(n:Int):AC n=(aM n.toNat).map λ(i:Nat)=>V.int (0+1 * i):=by
 unfold AC;refine db λi Z=>?_;rw[Int.one_mul,Int.zero_add]
theorem AA(n:Int):wa n=(aM (n+1).toNat).map λ(i:Nat)=>V.int (n+(-1) * i):=by
 unfold wa;refine db λi Z=>?_;rw[Int.neg_mul,Int.one_mul,Int.sub_eq_add_neg]
section
variable {P:Pg}{c:Cx}{q:Bool}{C:Bool->Call}{s:ag}
theorem Pf(hh:A.handled=none){v:V}(i:Inv W φ σ s.heap)(rv:mT W φ s.heap v y)(h:nX W c A target φ s (xp v σ) Q E):an W.M A (fK y) Q E s:=by
 cases v with
 |tup l=>exact CW hh i rv h
 |lst l=>exact Ek hh i rv h
 |obj n=>
  refine mO (nX.opt h) λl hl h=>?_;exact El hh i (listAt_eq hl) rv h
 |_=>exact h.elim
theorem K8(hh:A.handled=none){x:aa}(hp:∀ρ σ,dI P q (C q) e ρ σ=(dE P q (C q) e ρ σ).bind xp)(a:nc P W c q A (C q) e x):wh P W c q A (C q) target e x:=by
 intro ρ φ σ s Q E H h;rw[hp] at h;exact a H (nX.ofV h λv σ' TV y s' Z g rv hk=>Pf hh g.inv rv hk)
theorem AB{n:Int}(h:0<=n):cG 0 n 1=(n.toNat:Int):=by
 rw[rangeSize_one];split<;>omega
theorem rangeSize_down{n:Int}(h:-1<=n):cG n (-1) (-1)=((n+1).toNat:Int):=by
 have h0:(0:Int)<=n+1:=fQ h 1;rw[bV h0];unfold cG;rw[if_neg (by decide)]
 split
 .rw[show -(-1:Int)=1 from rfl,Int.ediv_one,Int.sub_add_cancel];rfl
 .rename_i q;rw[<-Int.le_antisymm h (ly.mp q)];rfl
theorem small_down{n:Int}(h:-1<=n)(h2:n<=100000):eM n (-1) (-1)=true:=by
 unfold eM;have h0:(0:Int)<=n+1:=fQ h 1;rw[rangeSize_down h,bV h0];simp only[lk,bO,iS,decide_eq_true_eq,beq_iff_eq,show ¬(-1:Int) > 0 by decide,if_false];exact⟨⟨⟨⟨QH (bP (by decide) h) (bP h2 (by decide)),by decide⟩,by decide⟩,QH (bP (by decide) h0) (bP (fQ h2 1) (by decide))⟩,.inr (by decide)⟩
theorem JM{n:Int}(h:0<=n/\n<=ni):eM 0 n 1=true:=by
 have h2:n<=100000:=h.2;exact small_one (by decide) (by decide) (by omega) (by omega)
theorem wS{n:Int}(r:nf W φ h l ys)(e:(hd l).bind nI=some n):∃t zs,ys=.int n t::zs/\nf W φ h (tl l) zs:=by
 refine mO (bs e) λv e1 e2=>?_;rw[s6 e1,nS e2] at r;refine mU r λy zs e Xa r=>?_;obtain ⟨t,e'⟩:=Xa;exact⟨t,zs,e.trans (congrArg (·::zs) e'),r⟩
theorem Mg(hh:A.handled=none)(i:Inv W φ σ s.heap)(rl:nf W φ s.heap l ys)(h:nX W c A target φ s (xZ l σ) Q E):an W.M A (call (.type "range") ys) (λy TW=>an W.M A (fK y) Q E TW) E s:=by
 unfold xZ at h
 cases e0:sP (tl l) with
 |some u=>
  rw[e0] at h;refine mO (nX.opt h) λn e1 h=>?_;refine nr (wS rl e1) λt zs f1 rz=>?_;rw[rj e0] at rz;rw[f1,show zs=[] from rz];have hn:=h.gd.1;have h:=h.gd.2;have g1:Good W [] φ s σ φ {s with heap:=s.heap.push {cls:=.type "range",data:=.fields #[.int 0 s.toks,.int n t,.int 1 (s.toks+1)]},toks:=s.toks+1+1}:=(Good.push i _).trans (Good.tok (Good.push (own:=[]) i _).inv);rw[D7] at h;exact call_range_1 (wz (c:=c) (target:=target) hh g1.inv (mE ..) (JM hn) (AB hn.1) (nX.step g1 h))
 |none=>
  rw[e0] at h;refine mO (nX.opt h) λa e1 h=>?_;refine mO (nX.opt h) λb e2 h=>?_;refine mO (nX.opt h) λk e3 h=>?_;refine mO (nX.opt h) λu e4 h=>?_;refine nr (wS rl e1) λt z1 f1 r1=>?_;refine nr (wS r1 e2) λt2 z2 f2 r2=>?_;refine nr (wS r2 e3) λt3 z3 f3 r3=>?_;rw[rj e4] at r3;rw[f1,f2,f3,show z3=[] from r3];refine DM h.gd.1 λhb hc Y8 XY=>?_;rw[hb,hc];have h:=h.gd.2;have g1:Good W [] φ s σ φ {s with heap:=s.heap.push {cls:=.type "range",data:=.fields #[.int a t,.int (-1) t2,.int (-1) t3]},toks:=s.toks}:=Good.push i _;rw[AA] at h;exact call_range_3 (by decide) (wz (c:=c) (target:=target) hh g1.inv (mE ..) (small_down Y8 XY) (rangeSize_down Y8) (nX.step g1 h)) (Or.inl (PyProof.noPylong_small (by decide)))
theorem QI(hh:A.handled=none)(gl:oR G W mg mb){xs:List aa}{p:b8}(hc:nN c.ck "range" = true)(hs:xs.all nj=true)(a:nV P W c q A (C q) es xs):wh P W c q A (C q) target (.rng es) (.Call (.Name "range" p) xs [] pos):=by
 intro ρ φ σ s Q E H h;refine cB (rH gl (x:="range") (by decide) boot_range hc H ?_);rw[oM _ _ hs];exact pD (first:=[]) (uE a H (nX.ofV h λl σ' TV ys s' Z g rl hk=>Mg hh g.inv rl hk))
theorem N7(hh:A.handled=none)(gl:oR G W mg mb){x:aa}{p:b8}{k:Nat}{WM:b8}(hc:nN c.ck "enumerate" = true)(hs:nj x=true)(a:nc P W c q A (C q) e x):wh P W c q A (C q) (.Tuple UQ k WM) (.enum e) (.Call (.Name "enumerate" p) [x] [] pos):=by
 intro ρ φ σ s Q E H h;refine cB (rH gl (x:="enumerate") (by decide) boot_enumerate hc H ?_);rw[oM _ _ (show [x].all nj=true from bj.mpr ⟨hs,rfl⟩)];refine pD (first:=[]) (spliced_cons (a H (nX.ofV h λv σ' TV y s' Z g rv hk=>spliced_nil ?_)));show an W.M A (call (.type "enumerate") [y]) _ E s'
 cases e:pQ v with
 |none=>rw[e] at hk;exact hk.elim
 |some l=>
  rw[e] at hk;rw[oy e] at rv;exact Pc hh g.inv rv hk
theorem QJ(hh:A.handled=none)(gl:oR G W mg mb){p:b8}{k:Nat}{WM:b8}(hc:nN c.ck "zip" = true)(hs:nj Ui=true)(Xu:nj Ue=true)(a:nc P W c q A (C q) Uq Ui)(b:nc P W c q A (C q) Uo Ue):wh P W c q A (C q) (.Tuple UQ k WM) (.zip Uq Uo) (.Call (.Name "zip" p) [Ui,Ue] [] pos):=by
 intro ρ φ σ s Q E H h;refine cB (rH gl (x:="zip") (by decide) boot_zip hc H ?_);rw[oM _ _ (show [Ui,Ue].all nj=true from bj.mpr ⟨hs,bj.mpr ⟨Xu,rfl⟩⟩)];refine pD (first:=[]) (spliced_cons (a H (nX.ofV h λv σ' TV y s' Z g rv hk=>?_)));refine spliced_cons (b (H.good g) (nX.ofV hk λWk Ul Uf WJ T2 Z Ug Wy U7=>spliced_nil ?_));show an W.M A (call (.type "zip") [y,WJ]) _ E T2;refine mO (nX.opt U7) λl e1 U7=>?_;refine mO (nX.opt U7) λr e2 U7=>?_;rw[u3 e1] at rv;rw[oy e2] at Wy;exact RE hh Ug.inv (Ug.rep rv) Wy U7.gd.1 U7.gd.2
end
def pe(P:Pg)(W:Wd)(c:Cx)(q:Bool)(A:aH)(C:Bool->Call)(b:MS)(st:Stmt):Prop:=∀⦃ρ:mQ⦄ ⦃φ:List ai⦄ ⦃σ:St⦄ ⦃s:ag⦄ ⦃Q:fF->ag->Prop⦄ ⦃E:af->ag->Prop⦄,
 ng W c ρ φ σ s->mW W c (ownOf c.env) φ s (dS P C q b ρ σ) Q E->an W.M A (exec st c.env) Q E s
theorem Inv.nobase(i:Inv W φ σ h){a:ai}(ha:h.get? a=none):W.base.get? a=none:=tZ i.base ha
noncomputable def wq:aa->Bool
 |.Set _ _ _=>false
 |_=>true
theorem vN{e:aa}:wq e=true->∀(env:d9) (x:af),j9 e env x=pure x:=by
 cases e<;>first | exact λZ Z Z=>rfl | exact mP
section
variable {c:Cx}{s:ag}{ρ':mQ}{q:Bool}{P:Pg}{C:Bool->Call}
theorem OT:rJ P W c q A C .skip []:=by
 intro ρ φ σ s Q E H h;exact dN (h _ _ _ (.refl H.inv) rfl H)
theorem Rk{a b:MS}{st:Stmt}{rest:List Stmt}(x:pe P W c q A C a st)(y:rJ P W c q A C b rest):rJ P W c q A C (.seq a b) (st::rest):=by
 intro ρ φ σ s Q E H h;refine kJ (x H (mW.bindX h (.refl H.inv) (λp σ' T9 f TW g₁ Z rf H₁ hk=>?_) λρ' σ' TV e s' g x H he=>he s' g x H));obtain ⟨fl,T3⟩:=p
 cases fl with
 |next=>rw[show f=.next from rf];exact y H₁ (mW.step g₁ hk)
 |ret v=>refine mO rf λz e rz=>?_;rw[e];exact hk T9 _ TW g₁ ⟨z,rfl,rz⟩ H₁
theorem nA.hides{env:d9}(x:nA W env vars ρ φ h)(ha:∀a∈ws,h.get? a=none):nA (W.hides ws) env vars ρ φ h:=by
 induction ws with
 |nil=>exact x
 |cons a ws ih=>exact (ih λb hb=>ha b (ao _ hb)).hide (ha a ah)
theorem nA.bares{env:d9}(x:nA (W.hides ws) env vars ρ φ h):nA W env vars ρ φ h:=by
 induction ws with
 |nil=>exact x
 |cons a ws ih=>exact ih (nA.bare (W:=W.hides ws) x)
theorem mT.bares{v:V}(x:mT (W.hides ws) φ h v y):mT W φ h v y:=by
 induction ws with
 |nil=>exact x
 |cons a ws ih=>exact ih (mT.bare (W:=W.hides ws) x)
theorem Inv.bares(x:Inv (W.hides ws) φ σ h):Inv W φ σ h:=by
 induction ws with
 |nil=>exact x
 |cons a ws ih=>exact ih (Inv.bare (W:=W.hides ws) x)
theorem tg.same(e:W'.base=W.base){l:List d9}:tg W φ h l->tg W' φ h l:=tg.map λL Z hn hb a=>⟨hn,by rw[e];exact hb,a⟩
theorem Good.to(g:Good W own φ s σ' TV s')(i:Inv W' TV σ' s'.heap):Good W' own φ s σ' TV s':=⟨g.grows,g.evo,i,g.gens,g.os⟩
theorem Good.bares(g:Good (W.hides ws) own φ s σ' TV s'):Good W own φ s σ' TV s':=g.to g.inv.bares
theorem ng.bares(H:ng (W.hides ws) c ρ φ σ s):ng W c ρ φ σ s:=⟨H.inv.bares,H.ok.bares,tg.same (W:=W.hides ws) (W':=W) rfl H.frs,H.sep⟩
theorem ng.hides(H:ng W c ρ φ σ s)(g:Good W [] φ s σ' TV s')(ha:∀a∈ws,s.heap.get? a=none)(i:Inv (W.hides ws) TV σ' s'.heap):ng (W.hides ws) c ρ TV σ' s':=
 ⟨i,(H.ok.hides ha).good (g.to i),tg.same (W:=W) (W':=W.hides ws) rfl (H.good g).frs,H.sep⟩
theorem oo.same(e:W'.exc=W.exc){e':ai}(x:oo W TY fl e' h):oo W' TY fl e' h:=by
 refine m4 x λd x=>?_;exact⟨d,x.h0,x.he,x.hc.trans (by rw[e]),x.hd,x.v0,x.v1,x.ne,x.t0,x.hT,x.dT,x.t3⟩
theorem oO.same(e:W'.exc=W.exc){own:Option ai}{e':ai}(x:oO W TY own e' h):oO W' TY own e' h:=by
 rcases x with x | ⟨fl,x,y⟩
 .exact .inl ⟨x.h0,by rw[e];exact x.ex⟩
 .exact .inr ⟨fl,x.same e,y⟩
theorem s4.bares{f:Fl}{fl:fF}(x:s4 (W.hides ws) φ h f fl):s4 W φ h f fl:=by
 cases f with
 |next=>exact x
 |ret v=>refine mO x λy e r=>?_;exact⟨y,e,r.bares⟩
theorem mW.hides{r:R mQ (Fl×mQ)}{Q:fF->ag->Prop}(h:mW W c own φ s r Q E):mW (W.hides ws) c own φ s r Q E:=by
 cases r with
 |ok p σ'=>exact λTV f s' g r H=>h TV f s' g.bares r.bares H.bares
 |exc ρ' σ'=>exact λTV e s' g x H=>h TV e s' g.bares (oO.same (W:=W.hides ws) (W':=W) rfl x) H.bares
 |bad=>exact h
theorem sf.hides{D:List ai}(H:ng W c ρ φ σ s)(hn:∀b∈F,s.heap.get? b=none)(hD:∀b∈D,b∈F)(hDw:∀b∈D,b∉ws):sf (W.hides ws) c F D s.heap:=by
 have a:sf W c F D s.heap:=.of H hn hD;exact⟨a.new,λb hb hm=>(aG.mp hm).elim (hDw b hb) (a.hid b hb),a.notOwn,a.notFrs,a.base⟩
theorem mW.ofI{r:R Unit It}{k:It->St->R mQ (Fl×mQ)}{Q:fF->ag->Prop}{Q₁:af->ag->Prop}(H:ng W c ρ φ σ s)(h:mW W c own φ s ((r.lift ρ).bind k) Q E)(hk:∀it σ' TV s' ws I F D T,Good W [] φ s σ' TV s'->Inv (W.hides ws) TV σ' s'.heap->(∀b∈ws,s.heap.get? b=none)->(∀b∈F,s.heap.get? b=none)->(∀b∈D,b∉ws)->
   S6 (W.hides ws) A target it I F D T->T (W.hides ws) 0 TV s'.heap->mW W c own φ s (k it σ') Q E->Q₁ (.ref I) s'):nX W c A target φ s r Q₁ E:=by
 cases r with
 |ok it σ'=>exact λTV s' ws I F D T g i a b e x t=>hk it σ' TV s' ws I F D T g i a b e x t h
 |exc u σ'=>exact λTV e s' g x=>h TV e s' g.up x (H.good g)
 |bad=>exact h
theorem Ri{t it:MX}{b:MS}{iter:aa}(ar:oN A c q d)(hn:wq iter=true)(hc:zE c.vars t target=true)(hi:q=false->wh P W c q A (C q) target it iter)(hb:∀ws:List ai,(∀a∈ws,W.base.get? a=none)->rJ P (W.hides ws) c q A C b body):pe P W c q A C (.for t it b) (.For target iter body [] pos):=by
 intro ρ φ σ s Q E H h;have hq:=h.gd.1;have h:=h.gd.2;subst hq;refine wpAny_For (hi rfl H (mW.ofI H h λU0 T5 T9 TW ws I F D T g₁ VS Xp hF hD T8 VN hk=>?_)) λx=>vN hn _ x;exact G2 (W:=W.hides ws) (ar.handled rfl) ar hc (hb ws λa ha=>H.inv.nobase (Xp a ha)) T8.ok (sf.hides H hF T8.ok.sub hD) (g₁.up.to VS) (H.hides g₁ Xp VS) VN (mW.hides hk)
end
noncomputable def Ae(x:aa):Bool:=av (motive_1:=λZ=>Bool) x (λZ Z Z=>true) (λZ Z Z=>true) (λZ Z Z Z=>true) (λZ Z Z=>true) (λZ Z Z Z=>true) (λZ Z Z Z=>true) (λZ Z Z=>true) (λZ Z Z=>true) (λZ Z Z Z=>false) (λZ Z Z Z=>false) (λZ Z Z Z Z=>false) (λZ Z Z Z=>true) (λZ Z=>true) (λZ Z=>true) (λZ Z=>true) (λZ Z Z Z=>true) (λZ Z Z Z=>true) (λZ Z Z Z=>true) (λZ Z=>true) (λZ Z Z=>true) (λZ Z Z=>true) (λZ Z Z=>true) (λZ Z=>true) (λZ Z=>true) (λZ Z=>true) (λZ Z Z=>true) (λZ Z Z Z=>true)
theorem ye{e:aa}:Ae e=true->∀(t:Option aa) (l:Nat) (env:d9),dU e t l env=pure false:=by
 cases e<;>first | exact λZ Z Z Z=>rfl | exact mP
section
variable {c:Cx}{s:ag}{ρ':mQ}{Q:fF->ag->Prop}{q:Bool}{P:Pg}{C:Bool->Call}
theorem mS.ofS{r:R Unit α}{k:α->St->R mQ (Fl×mQ)}{rep:List ai->aB->α->β->Prop}(H:ng W c ρ φ σ s)(h:mW W c own φ s ((r.lift ρ).bind k) Q E)(hk:∀v σ' TV y s',r=.ok v σ'->Good W [] φ s σ' TV s'->rep TV s'.heap v y->ng W c ρ TV σ' s'->mW W c own TV s' (k v σ') Q E->Q₁ y s'):mS W c φ s r rep Q₁ E:=mW.ofV H h hk
theorem Rj{x:aa}(a:nc P W c q A (C q) e x):pe P W c q A C (.ret e) (.Return (some x) pos):=by
 intro ρ φ σ s Q E H h;refine wpAny_Return_some (a H (mS.ofS H h λv σ' TV y s' Z g rv H' hk=>?_));exact hk TV _ s' (.refl g.inv) ⟨y,rfl,rv⟩ H'
theorem GQ:pe P W c q A C (.ret (.lit .none)) (.Return none pos):=by
 intro ρ φ σ s Q E H h;exact wpAny_Return_none (h φ _ s (.refl H.inv) ⟨_,rfl,rfl⟩ H)
theorem OS:pe P W c q A C .skip (.Pass pos):=by
 intro ρ φ σ s Q E H h;exact wpAny_Pass (h φ _ s (.refl H.inv) rfl H)
theorem tJ{env:d9}(h:env.scope.kind=.function):interactive env=false:=by
 unfold interactive;rw[h];rfl
theorem OQ{x:aa}(hn:Ae x=true)(a:nc P W c q A (C q) e x):pe P W c q A C (.expr e) (.Expr x pos):=by
 intro ρ φ σ s Q E H h;refine wpAny_Expr_any (a H (mS.ofS H h λv σ' TV y s' Z g rv H' hk=>?_)) (tJ H.ok.kind) (ye hn ..);exact hk TV _ s' (.refl g.inv) rfl H'
theorem SN{b₁ XS:MS}{x:aa}{Xl Xk:List Stmt}(t:pM P W c q A (C q) e x)(y:rJ P W c q A C b₁ Xl)(z:rJ P W c q A C XS Xk):pe P W c q A C (.iff e b₁ XS) (.If x Xl Xk pos):=by
 intro ρ φ σ s Q E H h;refine wpAny_If (t H (mS.ofS H h λb σ' TV b' s' Z g rb H' hk=>?_));rw[rb]
 cases b with
 |true=>exact y H' hk
 |false=>exact z H' hk
theorem mW.testX{r:R Unit Bool}{k:Bool->St->R mQ (Fl×mQ)}{T9:List ai}{T5:St}{Q₁:Bool->ag->Prop}(h:mW W c own φ s ((r.lift ρ).bind k) Q E)(g:Good W own φ s T5 T9 TW)(H:ng W c ρ T9 T5 TW)(hk:∀b σ' TV s',Good W own φ s σ' TV s'->ng W c ρ TV σ' s'->mW W c own φ s (k b σ') Q E->Q₁ b s')(he:∀σ' TV e s',Good W own φ s σ' TV s'->oO W s.heap c.env₀.frame e s'.heap->ng W c ρ TV σ' s'->(∀s',Good W own φ s σ' TV s'->oO W s.heap c.env₀.frame e s'.heap->ng W c ρ TV σ' s'->E (.ref e) s')->UR (.ref e) s'):
  mS W c T9 TW r (λZ Z b b'=>b'=b) Q₁ UR:=by
 cases r with
 |ok b σ'=>exact λTV b' s' g' e=>by rw[e];exact hk b σ' TV s' (g.trans g'.up) (H.good g') h
 |exc u σ'=>exact λTV e s' g' x=>he σ' TV e s' (g.trans g'.up) (x.born λb hb=>g.evo.fresh hb) (H.good g') λs' g x H=>h TV e s' g x H
 |bad=>exact h
theorem LI{b:MS}{x:aa}{l:List Stmt}(ar:oN A c q d)(t:q=false->pM P W c q A (C q) e x)(y:q=false->rJ P W c q A C b l):pe P W c q A C (.whl e b) (.While x l [] pos):=by
 intro ρ φ₀ σ s₀ Q E H h;have hq:=h.gd.1;have hb:=H.inv.base;refine wpAny_While (codeAny_whileLoop (LoopAt W c φ₀ s₀ (λZ Z Z=>True) (λk Z=>loopW (dT P q (C q) e) (dS P C q b) k) Q E) (λk s x=>x.elim λi ρ σ φ g H Z h=>?_) AY ⟨0,ρ,σ,φ₀,.refl H.inv,H,trivial,h.gd.2⟩)
 cases k with
 |zero=>exact h.elim
 |succ k=>
  refine t hq H (mW.testX h g H (λb' T5 T9 TW g₁ H₁ hk=>?_) λσ' TV e s' g' x H' he=>xk ar g' H' x hb λUH UI UT Vo=>he UH UI Vo UT)
  cases b' with
  |false=>exact dN (hk T9 _ TW g₁ rfl H₁)
  |true=>
   refine y hq H₁ (mW.bindX hk g₁ (λp Ul Uf f Uj g' Uk rf Uy hk'=>?_) λUt Ul Uf e Uj g' x Uy he=>xk ar g' Uy x hb λUH UI UT Vo=>he UH UI Vo UT)
   rcases mW.turned (r:=λk Z=>loopW (dT P q (C q) e) (dS P C q b) k) (i:=0) (T:=λZ Z Z=>True) hk' (aR k) rf g' Uy trivial with ⟨e,x⟩ | ⟨v,e,x⟩<;>(rw[e];exact x)
end
noncomputable def rV(env:d9):List (aI×bN)->List (aI×ai)->List (aI×ai)
 |[],cs=>cs
 |(n,k)::r,cs=>if k==.free then (match env.cells.lookup n with
   |some a=>rV env r ((n,a)::cs)
   |none=>rV env r cs) else rV env r cs
set_option tactic.hygienic true in
theorem tu{env:d9}:∀{names:List (aI×bN)} {cs:List (aI×ai)},(∀n a,(n,a)∈cs->env.cells.lookup n=some a)->∀n a,(n,a)∈rV env names cs->env.cells.lookup n=some a
 |[],cs,h,n,a,hm=>h n a hm
 |(m,k)::r,cs,h,n,a,hm=>by
  rw[rV] at hm
  split at hm
  .split at hm
   .rename_i b hb;refine tu (cs:=(m,b)::cs) (λn' a' h'=>?_) n a hm
    rcases aA.mp h' with e | e
    .cases e;exact hb
    .exact h _ _ e
   .exact tu h n a hm
  .exact tu h n a hm
theorem tY{env:d9}:∀{names:List (aI×bN)} {cs:List (aI×ai)} {p:aI×ai},p∈cs->p∈rV env names cs
 |[],_,_,h=>h
 |(m,k)::r,cs,p,h=>by
  rw[rV]
  split
  .split
   .exact tY (ao _ h)
   .exact tY h
  .exact tY h
theorem uP{env:d9}:∀{names:List (aI×bN)} {cs:List (aI×ai)} {n:aI} {a:ai},(n,cJ)∈names->env.cells.lookup n=some a->(n,a)∈rV env names cs
 |[],_,_,_,h,_=>nomatch h
 |(m,k)::r,cs,n,a,h,ha=>by
  rw[rV]
  rcases aA.mp h with e | e
  .cases e
   rw[if_pos (by rfl),ha];exact tY ah
  .split
   .split
    .exact uP e ha
    .exact uP e ha
   .exact uP e ha
theorem tB{l:List (aI×α)}{n:aI}{a:α}(h:(n,a)∈l):∃b,l.lookup n=some b:=by
 induction l with
 |nil=>cases h
 |cons p r ih=>
  obtain ⟨m,b⟩:=p;rw[cA]
  by_cases e:n==m
  .rw[e];exact⟨b,rfl⟩
  .rw[b9.mpr e]
   rcases aA.mp h with q | q
   .cases q;simp at e
   .exact ih q
theorem uh{env:d9}(h:∀n,(n,cJ)∈scope.names->∃a,env.cells.lookup n=some a):lG scope env=pure (rV env scope.names []):=by
 unfold lG;generalize scope.names=names at h;have gen:∀(names:List (aI×bN)) (cs:List (aI×ai)),(∀n,(n,cJ)∈names->∃a,env.cells.lookup n=some a)->
   (forIn names cs λx r=>(match x with
    |(name,kind)=>if (kind==cJ)=true then do
      let a <-iH env name
      pure (cH ((name,a)::r))
     else pure (cH r):jM (ForInStep (List (aI×ai)))))=pure (rV env names cs):=by
  intro names
  induction names with
  |nil=>intro cs _;rfl
  |cons p r ih=>
   intro cs h;obtain ⟨m,k⟩:=p;rw[lg,rV]
   by_cases hk:(k==cJ)=true
   .have hk':k=.free:=by simpa using hk
    subst hk';refine m4 (h m ah) λa ha=>?_
    have e:iH env m=pure a:=by unfold iH;rw[ha]
    simp only[hk,if_true,e,ha];exact ih _ λn hn=>h n (ao _ hn)
   .simp only[hk,if_false];exact ih _ λn hn=>h n (ao _ hn)
 show ((forIn names [] λx r=>(match x with
    |(name,kind)=>if (kind==cJ)=true then do
      let a <-iH env name
      pure (cH ((name,a)::r))
     else pure (cH r):jM (ForInStep (List (aI×ai))))) >>= λcs=>pure cs)=_
 rw[gen names [] h];rfl
section
variable {M:ge}{A:aH}{E:af->ag->Prop}{s:ag}{env:d9}
def sA(M:ge)(A:aH)(E:af->ag->Prop)(use:Option (af->jM Unit))(Q:af->ag->Prop)(UN:d9)(acc:af)(r:cT)(s':ag):Prop:=
 match r,use with
 |.ok _,none=>∃m,s'.heap.Ns UN.locals m/\∀h',bf UN.locals s'.heap h'->Q acc {s' with heap:=h'}
 |.ok _,some u=>an M A (u acc) (λZ UB=>∃m,UB.heap.Ns UN.locals m/\∀h',bf UN.locals UB.heap h'->Q .none {UB with heap:=h'}) E s'
 |.error x,_=>∃m,s'.heap.Ns UN.locals m/\∀h',bf UN.locals s'.heap h'->an M A (passOn "comprehension.variables-let-go" x UN:jM af) (λZ Z=>False) E {s' with heap:=h'}
theorem s9{e:aa}{first:jM af}{g:eU}{gs:List eU}{cl:List (aI×ai)}{use:Option (af->jM Unit)}(hcl:clausesOf e=g::gs)(hs:∀x,j9 g.iter env x=pure x)(XE:lG scope env=pure cl)(WC:scope.kind=.function)(WV:∀x∈scope.names,x.2=.local->scope.names.lookup x.1=some .local)(XF:∀x∈scope.names,x.2≠.cell)(h:an M A first (λx TW=>an M A (fK x) (λit T2=>
   ∀h',h'.Ns (T2.heap.objs.size+1) (λZ=>none)->(∀b o,T2.heap.get? b=some o->h'.get? b=some o)->h'.get? T2.heap.objs.size=some (pF [] 0)->
    dc M A (.compStart e 0 it (.ref T2.heap.objs.size) (di scope cl (T2.heap.objs.size+1) env)) (sA M A E use Q (di scope cl (T2.heap.objs.size+1) env) (.ref T2.heap.objs.size)) {T2 with heap:=h'}) E TW) E s):
  an M A (ii e scope env pos (iN []) false first use) Q E s:=by
 unfold ii;rw[XE,hcl]
 refine ac (bB h (λx TW T1=>ac (bv (ac (dq (hs x) (ac (aK (bB T1 (λit T2 Uh=>
  wpAny_standIf (ac (aZ (hd:=by size_fits) (ac (al (ac (wpAny_newFunctionEnv XF (by intro y hy;simp at hy) (λh' UV XW=>?_) WC)))))))
   λZ Z h'=>h'))))))) λZ Z h'=>h')
 dsimp only at UV XW ⊢;have hsz:((T2.heap.push {cls:=.type "list",dict:=none,data:=.seq ([]:List af).toArray}).objs.size)=T2.heap.objs.size+1:=bk ..;rw[hsz] at UV XW ⊢;have h₄:=Uh h' UV (λb o e=>XW.extBut b o (by have:=aX e;exact aS (ci this)) (aj _ (aj _ e)))
  (XW.extBut _ _ (aS (aR _)) (aj _ (ax _ rfl)))
 have hv:∀x∈(scope.names.filter λx=>(x.2==.local||x.2==.cell)&&x.1 != (".0" : aI)).reverse,x.2=.local->
   gD (di scope cl (T2.heap.objs.size+1) env) x.1=some .local:=λx hx hl=>lookup_relabel_local (WV x (List.mem_filter.mp (List.mem_reverse.mp hx)).1 hl)
 have hv':∀x∈(scope.names.filter λx=>(x.2==.local||x.2==.cell)&&x.1 != (".0" : aI)).reverse.drop 1++(scope.names.filter λx=>(x.2==.local||x.2==.cell)&&x.1 != (".0" : aI)).reverse.take 1,
   x.2=.local->gD (di scope cl (T2.heap.objs.size+1) env) x.1=some .local:=λx hx hl=>by
  rcases aG.mp hx with h1 | h1
  .exact hv x (List.mem_of_mem_drop h1) hl
  .exact hv x (List.mem_of_mem_take h1) hl
 have hk':(di scope cl (T2.heap.objs.size+1) env).scope.kind=.function:=WC;refine aK (ac (cN (aK (wpAny_run (j7 h₄ λr s' hr=>?_)))))
 cases r with
 |ok f=>
  cases use with
  |none=>
   refine mO hr λm hn hr=>?_;exact ac (aK (iC hk' _ s' m hv hn λh' m' Z Um=>al (hr h' Um)))
  |some u=>
   refine ac (fO (ac (aK (bB hr (λZ UB WT=>?_) λZ Z h'=>h'))));refine mO WT λm hn WT=>?_;exact ac (iC hk' _ UB m hv' hn λh' m' Z Um=>al (WT h' Um))
 |error x=>
  have WT:∃m,s'.heap.Ns (di scope cl (T2.heap.objs.size+1) env).locals m/\∀h',bf (di scope cl (T2.heap.objs.size+1) env).locals s'.heap h'->an M A (passOn "comprehension.variables-let-go" x (di scope cl (T2.heap.objs.size+1) env):jM af) (λZ Z=>False) E {s' with heap:=h'}:=by cases use<;>exact hr
  refine mO WT λm hn hr=>?_;exact ac (aK (iC hk' _ s' m hv hn λh' m' Z Um=>bB (hr h' Um) (λZ Z f=>f.elim) λZ Z y=>y))
end
noncomputable def oZ(t:MX):List Nat:=(wZ t).getD []
noncomputable def blank(ss:List Nat)(ρ:mQ):mQ:=ρ.mapIdx λi v=>if i∈ss then none else v
theorem vJ{i:Nat}:((blank ss ρ)[i]?).join=if i∈ss then none else (ρ[i]?).join:=by
 unfold blank;rw[jc]
 cases h:ρ[i]? with
 |none=>exact (ite_self _).symm
 |some v=>by_cases hi:i∈ss<;>simp [hi]
theorem zB:(blank ss ρ).length=ρ.length:=by simp [blank]
theorem I2{p:Prop}[Decidable p]{a:α}(h:p):og p a=some a:=if_pos h
theorem MJ{p:Prop}[Decidable p]{a:α}(h:¬p):og p a=none:=if_neg h
theorem Bh{is:List Nat}:∀{l:List V} {T3 Ut:mQ},T3.length=Ut.length->(∀i,i∉is->T3[i]?=Ut[i]?)->bindL is l T3=bindL is l Ut:=by
 induction is with
 |nil=>intro l T3 Ut hl ha;rw[fm λi=>ha i iu]
 |cons i is ih=>
  intro l T3 Ut hl ha;show ((hd l).bind λv=>(og (i < T3.length) (T3.set i (some v))).bind λρ=>bindL is (tl l) ρ)=((hd l).bind λv=>(og (i < Ut.length) (Ut.set i (some v))).bind λρ=>bindL is (tl l) ρ)
  cases hd l with
  |none=>rfl
  |some v=>
   by_cases hi:i < T3.length
   .rw[b5,b5,I2 hi,I2 (hl▸hi),b5,b5];refine ih (by rw[bG,bG,hl]) λj hj=>?_
    by_cases Wh:i=j
    .rw[<-Wh,bh hi,bh (hl▸hi)]
    .rw[bl Wh,bl Wh];exact ha j λhm=>(aA.mp hm).elim (λq=>Wh q.symm) hj
   .rw[b5,b5,MJ hi,MJ (hl▸hi)]
theorem F8{i:Nat}(h:i∉ss):(blank ss ρ)[i]?=ρ[i]?:=by
 unfold blank;rw[jc]
 cases ρ[i]? with
 |none=>rfl
 |some v=>exact congrArg some (if_neg h)
theorem Bj{t:MX}{v:V}:qo t v (blank (oZ t) ρ)=qo t v ρ:=by
 unfold qo oZ
 cases wZ t with
 |none=>rfl
 |some is=>
  show ((AM t v).bind λl=>bindL is l (blank is ρ))=((AM t v).bind λl=>bindL is l ρ)
  cases AM t v with
  |none=>rfl
  |some l=>exact Bh zB λi hi=>F8 hi
theorem F5{is:List Nat}:∀{l:List V} {ρ ρ':mQ},bindL is l ρ=some ρ'->∀i,i∉is->ρ'[i]?=ρ[i]?:=by
 induction is with
 |nil=>intro l ρ ρ' e i _;refine mO (ms e) λZ Z e=>?_;rw[e]
 |cons k is ih=>
  intro l ρ ρ' h i hi;refine mO (bs h) λv Z h=>?_;refine mO (bs h) λT3 e h=>?_;rw[ih h i λhm=>hi (ao _ hm),<-(nu e).2,bl λq:k=i=>hi (by rw[<-q];exact ah)]
theorem F6{t:MX}{v:V}{ρ':mQ}(h:qo t v ρ=some ρ')(i:Nat)(hi:i∉oZ t):ρ'[i]?=ρ[i]?:=by
 refine mO (bs h) λis e h=>?_;refine mO (bs h) λl Z h=>?_;exact F5 h i (by unfold oZ at hi;rw[e] at hi;exact hi)
noncomputable def oK(k:Ck)(names:List (aI×bN)):List (aI×bN):=names.map λ(n,kk)=>if (kk==.free&&k.kinds.lookup n==some .cell) then (n,.cell) else (n,kk)
theorem tN{env:d9}(h:env.scope.kind=.function):(mB scope env).names=oK ⟨env.scope.names,vars⟩ scope.names:=by
 unfold mB oK;refine db λp Z=>?_;obtain ⟨n,k⟩:=p;show (if (k==cJ&&env.scope.kind==.function&&env.kindOf n==some .cell)=true then _ else _)=_;rw[h];have:(gP==gP)=true:=rfl;rw[this,lQ];rfl
noncomputable def sk(k:Ck)(names:List (aI×bN))(vs:List (aI×Nat))(ss:List Nat):Bool:=
 decide (vs.map (·.2)).Nodup&&
 (vs.all λp=>((oK k names).lookup p.1==some .local&&ss.contains p.2)||
  (((oK k names).lookup p.1==some .free||(oK k names).lookup p.1==some .cell)&&names.contains (p.1,.free)&&k.vars.lookup p.1==some p.2))&&
 (names.all λp=>p.2 != .free||((k.vars.lookup p.1).isSome&&(k.kinds.lookup p.1==some .cell||k.kinds.lookup p.1==some .free)))&&
 (names.all λp=>p.2 != .cell)&&(names.all λp=>p.2 != .local||names.lookup p.1==some .local)
theorem sQ{k:Ck}{vs:List (aI×Nat)}(hc:sk k names vs ss=true):(∀x∈names,x.2=bN.local->names.lookup x.1=some .local)/\∀x∈names,x.2≠jC:=by
 have h:=b2 hc;refine⟨λx hx hl=>?_,λx hx e=>?_⟩
 .have h:=aJ.mp h.2 x hx;rw[hl] at h;exact eq_of_beq h
 .have h:=aJ.mp (b2 h.1).2 x hx;rw[e] at h;exact mP h
section
variable {W:Wd}{c:Cx}{own φ TV:List ai}{σ σ':St}{s s':ag}{ρ ρ':mQ}{E:af->ag->Prop}{A:aH}{q:Bool}{d:Nat}{P:Pg}{C:Bool->Call}
noncomputable def Cx.comp(c:Cx)(scope:fD)(vs:List (aI×Nat))(L:ai):Cx:={env:=di scope (rV c.env scope.names []) L c.env,env₀:=c.env₀,out:=c.out,vars:=vs}
theorem oN.comp{vs:List (aI×Nat)}(a:oN A c q d):oN A (c.comp scope vs L) q d:=⟨a.frames,a.frame,a.depth,a.units,a.handled⟩
theorem nA.less{env:d9}(x:nA W env vars ρ φ h)(hl:∀(i:Nat) (v:V),(ρ'[i]?).join=some v->(ρ[i]?).join=some v):nA W env vars ρ' φ h:=by
 have f:∀{i u},su W φ h ρ i u->su W φ h ρ' i u:=λhv v e=>hv v (hl _ v e);refine⟨x.kind,x.glob,x.bui,x.inj,x.apart,x.out,?_,λn c U6=>?_,x.has⟩
 .refine mO x.loc λm hm hv=>?_;exact⟨m,hm,λn i a b=>f (hv n i a b)⟩
 .refine oC (x.cell n c U6) λa b c' u hu hv=>?_;exact⟨a,b,c',u,hu,λi p q=>f (hv i p q)⟩
theorem ng.less(H:ng W c ρ φ σ s)(hl:∀(i:Nat) (v:V),(ρ'[i]?).join=some v->(ρ[i]?).join=some v):ng W c ρ' φ σ s:=⟨H.inv,H.ok.less hl,H.frs,H.sep⟩
theorem tv(H:nA W c.env c.vars ρ φ h){vs:List (aI×Nat)}(hc:sk c.ck scope.names vs ss=true){n:aI}(hn:(n,cJ)∈scope.names):
  (∃i,c.vars.lookup n=some i)/\(c.env.kindOf n=some .cell\/c.env.kindOf n=some .free)/\∃a,c.env.cells.lookup n=some a:=by
 simp only[sk,bO,aJ] at hc;have h1:=hc.1.1.2 _ hn;simp only[bne_self_eq_false,lR,bO,aV,iS,beq_iff_eq] at h1;refine nE h1 λVy hk=>?_;obtain ⟨i,hi⟩:=Vy;refine⟨⟨i,hi⟩,hk,?_⟩
 rcases H.has n i hi with q | ⟨_,q⟩
 .have:c.env.kindOf n=some .cell\/c.env.kindOf n=some .free:=hk
  rw[q] at this;rcases this with z | z<;>cases z
 .exact q
theorem ng.comp(ok:nA W c.env c.vars ρ φ s.heap)(frs:tg W φ s.heap (c.env₀::c.out))(sep:∀b∈ownOf c.env,b∉oQ c.out){vs:List (aI×Nat)}(hk:scope.kind=.function)(hc:sk c.ck scope.names vs ss=true)(hL:s.heap.get? L=none)(fL:L∉φ/\W.base.get? L=none)(UV:h'.Ns L λZ=>none)(k:∀b o,s.heap.get? b=some o->h'.get? b=some o)(inv:Inv W φ σ h'):ng W (c.comp scope vs L) (blank ss ρ) φ σ {s with heap:=h'}:=by
 have ok':nA W c.env c.vars ρ φ h':=ok.evo (X:=[]) (qZ.of_keeps k) (Apart.nil _ _ _) (.refl _ _) (λhm=>nomatch hm) (λZ Z Z hm=>nomatch hm);have frs':tg W φ h' (c.env₀::c.out):=frs.evo (X:=[]) (qZ.of_keeps k) (.refl _ _) λb hb=>.inl (λhm=>nomatch hm);have fr:=λ{n:aI}=>tv (n:=n) ok hc;have hc':=hc;simp only[sk,bO,aJ,decide_eq_true_eq] at hc';refine nE hc' λVy h5=>?_;obtain ⟨⟨⟨h1,h2⟩,h3⟩,h4⟩:=Vy;have acc:∀n a,(rV c.env scope.names []).lookup n=some a->c.env.cells.lookup n=some a:=λn a e=>tu (λZ Z hm=>absurd hm (by simp)) n a (mem_of_lookup e)
 have kin:∀x,gD (c.comp scope vs L).env x=(oK c.ck scope.names).lookup x:=λx=>by
  show (mB scope c.env).names.lookup x=_;rw[tN (vars:=c.vars) ok.kind];rfl
 have two:∀x i,vs.lookup x=some i->(gD (c.comp scope vs L).env x=some .local/\i∈ss)\/
   ((gD (c.comp scope vs L).env x=some .free\/gD (c.comp scope vs L).env x=some .cell)/\(x,cJ)∈scope.names/\c.vars.lookup x=some i):=λx i e=>by
  have:=h2 _ (mem_of_lookup e);simp only[iS,bO,beq_iff_eq,cV] at this;rw[kin]
  rcases this with ⟨a,b⟩ | ⟨⟨a,b⟩,d⟩
  .exact .inl ⟨a,b⟩
  .exact .inr ⟨a,b,d⟩
 refine nE fL λf1 f2=>?_
 have hL':∃o,h'.get? L=some o:=by refine oI UV λo Z Z e Z=>?_;exact⟨o,e⟩
 refine⟨inv,⟨hk,ok.glob,ok.bui,h1,λx y a ex ey=>ok.apart x y a (acc x a ex) (acc y a ey),⟨f1,f2⟩,⟨_,UV,λx i hx X0 v hv=>?_⟩,λx a ha=>?_,λx i hx=>?_⟩,frs',λb hb=>?_⟩
 .rcases two x i hx with ⟨_,hs⟩ | ⟨q,_⟩
  .rw[vJ,if_pos hs] at hv;cases hv
  .rw[X0] at q;rcases q with q | q<;>cases q
 .refine oC (ok'.cell x a (acc x a ha)) λa1 a2 a3 u hu hv=>?_;refine⟨a1,a2,?_,u,hu,λi hx X0 v hv'=>?_⟩
  .intro q;refine oC (ok.cell x _ (acc x _ ha)) λZ Z Z Z Vn Z=>?_;obtain ⟨o,e,_⟩:=Vn;rw[show a=L from q,hL] at e;cases e
  .rcases two x i hx with ⟨q,_⟩ | ⟨_,q,hxi⟩
   .rw[q] at X0;rcases X0 with z | z<;>cases z
   .refine hv i hxi (fr q).2.1 v ?_;rw[vJ] at hv'
    split at hv'
    .cases hv'
    .exact hv'
 .rcases two x i hx with ⟨q,_⟩ | ⟨q1,q2,_⟩
  .exact .inl q
  .refine OH (fr q2) λZ Z a ha=>?_;exact .inr ⟨q1.symm,tB (uP q2 ha)⟩
 .rcases oV hb with q | ⟨n,hn⟩
  .intro hm
   obtain ⟨_,_,o,_,_,e,_⟩:=frs.mem (b:=b) (by
    show b∈oQ (c.env₀::c.out);unfold oQ at hm ⊢;refine mO (cQ.mp hm) λz hz e=>?_
    exact cQ.mpr ⟨z,ao _ hz,e⟩)
   rw[show b=L from q,hL] at e;cases e
  .exact sep b (mem_ownOf (acc n b hn))
theorem Good.fresh{φ₀:List ai}(x:Good W own φ₀ s₀ σ φ s)(hn:∀b∈F,s₀.heap.get? b=none)(y:Good W F φ s σ' TV s'):Good W own φ₀ s₀ σ' TV s':=by
 refine⟨x.grows.trans x.evo y.grows,x.evo.trans y.evo λb hb=>?_,y.inv,y.gens.trans x.gens,y.os.trans x.os⟩
 rcases aG.mp hb with hb | hb
 .exact (x.grows.either hb).imp (bR _) id
 .exact .inr (hn b hb)
end
section
variable {R:cT->ag->Prop}{s:ag}
theorem qq{iter:aa}{it acc:af}{env:d9}(I:Nat->ag->Prop)(turn:∀n s,I n s->an (aO prog w) A (eB it) (λr TW=>match r with
   |none=>R (.ok .next) TW
   |some v=>an (aO prog w) A (iW target it v) (λZ TW=>an (aO prog w) A (iI target env v) (λZ T2=>
     an (aO prog w) A (forIn ifs true λc r=>if r=true then do let ok <-isTrue c env (eval c env);pure (cH ok) else pure (cH r)) (λok Uj=>
      if ok=true then an (aO prog w) A (eval Uv env) (λx UH=>
       an (aO prog w) A (call (.builtin "list.append") [acc,x]) (λZ Xc=>∃m,m < n/\I m Xc) (gw (aO prog w) A env λe s'=>R (.error e) s') UH) (gw (aO prog w) A env λe s'=>R (.error e) s') Uj
      else ∃m,m < n/\I m Uj) (gw (aO prog w) A env λe s'=>R (.error e) s') T2) (gw (aO prog w) A env λe s'=>R (.error e) s') TW) (gw (aO prog w) A env λe s'=>R (.error e) s') TW)
     (gw (aO prog w) A env λe s'=>R (.error e) s') s)(n:Nat)(h:I n s):dc (aO prog w) A (.compLoop (.ListComp Uv [⟨target,iter,ifs,0⟩] scope pos) 0 it acc env) R s:=by
 refine codeAny_loop rfl I (λn s hI=>?_) n h;show an _ A ((compTurn (.ListComp Uv [⟨target,iter,ifs,0⟩] scope pos) 0 it acc env).onRaise (λx=>do gy x env;theTreesLotGoes x)) _ _ s;refine wpAny_noted ?_;rw[compTurn_list];refine ac (bv (ac (bB (turn n s hI) (λr TW T1=>?_) λZ Z h'=>h')))
 cases r with
 |none=>exact al T1
 |some v=>
  refine ac (bB T1 (λZ TW T1=>?_) λZ Z h'=>h');refine ac (bB T1 (λZ T2 Uh=>ac (bB Uh (λok Uj UP=>?_) λZ Z h'=>h')) λZ Z h'=>h')
  cases ok with
  |false=>exact al ⟨rfl,UP⟩
  |true=>
   exact ac (ac (bB UP (λx UH h₄=>ac (bB h₄ (λZ Xc Uw=>al (al ⟨rfl,Uw⟩)) λZ Z h'=>h')) λZ Z h'=>h'))
end
section
variable {W:Wd}{c:Cx}{own φ φ₀ TV:List ai}{σ σ':St}{s s' s₀:ag}{ρ ρ':mQ}{E:af->ag->Prop}{A:aH}{q:Bool}{d:Nat}{P:Pg}{C:Bool->Call}
structure AccAt(W:Wd)(D:ai)(φ:List ai)(h:aB)(l:List V):Prop where
 out:D∉φ
 is:∃ys n,ys.length<=ni/\h.get? D=some (pF ys n)/\nf W φ h l ys
def o5(W:Wd)(c:Cx)(ρ:mQ)(D:ai)(φ₀:List ai)(s₀:ag)(r:R Unit (List V))(R':cT->ag->Prop):Prop:=
 match r with
 |.ok l σ'=>∀TV s',Good W [] φ₀ s₀ σ' TV s'->ng W c ρ TV σ' s'->AccAt W D TV s'.heap l->R' (.ok .next) s'
 |.exc _ σ'=>∀TV e s',Good W [] φ₀ s₀ σ' TV s'->ng W c ρ TV σ' s'->(∃L,c.env₀.frame=some L/\oo W s₀.heap (bH L) e s'.heap)->R' (.error (.ref e)) s'
 |.bad=>False
theorem AccAt.good{D:ai}(x:AccAt W D φ s.heap l)(ap:Apart W φ (φ++own) s.heap)(g:Good W own φ s σ' TV s')(hD:D∉own):AccAt W D TV s'.heap l:=by
 obtain ⟨ho,ys,n,hz,e,r⟩:=x;exact⟨g.grows.notin e ho,ys,n,hz,g.evo.exact e (λhm=>(aG.mp hm).elim ho hD) qv,r.evo g.evo ap g.grows⟩
theorem o5.gd{p:Prop}[Decidable p]{D:ai}{r:R Unit (List V)}(h:o5 W c ρ D φ s (gd p r) R'):p/\o5 W c ρ D φ s r R':=by
 unfold Mine.Internal.gd at h
 by_cases hp:p
 .rw[if_pos hp] at h;exact⟨hp,h⟩
 .rw[if_neg hp] at h;exact h.elim
noncomputable def Mz(r:Nat->List V->St->R Unit (List V))(i:Nat)(l:List V)(x:Option V)(σ:St):R Unit (List V):=match x with
 |some x=>Mine.Internal.gd (l.length < ni) (r (i+1) (l++[x]) σ)
 |none=>r (i+1) l σ
theorem o5.turn{f:V->St->R Unit (Option V)}{k i:Nat}{D:ai}{p:Prop}(h:o5 W c ρ D φ s (loopC it f k i l σ) R')(h1:it.at i σ=some none->o5 W c ρ D φ s (.ok l σ) R'->p)(h2:∀v k',k' < k->it.at i σ=some (some v)->o5 W c ρ D φ s ((f v σ).bind (Mz (loopC it f k') i l)) R'->p):p:=by
 cases k with
 |zero=>exact h.elim
 |succ k=>
  have e:o5 W c ρ D φ s (R.opt (it.at i σ) λw=>match w with | none=>.ok l σ | some v=>(f v σ).bind (Mz (loopC it f k) i l)) R':=h
  revert e h1 h2
  generalize it.at i σ=w;intro h1 h2 e
  cases w with
  |none=>exact e.elim
  |some w=>cases w with
   |none=>exact h1 rfl e
   |some v=>exact h2 v k (aR k) rfl e
theorem o5.bodyE{D:ai}{o:Option γ}{f:γ->R Unit (Option V)}{k:Option V->St->R Unit (List V)}{p:Prop}(h:o5 W c ρ D φ s ((R.opt o f).bind k) R')(h1:∀a,o=some a->o5 W c ρ D φ s ((f a).bind k) R'->p):p:=by
 cases o with
 |none=>exact h.elim
 |some a=>exact h1 a rfl h
theorem o5.ofV{D:ai}{r:R Unit α}{g:α->St->R Unit (Option V)}{k:Option V->St->R Unit (List V)}{rep:List ai->aB->α->β->Prop}(h:o5 W c ρ D φ₀ s₀ ((r.bind g).bind k) R')(hk:∀v σ' TV y s',Good W [] φ s σ' TV s'->rep TV s'.heap v y->o5 W c ρ D φ₀ s₀ ((g v σ').bind k) R'->Q₁ y s')(he:∀σ' TV e s',Good W [] φ s σ' TV s'->oO W s.heap c.env₀.frame e s'.heap->o5 W c ρ D φ₀ s₀ (.exc () σ') R'->UR (.ref e) s'):mS W c φ s r rep Q₁ UR:=by
 cases r with
 |ok v σ'=>exact λTV y s' g rp=>hk v σ' TV y s' g rp h
 |exc u σ'=>exact λTV e s' g x=>he σ' TV e s' g x h
 |bad=>exact h.elim
structure sg(W:Wd)(c:Cx)(T3 ρ':mQ)(φ₀:List ai)(s₀:ag)(D:ai)(T:Nat->List ai->aB->Prop)(i:Nat)(l:List V)(φ:List ai)(σ:St)(s:ag):Prop where
 g:Good W [] φ₀ s₀ σ φ s
 H:ng W c T3 φ σ s
 H':ng W c ρ' φ σ s
 t:T (i+1) φ s.heap
 a:AccAt W D φ s.heap l
structure ql(W:Wd)(c:Cx)(ρ':mQ)(φ₀:List ai)(s₀:ag)(D:ai)(T:Nat->List ai->aB->Prop)(i:Nat)(l:List V)(φ:List ai)(σ:St)(s:ag):Prop where
 g:Good W [] φ₀ s₀ σ φ s
 H:ng W c ρ' φ σ s
 t:T i φ s.heap
 a:AccAt W D φ s.heap l
def C4(W:Wd)(c:Cx)(ρ':mQ)(φ₀:List ai)(s₀:ag)(D:ai)(T:Nat->List ai->aB->Prop)(r:Nat->Nat->List V->St->R Unit (List V))(R':cT->ag->Prop)(k:Nat)(s:ag):Prop:=
 ∃i l σ φ,ql W c ρ' φ₀ s₀ D T i l φ σ s/\o5 W c ρ' D φ₀ s₀ (r k i l σ) R'
theorem C4.elim{D:ai}{T:Nat->List ai->aB->Prop}{r:Nat->Nat->List V->St->R Unit (List V)}{k:Nat}{p:Prop}(x:C4 W c ρ φ₀ s₀ D T r R' k s)(f:∀i l σ φ,ql W c ρ φ₀ s₀ D T i l φ σ s->o5 W c ρ D φ₀ s₀ (r k i l σ) R'->p):p:=by
 refine xM x λi l σ φ m h=>?_;exact f i l σ φ m h
section
variable {Dd:List ai}{T:Nat->List ai->aB->Prop}{D:ai}{i:Nat}{T3:mQ}
theorem sg.good(T8:pI W A target it I F Dd T)(aw:sf W c F Dd s₀.heap)(x:sg W c T3 ρ' φ₀ s₀ D T i l φ σ s)(g:Good W [] φ s σ' TV s'):sg W c T3 ρ' φ₀ s₀ D T i l TV σ' s':=
 ⟨x.g.trans g,x.H.good g,x.H'.good g,T8.good aw x.H x.t g.up,x.a.good ((Apart.self _ _ _).append (Apart.nil _ _ _)) g (λhm=>nomatch hm)⟩
theorem sg.mid(x:sg W c T3 ρ' φ₀ s₀ D T i l φ σ s):ql W c ρ' φ₀ s₀ D T (i+1) l φ σ s:=⟨x.g,x.H',x.t,x.a⟩
theorem sg.fly(hb:W.base.StaysIn s₀.heap)(ar:oN A c q d)(x:sg W c T3 ρ' φ₀ s₀ D T i l φ σ s){e:ai}(g:Good W [] φ s σ' TV s')(ex:oO W s.heap c.env₀.frame e s'.heap)(h:o5 W c ρ' D φ₀ s₀ (.exc () σ') R'):
  gw W.M A c.env (λe s'=>R' (.error e) s') (.ref e) s':=
 yN ar (x.g.trans g) (x.H'.good g) (ex.born λb hb=>x.g.evo.fresh hb) hb λTW UI UT Vo=>h _ _ _ UI UT Vo
theorem ql.done(T8:pI W A target it I F Dd T)(aw:sf W c F Dd s₀.heap)(Wu:D∉F)(x:ql W c ρ' φ₀ s₀ D T i l φ σ s)(Ur:it.at i σ=some none)(h:o5 W c ρ' D φ₀ s₀ (.ok l σ) R'){Qs:af->ag->Prop}:
  Step W.M A target I (λs=>R' (.ok .next) s) Qs E s:=by
 refine T8.done x.t x.H.inv Ur λh' tk hk=>?_;have hF:∀b∈Dd,s₀.heap.get? b=none/\b∉φ/\b∉W.hid/\W.base.get? b=none/\∀o,s.heap.get? b=some o->∀xs n,o.data≠.seq xs n:=λb hb=>
  have a:=T8.apart x.t (T8.sub b hb)
  ⟨aw.new b (T8.sub b hb),a.1,aw.hid b hb,a.2.1,a.2.2.resolve_left (aw.hid b hb)⟩
 have g:=x.g.drop (t:=tk) hF hk;obtain ⟨ho,ys,n,hz,e,r⟩:=x.a;exact h φ _ g (x.H.drop (t:=tk) (λb hb=>⟨(hF b hb).2.1,(hF b hb).2.2.1,(hF b hb).2.2.2.1,(hF b hb).2.2.2.2,aw.notOwn (T8.sub b hb),aw.notFrs (T8.sub b hb)⟩) hk g.inv)
  ⟨ho,ys,n,hz,hk D _ (λhm=>Wu (T8.sub D hm)) e,r.kp (X:=Dd) (λb o e hb=>⟨o.slots,hk b o hb e,λZ=>rfl⟩) (λb hb Z=>⟨(hF b hb).2.2.2.1,.inr (hF b hb).2.2.2.2⟩) (.refl _ _)⟩
theorem sg.append(T8:pI W A target it I F Dd T)(hD:D∈W.hid)(XJ:s₀.heap.get? D=none)(hDb:W.base.get? D=none)(aD:sf W c [D] [] s₀.heap)(Wu:D∉F)(x:sg W c T3 ρ' φ₀ s₀ D T i l φ σ s){v:V}{z:af}(rz:mT W φ s.heap v z)(hlen:l.length < ni)(h:∀h',ql W c ρ' φ₀ s₀ D T (i+1) (l++[v]) φ σ {s with heap:=h'}->Q .none {s with heap:=h'}):an W.M A (call (.builtin "list.append") [.ref D,z]) Q E s:=by
 obtain ⟨ho,ys,n,hz,e,r⟩:=x.a;refine wpAny_list_append_plain (items:=ys.toArray) ⟨n,e⟩ (λUw Xw UY=>?_) (by rw[aY];exact az hz (by decide));refine m4 Xw λYe XN=>?_
 have hDp:∀b∈[D],b∉φ/\W.base.get? b=none/\(b∈W.hid\/∀o,s.heap.get? b=some o->∀xs n,o.data≠.seq xs n):=λb hb=>by
  rw[am.mp hb];exact⟨ho,hDb,.inl hD⟩
 refine sH (Good.writes (t:=s.toks) x.H.inv (F:=[D]) (h':=Uw) hDp (λb o hb e=>UY.extBut b o (λq=>hb (q▸am.mpr rfl)) e) (λb hb=>by rw[am.mp hb];exact⟨_,XN⟩)) λV8 Wb Wc=>?_;refine h Uw ⟨x.g.fresh (F:=[D]) (λb hb=>by rw[am.mp hb];exact XJ) V8,ng.iter (t:=s.toks) aD x.H' V8 hDp,T8.keep x.t Wb Wc (.refl _ _) (λb hb hm=>Wu (by rw[<-am.mp hm];exact hb)),ho,ys++[z],Ye,?_,?_,?_⟩
 .rw[aL,r.length];exact hlen
 .rw[XN,jZ]
 .exact nf.append (r.evo Wb Wc (.refl _ _)) (.cons' (rz.evo Wb Wc (.refl _ _)) .nil')
theorem ql.next(T8:pI W A target it I F Dd T)(aw:sf W c F Dd s₀.heap)(Wu:D∉F)(x:ql W c ρ' φ₀ s₀ D T i l φ σ s){v:V}(Ur:it.at i σ=some (some v)){Qn:ag->Prop}{Qs:af->ag->Prop}(h:∀y h' tk,mT W φ h' v y->ql W c ρ' φ₀ s₀ D T (i+1) l φ σ {s with heap:=h',toks:=tk}->Qs y {s with heap:=h',toks:=tk}):Step W.M A target I Qn Qs E s:=
 T8.next x.t x.H.inv Ur λy h' tk gi rv Yl=>h y h' tk rv ⟨x.g.iter aw.new gi,ng.iter aw x.H gi λb hb=>T8.apart x.t hb,Yl,
  x.a.good ((Apart.self _ _ _).append λb hb Z=>(T8.apart x.t hb).2) gi Wu⟩
theorem ql.bound(T8:pI W A target it I F Dd T)(aw:sf W c F Dd s₀.heap)(hL:s₀.heap.get? c.env.locals=none)(W0:D∉ownOf c.env)(x:ql W c ρ' φ₀ s₀ D T (i+1) l φ σ s){t:MX}{v:V}(Yn:∀i,i∈oZ t->(ρ'[i]?).join=none)(W8:qo t v ρ'=some T3)(g:Good W (v7 true c.env) φ s σ φ s')(H:ng W c T3 φ σ s'):sg W c T3 ρ' φ₀ s₀ D T i l φ σ s':=
 ⟨x.g.fresh (F:=v7 true c.env) (λb hb=>am.mp hb▸hL) g,H,H.less λj v' hv'=>by
   by_cases hj:j∈oZ t
   .exact mV ((Yn j hj).symm.trans hv')
   .rw[F6 W8 j hj];exact hv',
  T8.good aw x.H x.t (g.more λb hb=>tM hb),x.a.good (λb hb hn=>own_apart x.H b ((aG.mp hb).elim (bR _) λz=>cw _ (tM z)) hn) g λhm=>W0 (tM hm)⟩
end
noncomputable def uQ(P:Pg)(q:Bool)(C:Call)(t cond e:MX)(ρ:mQ)(v:V)(σ:St):R Unit (Option V):=R.opt (qo t v ρ) λρ'=>(dT P q C cond ρ' σ).bind λb σ=>if b then (dE P q C e ρ' σ).bind λx σ=>.ok (some x) σ else .ok none σ
def rY(P:Pg)(W:Wd)(c:Cx)(q:Bool)(A:aH)(C:Call)(cond:MX)(ifs:List aa):Prop:=∀⦃ρ:mQ⦄ ⦃φ:List ai⦄ ⦃σ:St⦄ ⦃s:ag⦄ ⦃Q:Bool->ag->Prop⦄ ⦃E:af->ag->Prop⦄,ng W c ρ φ σ s->
 mS W c φ s (dT P q C cond ρ σ) (λZ Z b b'=>b'=b) Q E->an W.M A (forIn ifs true λcc r=>if r=true then do let ok <-isTrue cc c.env (eval cc c.env);pure (cH ok) else pure (cH r)) Q E s
theorem rY.nil:rY P W c q A (C q) .nil []:=λρ φ σ s Q E H hp=>wpAny_tests_nil (hp φ true s (.refl H.inv) rfl)
theorem rY.one{x:aa}(st:pM P W c q A (C q) cond x):rY P W c q A (C q) cond [x]:=λρ φ σ s Q E H hp=>wpAny_tests_one (st H hp)
theorem Ei{iter:aa}{t:MX}{Dd:List ai}{T:Nat->List ai->aB->Prop}{D:ai}(hh:A.handled=none)(ar:oN A c q d)(VF:∀x i,lv.lookup x=some i->c.vars.lookup x=some i/\(true=true->c.env.kindOf x=some .local))(hc:zE lv t target=true)(Y0:∀v,qo t v ρ'=qo t v ρ)(Yn:∀i,i∈oZ t->(ρ'[i]?).join=none)(ht:rY P W c q A (C q) cond ifs)(he:nc P W c q A (C q) e Uv)(T8:pI W A target it I F Dd T)(aw:sf W c F Dd s₀.heap)(hL:s₀.heap.get? c.env.locals=none)(hD:D∈W.hid)(XJ:s₀.heap.get? D=none)(Wu:D∉F)(W0:D∉ownOf c.env)(hDf:D∉oQ (c.env₀::c.out)){fu i:Nat}(g:Good W [] φ₀ s₀ σ φ s)(H:ng W c ρ' φ σ s)(hT:T i φ s.heap)(ha:AccAt W D φ s.heap l)(h:o5 W c ρ' D φ₀ s₀ (loopC it (uQ P q (C q) t cond e ρ) fu i l σ) R'):
  dc W.M A (.compLoop (.ListComp Uv [⟨target,iter,ifs,0⟩] scope pos) 0 (.ref I) (.ref D) c.env) R' s:=by
 have hDb:W.base.get? D=none:=by
  cases e:W.base.get? D with
  |none=>rfl
  |some o=>exact mV (XJ.symm.trans (aw.base D o e))
 have aD:sf W c [D] [] s₀.heap:=⟨λb hb=>by rw[am.mp hb];exact XJ,λZ hb=>(nomatch hb),λ{b} hb=>by rw[am.mp hb];exact W0,λ{b} hb=>by rw[am.mp hb];exact hDf,aw.base⟩;refine qq (C4 W c ρ' φ₀ s₀ D T (loopC it (uQ P q (C q) t cond e ρ)) R') (λk s x=>x.elim λi l σ φ m h=>h.turn (λUr h=>m.done T8 aw Wu Ur h) λv k' hk Ur h=>?_) fu ⟨i,l,σ,φ,⟨g,H,hT,ha⟩,h⟩;refine m.next T8 aw Wu Ur λy h' tk rv m=>o5.bodyE (o:=qo t v ρ) (f:=λρ'=>(dT P q (C q) cond ρ' σ).bind λb σ=>if b then (dE P q (C q) e ρ' σ).bind λx σ=>.ok (some x) σ else .ok none σ) h λT3 W8 h=>?_;refine FT (loc:=true) VF hh hc m.H rv ((Y0 v).trans W8) λT2 Ug Ub=>?_;have x:=m.bound T8 aw hL W0 Yn ((Y0 v).trans W8) Ug Ub;refine ht Ub (o5.ofV h (λb US UD b' Uj Uk rb h=>?_) λUS UD aao Uj Uk x₃ h=>x.fly aw.base ar Uk x₃ h);have x₃:=x.good T8 aw Uk;rw[rb]
 cases b with
 |false=>exact⟨k',hk,i+1,l,US,UD,x₃.mid,h⟩
 |true=>
  refine he x₃.H (o5.ofV h (λu Vv U3 z UH UI rz h=>?_) λVv U3 aan UH UI ex h=>x₃.fly aw.base ar UI ex h);have h:=o5.gd h;exact (x₃.good T8 aw UI).append T8 hD XJ hDb aD Wu rz h.1 λh' m=>⟨k',hk,i+1,l++[u],Vv,U3,m,h.2⟩
end
section
variable {W:Wd}{c:Cx}{own φ φ₀ TV:List ai}{σ σ':St}{s s' s₀:ag}{ρ ρ':mQ}{E:af->ag->Prop}{A:aH}{q:Bool}{d:Nat}{P:Pg}{C:Bool->Call}
theorem nf.bares{v:List V}{y:List af}(x:nf (W.hides ws) φ h v y):nf W φ h v y:=by
 induction ws with
 |nil=>exact x
 |cons a ws ih=>exact ih (nf.bare (W:=W.hides ws) x)
structure vH(W:Wd)(φ:List ai)(TY:aB)(L:ai)(TV:List ai)(h':aB):Prop where
 new:TY.get? L=none
 out:L∉TV/\L∉W.hid/\W.base.get? L=none
 ns:∃m,h'.Ns L m
theorem vH.not(x:vH W φ TY L TV h):∀o,h.get? L=some o->∀xs n,o.data≠.seq xs n:=λo e xs n hd=>by
 refine vZ x.ns λm o' es ep e' d' Z=>?_;rw[e] at e';cases e';rw[hd] at d';cases d'
theorem vH.good{t:Nat}(x:vH W φ s₀.heap L TV s.heap)(g:Good W own φ s₀ σ' TV s)(hs:bf L s.heap h'):Good W own φ s₀ σ' TV {s with heap:=h',toks:=t}:=
 g.drop (F:=[L]) (λb hb=>by rw[am.mp hb];exact⟨x.new,x.out.1,x.out.2.1,x.out.2.2,x.not⟩) λb o hb e=>hs.extBut b o (by simpa using hb) e
theorem vH.rep{v:V}(x:vH W φ TY L TV h)(hs:bf L h h')(r:mT W TV h v y):mT W TV h' v y:=
 r.kp (X:=[L]) (λb o e hb=>⟨o.slots,hs.extBut b o (by simpa using hb) e,λZ=>rfl⟩) (λb hb Z=>by rw[am.mp hb];exact⟨x.out.2.2,.inr x.not⟩) (.refl _ _)
theorem vH.here{t:Nat}(aw:sf W c [L] [] s₀.heap)(x:vH W φ s₀.heap L TV s.heap)(g:Good W own φ s₀ σ' TV s)(hs:bf L s.heap h')(H:ng W c ρ TV σ' s):ng W c ρ TV σ' {s with heap:=h',toks:=t}:=
 H.drop (F:=[L]) (λb hb=>by rw[am.mp hb];exact⟨x.out.1,x.out.2.1,x.out.2.2,x.not,aw.notOwn ah,aw.notFrs ah⟩) (λb o hb e=>hs.extBut b o (by simpa using hb) e) (x.good (t:=t) g hs).inv
theorem vH.excFl{e:ai}{m:aI->Option af}(x:vH W φ TY L TV h)(hm:h.Ns L m)(hs:bf L h h')(f:oo W TY fl e h):oo W TY fl e h':=by
 refine m4 f λd f=>?_
 have ne:∀b o,h.get? b=some o->(∃vs,o.data=.fields vs)->b≠L:=λb o e zq q=>m4 zq λvs hd=>by
  refine pO hm λo' es ep e' d' Z=>?_;rw[q] at e;have:=(ae (e.symm.trans e'))▸hd;rw[d'] at this
  cases this
 exact⟨d,f.h0,hs.extBut _ _ (ne _ _ f.he ⟨_,f.hd⟩) f.he,f.hc,f.hd,f.v0,f.v1,f.ne,f.t0,hs.extBut _ _ (ne _ _ f.hT ⟨_,f.dT⟩) f.hT,f.dT,f.t3⟩
def yI(W:Wd)(c:Cx)(A:aH)(φ:List ai)(s:ag)(r:R Unit (List V))(use:Option (af->jM Unit))(Q E:af->ag->Prop):Prop:=
 match r with
 |.ok l σ'=>∀TV s' D UN,Good W [] φ s σ' TV s'->mT W TV s'.heap (.lst l) (.ref D)->vH W φ s.heap UN.locals TV s'.heap->sA W.M A E use Q UN (.ref D) (.ok .next) s'
 |.exc _ σ'=>∀TV e s',Good W [] φ s σ' TV s'->oO W s.heap c.env₀.frame e s'.heap->E (.ref e) s'
 |.bad=>False
theorem J4{iter:aa}{p:b8}{t:MX}{vs:List (aI×Nat)}{use:Option (af->jM Unit)}(hh:A.handled=none)(ar:oN A c q d)(hn:wq iter=true)(hk:scope.kind=.function)(hc:sk c.ck scope.names vs (oZ t)=true)(VF:∀x i,lv.lookup x=some i->vs.lookup x=some i/\(oK c.ck scope.names).lookup x=some .local)(hct:zE lv t target=true)(hi:wh P W c q A (C q) target T8 iter)(ht:∀(ws:List ai) L,(∀a∈ws,W.base.get? a=none)->rY P (W.hides ws) (c.comp scope vs L) q A (C q) cond ifs)(he:∀(ws:List ai) L,(∀a∈ws,W.base.get? a=none)->nc P (W.hides ws) (c.comp scope vs L) q A (C q) e Uv)(H:ng W c ρ φ σ s)(h:yI W c A φ s ((dI P q (C q) T8 ρ σ).bind λit σ=>loopC it (uQ P q (C q) t cond e ρ) (it.fuel σ) 0 [] σ) use Q E):
  an W.M A (ii (.ListComp Uv [⟨target,iter,ifs,0⟩] scope pos) scope c.env p (iN []) false (eval iter c.env) use) Q E s:=by
 have fr:=λ{n:aI}=>tv (n:=n) H.ok hc;refine s9 (cl:=rV c.env scope.names []) rfl (λx=>vN hn _ x) (uh λn hn=>(fr hn).2.2) hk (sQ hc).1 (sQ hc).2 (hi H ?_)
 cases hd:dI P q (C q) T8 ρ σ with
 |bad=>rw[hd] at h;exact h.elim
 |exc u T5=>rw[hd] at h;exact h
 |ok it T5=>
  rw[hd,R.bind_ok] at h;intro T9 TW ws I F Dd T g₁ VS Xp hF hD sr VN h' UV V3 hget;generalize hZ:TW.heap.objs.size=Z at UV hget ⊢
  have V7:TW.heap.get? Z=none:=by rw[<-hZ];exact m9 _
  have WZ:TW.heap.get? (Z+1)=none:=by
   cases q:TW.heap.get? (Z+1) with
   |none=>rfl
   |some o=>exact absurd (aX q) (by rw[hZ];exact gN.mpr (kP _))
  have Xn:Inv ((W.hides ws).hide Z) T9 T5 h':=VS.hide V7 V3 ⟨_,hget⟩;have H₁:=H.hides g₁ Xp VS
  have Hc:ng (W.hides (Z::ws)) (c.comp scope vs (Z+1)) (blank (oZ t) ρ) T9 T5 {TW with heap:=h'}:=
   ng.comp (W:=W.hides (Z::ws)) (s:=TW) (H₁.ok.hide V7) (tg.same (W:=W.hides ws) (W':=W.hides (Z::ws)) rfl H₁.frs) H.sep hk hc WZ (g₁.inv.fresh WZ) UV V3 Xn
  have YQ:sf W c F Dd s.heap:=.of H hF sr.ok.sub
  have WD:∀b∈F,∃o,TW.heap.get? b=some o:=λb hb=>by
   refine Lq (sr.ok.out VN b hb) λZ Z o e Z=>?_;exact⟨o,e⟩
  have W2:∀b,(∃n,(rV c.env scope.names []).lookup n=some b)->b∈ownOf c.env:=λb zq=>m4 zq λn hn=>mem_ownOf (tu (λZ Z hm=>absurd hm (by simp)) n b (mem_of_lookup hn))
  have Wz:∀b∈ownOf (c.comp scope vs (Z+1)).env,b=Z+1\/b∈ownOf c.env:=λb hb=>by
   rcases oV hb with q | ⟨n,hn⟩
   .exact .inl q
   .exact .inr (W2 b ⟨n,hn⟩)
  have aw:sf (W.hides (Z::ws)) (c.comp scope vs (Z+1)) F Dd s.heap:=by
   refine⟨hF,λb hb hm=>?_,λ{b} hb hm=>?_,λ{b} hb=>YQ.notFrs hb,H.inv.base⟩
   .rcases aG.mp hm with hm | hm
    .rcases aA.mp hm with q | hm
     .refine m4 (WD b (sr.ok.sub b hb)) λo e=>?_;rw[q,V7] at e;cases e
     .exact hD b hb hm
    .exact YQ.hid b hb hm
   .rcases Wz b hm with q | q
    .refine m4 (WD b hb) λo e=>?_;rw[q,WZ] at e;cases e
    .exact YQ.notOwn hb q
  have Ug:Good W [] φ s T5 T9 {TW with heap:=h'}:=g₁.trans (Good.keeps g₁.inv V3);have old:∀b,TW.heap.get? b=none->s.heap.get? b=none:=λb hb=>g₁.evo.fresh hb
  have Zo:sf W c [Z,Z+1] [] s.heap:=.of H (λb hb=>by
   rcases aA.mp hb with q | q
   .rw[q];exact old _ V7
   .rw[am.mp q];exact old _ WZ) λZ hb=>nomatch hb
  have hZh:Z∉W.hid:=λhm=>by refine m4 (g₁.inv.hid Z hm) λo e=>?_;rw[V7] at e;cases e
  have hLh:Z+1∉W.hid:=λhm=>by refine m4 (g₁.inv.hid _ hm) λo e=>?_;rw[WZ] at e;cases e
  have hne:Z≠Z+1:=aS (aR _)
  have gone:∀{ρ Uf Ul T2},ng (W.hides (Z::ws)) (c.comp scope vs (Z+1)) ρ Uf Ul T2->vH W φ s.heap (Z+1) Uf T2.heap:=λ{ρ Uf Ul T2} Ub=>by
   refine mO Ub.ok.loc λm hm Z=>?_;exact⟨old _ WZ,⟨Ub.ok.out.1,hLh,Ub.ok.out.2⟩,m,hm⟩
  have Y2:∀a∈Z::ws,W.base.get? a=none:=λa ha=>by
   rcases aA.mp ha with q | q
   .rw[q];exact H.inv.nobase (old _ V7)
   .exact H.inv.nobase (Xp a q)
  have VR:dc W.M A (.compLoop (.ListComp Uv [⟨target,iter,ifs,0⟩] scope pos) 0 (.ref I) (.ref Z) (c.comp scope vs (Z+1)).env) (sA W.M A E use Q (di scope (rV c.env scope.names []) (Z+1) c.env) (.ref Z)) {TW with heap:=h'}:=by
   refine Ei (W:=W.hides (Z::ws)) (c:=c.comp scope vs (Z+1)) (φ₀:=φ) (s₀:=s) (fu:=it.fuel T5) (ρ:=ρ) (ρ':=blank (oZ t) ρ) (l:=[]) (lv:=lv) (C:=λZ=>C q) hh ar.comp (λx i hx=>?_) hct (λv=>Bj) (λi hi=>by rw[vJ,if_pos hi])
    (ht (Z::ws) (Z+1) Y2) (he (Z::ws) (Z+1) Y2) (sr.hid Z) aw (old _ WZ) (bR _ ah) (old _ V7) (λhm=>?_) (λhm=>?_) (λhm=>?_) (Ug.to Xn) Hc (sr.move VN V7 V3) ⟨(g₁.inv.fresh V7).1,[],0,by simp,hget,.nil'⟩ ?_
   .refine nE (VF x i hx) λa b=>?_;refine⟨a,λZ=>?_⟩;show (mB scope c.env).names.lookup x=_;rw[tN (vars:=c.vars) H.ok.kind];exact b
   .refine m4 (WD Z hm) λo e=>?_;rw[V7] at e;cases e
   .rcases Wz Z hm with q | q
    .exact hne q
    .exact Zo.notOwn ah q
   .exact Zo.notFrs ah hm
   .suffices key:∀r,yI W c A φ s r use Q E->o5 (W.hides (Z::ws)) (c.comp scope vs (Z+1)) (blank (oZ t) ρ) Z φ s r (sA W.M A E use Q (di scope (rV c.env scope.names []) (Z+1) c.env) (.ref Z)) from key _ h
    clear h
    intro r h
    cases r with
    |bad=>exact h
    |ok l Ul=>
     intro Uf T2 g Ub acc;obtain ⟨ho,ys,n,hz,e,r⟩:=acc
     exact h Uf T2 Z (c.comp scope vs (Z+1)).env g.bares (by
      exact⟨Z,ys,n,rfl,⟨ho,hZh⟩,az hz (by decide),e,r.bares⟩) (gone Ub)
    |exc u Ul=>
     intro Uf ex T2 g Ub ⟨L₀,hL₀,fl⟩;replace hL₀:c.env₀.frame=some L₀:=hL₀;have gn:=gone Ub;refine m4 gn.ns λm hm=>?_;refine⟨m,hm,λUE hs=>?_⟩;have Vl:oo W s.heap (bH L₀) ex UE:=gn.excFl hm hs (oo.same (W:=W.hides (Z::ws)) (W':=W) rfl fl);have gg:=gn.good (t:=T2.toks) (h':=UE) g.bares hs;have Hg:ng W c ρ Uf Ul {T2 with heap:=UE}:=H.good gg;refine CY (F:=oQ (c.env₀::c.out)) Vl λUP hop Vi=>?_;refine h Uf ex _ (gg.hop (t:=T2.toks) H.inv.base hop Hg.frs.at) ?_;have e1:(di scope (rV c.env scope.names []) (Z+1) c.env).frame=c.env₀.frame:=ar.frame;rw[e1,hL₀] at Vi;rw[hL₀];exact Vi.held
  exact iK VR ((sr.hid Z).self (sr.move VN V7 V3) VR)
end
section
variable {W:Wd}{c:Cx}{own φ TV:List ai}{σ σ':St}{s s':ag}{ρ ρ':mQ}{E:af->ag->Prop}{A:aH}{q:Bool}{d:Nat}{P:Pg}{C:Bool->Call}
structure zy(P:Pg)(W:Wd)(c:Cx)(A:aH)(C:Bool->Call)(t T8 cond e:MX)(target iter Uv:aa)(ifs:List aa)(scope:fD):Prop where
 hn:wq iter=true
 hk:scope.kind=.function
 ex:∃lv vs,sk c.ck scope.names vs (oZ t)=true/\(∀x i,lv.lookup x=some i->vs.lookup x=some i/\(oK c.ck scope.names).lookup x=some .local)/\zE lv t target=true/\
  (∀(ws:List ai) L,(∀a∈ws,W.base.get? a=none)->rY P (W.hides ws) (c.comp scope vs L) false A (C false) cond ifs)/\
  (∀(ws:List ai) L,(∀a∈ws,W.base.get? a=none)->nc P (W.hides ws) (c.comp scope vs L) false A (C false) e Uv)
 hi:wh P W c false A (C false) target T8 iter
theorem yI.ofV{r:R Unit (List V)}(H:ng W c ρ φ σ s)(h:mS W c φ s (r.bind λl σ=>.ok (.lst l) σ) (mT W) Q E):yI W c A φ s r none Q E:=by
 cases r with
 |bad=>exact h
 |exc u σ'=>exact h
 |ok l σ'=>
  intro TV s' D UN g rv gn;refine m4 gn.ns λm hm=>?_;exact⟨m,hm,λh' hs=>h TV _ _ (gn.good (t:=s'.toks) g hs) (gn.rep hs rv)⟩
noncomputable abbrev EL(P:Pg)(C:Call)(t T8 cond e:MX)(ρ:mQ)(σ:St):R Unit (List V):=
 (dI P false C T8 ρ σ).bind λit σ=>loopC it (uQ P false C t cond e ρ) (it.fuel σ) 0 [] σ
theorem R.bind_assoc'{r:R ε α}{f:α->St->R ε β}{g:β->St->R ε γ}:((r.bind f).bind g)=r.bind λa σ=>(f a σ).bind g:=by cases r<;>rfl
theorem EO(P:Pg)(C:Call)(t T8 cond e:MX)(ρ:mQ)(σ:St):dE P false C (.comp t T8 cond e) ρ σ=(EL P C t T8 cond e ρ σ).bind λl σ=>.ok (.lst l) σ:=R.bind_assoc'.symm
theorem HS{t:MX}{iter:aa}(ar:oN A c q d)(x:q=false->zy P W c A C t T8 cond e target iter Uv ifs scope):
  nc P W c q A (C q) (.comp t T8 cond e) (.ListComp Uv [⟨target,iter,ifs,0⟩] scope pos):=by
 intro ρ φ σ s Q E H h
 cases q with
 |true=>exact h.elim
 |false=>
  obtain ⟨hn,hk,⟨lv,vs,hc,VF,hct,ht,he⟩,hi⟩:=x rfl;rw[EO] at h;rw[eval_ListComp];exact J4 (use:=none) (ar.handled rfl) ar hn hk hc VF hct hi ht he H (yI.ofV H h)
theorem mW.gdb{p:Prop}[Decidable p]{r:R mQ mQ}{f:mQ->St->R mQ (Fl×mQ)}{Q:fF->ag->Prop}(h:mW W c own φ s ((if p then r else .bad).bind f) Q E):p/\mW W c own φ s (r.bind f) Q E:=by
 by_cases hp:p
 .rw[if_pos hp] at h;exact⟨hp,h⟩
 .rw[if_neg hp] at h;exact h.elim
theorem zg{i:Nat}{n:aI}{x:aa}{p:b8}(hc:c.vars.lookup n=some i)(hs:dU x (some (.Name n p)) pos.line c.env=pure false)(a:nc P W c q A (C q) e x):
  pe P W c q A C (.asg (.var i) e) (.Assign [.Name n p] x pos):=by
 intro ρ φ σ s Q E H h;refine wpAny_Assign_Name (a H (mS.ofS H h λv σ' TV y s' Z g rv H' hk=>?_)) hs;have hk:=mW.gdb hk;exact se (loc:=false) H' hc hk.1 rv (λq=>mP q) λUj Uk Uy=>hk.2 TV _ Uj Uk rfl Uy
theorem GP{i:Nat}{n:aI}{t:MX}{iter:aa}{p U9:b8}(ar:oN A c q d)(hc:c.vars.lookup n=some i)(x:q=false->zy P W c A C t T8 cond e target iter Uv ifs scope):
  pe P W c q A C (.asg (.var i) (.comp t T8 cond e)) (.Assign [.Name n p] (.ListComp Uv [⟨target,iter,ifs,0⟩] scope U9) pos):=by
 obtain ⟨b,hb⟩:∃b:Bool,dU (.ListComp Uv [⟨target,iter,ifs,0⟩] scope U9) (some (.Name n p)) pos.line c.env=pure b:=⟨_,rfl⟩
 cases b with
 |false=>exact zg hc hb (HS ar x)
 |true=>
  intro ρ φ σ s Q E H h
  cases q with
  |true=>exact h.elim
  |false=>
   obtain ⟨hn,hk,⟨lv,vs,hc',VF,hct,ht,he⟩,hi⟩:=x rfl;have h:mW W c (ownOf c.env) φ s (((((EL P (C false) t T8 cond e ρ σ).bind λl σ=>.ok (.lst l) σ).lift ρ)).bind λv σ=>(dA P false (C false) (.var i) v ρ σ).bind λρ σ=>.ok (.next,ρ) σ) Q E:=EO P (C false) t T8 cond e ρ σ▸h;rw[exec_Assign_Name_used _ _ _ _ hb];refine ac (bv (ac ?_));show an _ A (do let _ <-ii (.ListComp Uv [⟨target,iter,ifs,0⟩] scope U9) scope c.env _ (iN []) false (eval iter c.env) (some (iI (.Name n p) c.env))) _ _ s;refine ac (J4 (use:=some (iI (.Name n p) c.env)) (ar.handled rfl) ar hn hk hc' VF hct hi ht he H ?_);change yI W c A φ s (EL P (C false) t T8 cond e ρ σ) _ _ _
   revert h
   generalize EL P (C false) t T8 cond e ρ σ=r;intro h
   cases r with
   |bad=>exact h
   |exc u T5=>
    intro T9 Uq TW g₁ Ui;exact h T9 Uq TW g₁.up Ui (H.good g₁)
   |ok l T5=>
    have h:=mW.gdb h;intro T9 TW D UN g₁ rv gn
    .have XA:=h.1;have h:=h.2;have aw:sf W c [UN.locals] [] s.heap:=.of H (λb hb=>by rw[am.mp hb];exact gn.new) λZ hb=>nomatch hb;show an W.M A (iI (.Name n p) c.env (.ref D)) _ _ _;refine PySem.wpAny_assign_Name (se (loc:=false) (H.good g₁) hc XA rv (λq=>mP q) λUj Uk Uy=>?_);refine ux gn.ns λm o es ep e1 d1 r1 r2=>?_
     obtain ⟨sl,e3,_⟩:=Uk.evo.keep _ o e1 λhm=>by
      rcases aG.mp hm with q | q
      .exact gn.out.1 q
      .exact aw.notOwn ah q
     have WE:vH W φ s.heap UN.locals T9 Uj.heap:=⟨gn.new,gn.out,m,_,es,ep,e3,d1,r1,r2⟩;refine⟨m,⟨_,es,ep,e3,d1,r1,r2⟩,λh' hs=>al (al ?_)⟩;have gg:Good W (ownOf c.env) φ s T5 T9 Uj:=g₁.up.trans Uk;exact h T9 _ _ (WE.good (t:=Uj.toks) gg hs) rfl (WE.here (t:=Uj.toks) aw gg hs Uy)
end
def wg(P:Pg)(W:Wd)(c:Cx)(q:Bool)(A:aH)(C:Call)(t:MX)(x:aa):Prop:=∀⦃ρ:mQ⦄ ⦃φ:List ai⦄ ⦃σ:St⦄ ⦃s:ag⦄ ⦃v:V⦄ ⦃y:af⦄ ⦃Q:fF->ag->Prop⦄ ⦃E:af->ag->Prop⦄,
 ng W c ρ φ σ s->mT W φ s.heap v y->mW W c (ownOf c.env) φ s ((dA P q C t v ρ σ).bind λρ σ=>.ok (.next,ρ) σ) Q E->an W.M A (iI x c.env y) (λZ s=>Q .next s) E s
def zz(x:aa):Prop:=∀xs env,cU (x::xs) env=(false,iI x env)::cU xs env
class inductive si(P:Pg)(W:Wd)(c:Cx)(q:Bool)(A:aH)(C:Call):MX->List aa->Prop where
 |nil:si P W c q A C .nil []
 |cons {t ts x xs}:zz x->wg P W c q A C t x->si P W c q A C ts xs->si P W c q A C (.cons t ts) (x::xs)
section
variable {c:Cx}{s:ag}{ρ':mQ}{q:Bool}{P:Pg}{C:Call}{CC:Bool->Call}
theorem si.length{ts:MX}{xs:List aa}(h:si P W c q A C ts xs):Li ts=xs.length:=by
 induction h with
 |nil=>rfl
 |cons _ _ _ ih=>exact congrArg (·+1) ih
theorem si.each{env:d9}{ts:MX}{xs:List aa}(h:si P W c q A C ts xs):(cU xs env).length=xs.length/\(cU xs env).findIdx? (·.1)=none:=by
 induction h with
 |nil=>exact⟨rfl,rfl⟩
 |cons h0 _ _ ih=>
  rw[h0];exact⟨congrArg (·+1) ih.1,by rw[jK,ih.2];rfl⟩
theorem mW.bindA{r:R mQ mQ}{k:mQ->St->R mQ (Fl×mQ)}{Q Q₁:fF->ag->Prop}(h:mW W c own φ s (r.bind k) Q E)(hk:∀ρ' σ' TV s',r=.ok ρ' σ'->Good W own φ s σ' TV s'->ng W c ρ' TV σ' s'->mW W c own TV s' (k ρ' σ') Q E->Q₁ .next s'):mW W c own φ s (r.bind λρ σ=>.ok (.next,ρ) σ) Q₁ E:=by
 cases r with
 |bad=>exact h
 |exc ρ' σ'=>exact h
 |ok ρ' σ'=>exact λTV f s' g rf H'=>(show f=.next from rf)▸hk ρ' σ' TV s' rfl g H' (mW.step g h)
theorem mW.assoc{r:R mQ α}{f:α->St->R mQ β}{k:β->St->R mQ (Fl×mQ)}{Q:fF->ag->Prop}(h:mW W c own φ s ((r.bind f).bind k) Q E):mW W c own φ s (r.bind λa σ=>(f a σ).bind k) Q E:=R.bind_assoc'▸h
theorem mW.optB{o:Option α}{f:α->R mQ β}{k:β->St->R mQ (Fl×mQ)}{Q:fF->ag->Prop}(h:mW W c own φ s ((R.opt o f).bind k) Q E):∃a,o=some a/\mW W c own φ s ((f a).bind k) Q E:=by
 cases o with
 |none=>exact h.elim
 |some a=>exact⟨a,rfl,h⟩
theorem mW.gdB{p:Prop}[Decidable p]{r:R mQ β}{k:β->St->R mQ (Fl×mQ)}{Q:fF->ag->Prop}(h:mW W c own φ s ((Mine.Internal.gd p r).bind k) Q E):p/\mW W c own φ s (r.bind k) Q E:=by
 unfold Mine.Internal.gd at h
 by_cases hp:p
 .rw[if_pos hp] at h;exact⟨hp,h⟩
 .rw[if_neg hp] at h;exact h.elim
theorem PW{i:Nat}{n:aI}{p:b8}(hc:c.vars.lookup n=some i):wg P W c q A C (.var i) (.Name n p):=by
 intro ρ φ σ s v y Q E H r h;have h:=mW.gdb h;rw[hJ];exact ac (bv (sZ (loc:=false) H hc h.1 r (λq=>mP q) λs' g H'=>h.2 φ .next s' g rfl H'))
theorem Nb(ok:ot W P)(hK:K.In W.base)(cf:∀c,qO K (W.cls c) attrs){k:Nat}{nm:aI}{x:aa}(hS:W.S[k]?=some nm)(hk:nm∈attrs)(a:nc P W c q A C e x):
  wg P W c q A C (.attr e k) (.Attribute x nm pos):=by
 intro ρ φ σ s v y Q E H r h;rw[assign_Attribute];refine ac (aK (a H (mW.ofV H (mW.assoc h) λv' σ' TV y' s' Z g rv H' hk'=>?_)));refine mO (mW.optB hk') λUl e2 hk'=>?_;refine ac (bv (ac (aK (G7 (P:=P) ok (λa o e=>g.inv.base _ _ (hK a o e)) cf g.inv hS hk rv (g.rep r) e2 λUB Zj=>?_))));exact wpAny_release (hk' TV .next UB Zj.up rfl (H'.good Zj))
theorem PU(ok:ot W P){i:MX}{x z:aa}(a:nc P W c q A C e x)(b:nc P W c q A C i z):wg P W c q A C (.idx e i) (.Subscript x z pos):=by
 intro ρ φ σ s v y Q E H r h;rw[assign_Subscript];refine ac (aK (a H (mW.ofV H (mW.assoc h) λWK T5 T9 X8 TW Z g₁ Xf H₁ T1=>?_)));refine ac (aK (b H₁ (mW.ofV H₁ (mW.assoc T1) λWk Ul Uf WJ T2 Z Ug Wo Ub Uh=>?_)));refine mO (mW.optB Uh) λUS e3 Uh=>?_;refine ac (bv (ac (aK (G8 ok Ug.inv (Ug.rep Xf) Wo (Ug.rep (g₁.rep r)) e3 λUj Uk=>?_))));exact wpAny_release (Uh Uf .next Uj Uk.up rfl (Ub.good Uk))
theorem as_list{ts:MX}{xs:List aa}(a:si P W c q A C ts xs):∀{l:List V} {ys:List af} {ρ:mQ} {φ:List ai} {σ:St} {s:ag} {Q:fF->ag->Prop},ng W c ρ φ σ s->nf W φ s.heap l ys->
  mW W c (ownOf c.env) φ s ((S9 P q C ts l ρ σ).bind λρ σ=>.ok (.next,ρ) σ) Q E->an W.M A (c9 ((cU xs c.env).map (·.2)) ys) (λZ s=>Q .next s) E s:=by
 induction a with
 |nil=>
  intro l ys ρ φ σ s Q H r h
  cases l with
  |cons _ _=>exact h.elim
  |nil=>rw[show ys=[] from r];exact al (h φ .next s (.refl H.inv) rfl H)
 |@cons t ts x xs a0 a1 a2 ih=>
  intro l ys ρ φ σ s Q H r h
  cases l with
  |nil=>exact h.elim
  |cons v l=>
   refine mU r.uncons λy zs e rv rl=>?_;rw[a0,e];show an W.M A (do iM zs (iI x c.env y);c9 ((cU xs c.env).map (·.2)) zs) _ E s
   exact ac (aK (a1 (Q:=λZ s'=>an W.M A (c9 ((cU xs c.env).map (·.2)) zs) (λZ s=>Q .next s) E s') H rv (mW.bindA (mW.assoc h) λρ' σ' TV s' Z g H' hk=>
    ih H' (rl.evo (X:=φ++ownOf c.env) g.evo (own_apart H) g.grows) hk)))
theorem FS(r:mT W φ h (.tup l) y):∃ad zs m,y=.ref ad/\zs.length=l.length/\h.get? ad=some (qY zs m)/\nf W φ h l zs:=by
 refine nk r λad zs m e Z Z ho rl=>?_;exact⟨ad,zs,m,e,rl.length,ho,rl⟩
theorem PV(hh:q=false->A.handled=none){ts:MX}{xs:List aa}{k:Nat}{p:b8}(a:si P W c q A C ts xs):wg P W c q A C (.tup ts) (.Tuple xs k p):=by
 intro ρ φ σ s v y Q E H r h;have h:=mW.gdB h;refine mO (mW.optB h.2) λl e h1=>?_;have h1:=mW.gdB h1;rw[oy e] at r;refine mZ (FS r) λad zs n ey hz ho rl=>?_;refine nE (a.each (env:=c.env)) λe1 e2=>?_;rw[ey];refine jO (items:=zs.toArray) (hh h.1) ⟨_,ho,rfl,n,rfl⟩ (by rw[e1,aY,hz,<-h1.1,a.length]) e2 λh' he=>?_;have g:Good W [] φ s σ φ {s with heap:=h'}:=Good.keeps H.inv λb o e=>he b o (aS (aX e)) e;exact as_list a (H.good g) (g.repL rl) (mW.step g.up h1.2)
theorem Ef{x y:aa}{n:aI}{p:b8}(l:Nat)(env:d9):dU x (some (.Attribute y n p)) l env=pure false:=by
 unfold dU
 split<;>rfl
theorem GX{x y z:aa}{p:b8}(l:Nat)(env:d9):dU x (some (.Subscript y z p)) l env=pure false:=by
 unfold dU
 split<;>rfl
theorem zn{x:aa}{ts:List aa}{k:Nat}{p:b8}(l:Nat)(env:d9):dU x (some (.Tuple ts k p)) l env=pure false:=by
 unfold dU
 split<;>rfl
theorem MN{t:MX}{z x:aa}(hn:dU x (some z) pos.line c.env=pure false)(hs:zz z)(hw:dR [z] x c.env=pure none)(b:wg P W c q A (CC q) t z)(a:nc P W c q A (CC q) e x):pe P W c q A CC (.asg t e) (.Assign [z] x pos):=by
 intro ρ φ σ s Q E H h;refine wpAny_Assign_stores (a H (mS.ofS H h λv σ' TV y s' Z g rv H' hk=>?_)) hn hw;rw[hs];exact b H' rv hk
end
noncomputable def Oa:aa->Bool:=λ| .Starred ..=>true | _=>false
noncomputable def OF(names:List (aI×bN))(line:Nat):aa->Option aI:=fun
 |.Name id pos=>if names.lookup id==some .local&&pos.line==line then some id else none
 |_=>none
noncomputable def MP(a b c d e:Bool)(ns:List aI):Option (Option (List aI)):=if a=true then some none else if b=true then some none else if c=true then some none else if d=true then some none else if e=true then none else some (some ns)
noncomputable def Rr(a b c d e:Bool)(ns:List aI)(u:jM (Option (List aI))):jM (Option (List aI)):=if a=true then pure none else if b=true then pure none else if c=true then pure none else if d=true then pure none else if e=true then u else pure (some ns)
theorem Ed{a b c d e:Bool}{ns:List aI}{u:jM (Option (List aI))}{o:Option (List aI)}:MP a b c d e ns=some o->Rr a b c d e ns u=pure o:=by
 cases a with
 |true=>exact λh=>congrArg pure (ae h)
 |false=>cases b with
  |true=>exact λh=>congrArg pure (ae h)
  |false=>cases c with
   |true=>exact λh=>congrArg pure (ae h)
   |false=>cases d with
    |true=>exact λh=>congrArg pure (ae h)
    |false=>cases e with
     |true=>exact mV
     |false=>exact λh=>congrArg pure (ae h)
noncomputable def AQ(names:List (aI×bN))(ts:List aa):List aI:=ts.filterMap (OF names ((ts.head?.map (·.pos.line)).getD 0))
noncomputable def MQ(names:List (aI×bN))(ts vs:List aa):Option (Option (List aI)):=
 MP (!(ts.length==2||ts.length==3)||vs.length != ts.length||gP != .function) (vs.any Oa) ((AQ names ts).length != ts.length||(AQ names ts).eraseDups.length != (AQ names ts).length) (vs.all (foldedForSure 8)) (vs.all (constantsAlone 8)) (AQ names ts)
theorem CM{env:d9}{ts vs:List aa}{k k':Nat}{p p':b8}{o:Option (List aI)}(hk:env.scope.kind=.function)(h:MQ env.scope.names ts vs=some o):
  dR [.Tuple ts k p] (.Tuple vs k' p') env=pure o:=by
 have hb:env.blockKind=.function:=by unfold d9.blockKind;rw[hk];rfl
 unfold dR;rw[hb];exact Ed h
noncomputable def IR(x:aa):Bool:=av (motive_1:=λZ=>Bool) x (λZ Z Z=>true) (λZ Z Z=>true) (λZ Z Z Z=>true) (λZ Z Z=>true) (λZ Z Z Z=>true) (λZ Z Z Z=>true) (λZ Z Z=>true) (λZ Z Z=>true) (λZ Z Z Z=>true) (λZ Z Z Z=>true) (λZ Z Z Z Z=>true) (λZ Z Z Z=>true) (λZ Z=>true) (λZ Z=>true) (λZ Z=>true) (λZ Z Z Z=>true) (λZ Z Z Z=>true) (λZ Z Z Z=>true) (λZ Z=>true) (λZ Z Z=>true) (λZ Z Z=>true) (λZ Z Z=>true) (λZ Z=>true) (λZ Z=>true) (λZ Z=>true) (λZ Z Z=>false) (λZ Z Z Z=>true)
theorem Ee{ts:List aa}{k:Nat}{p:b8}{x:aa}{env:d9}:IR x=true->dR [.Tuple ts k p] x env=pure none:=by
 cases x<;>first | exact λZ=>rfl | exact mP
section
variable {c:Cx}{s:ag}{ρ':mQ}{q:Bool}{P:Pg}{C:Call}{CC:Bool->Call}
theorem CR{n:Nat}{Q:List af->ag->Prop}(hh:A.handled=none)(H:ng W c ρ φ σ s)(r:mT W φ s.heap (.tup l) y)(hl:n=l.length)(h:∀ys s',Good W [] φ s σ φ s'->nf W φ s'.heap l ys->ng W c ρ φ σ s'->Q ys s'):an W.M A (unpackItems y n none) Q E s:=by
 refine mZ (FS r) λad zs m e hz ho rl=>?_
 have hn:n=zs.toArray.size:=by rw[aY,hz,hl]
 rw[e,hn];refine unpackItems_tuple hh ⟨_,ho,rfl,m,rfl⟩ λh' he=>?_;have g:Good W [] φ s σ φ {s with heap:=h'}:=Good.keeps H.inv λb o e=>he b o (aS (aX e)) e;exact h _ _ g (g.repL rl) (H.good g)
theorem yj{ts:MX}{is:List Nat}:sY ts=some is->(ts=.nil/\is=[])\/∃e es i js,ts=.cons e es/\is=i::js/\e=.var i/\sY es=some js:=by
 cases ts with
 |nil=>exact λh=>.inl ⟨rfl,(ae h).symm⟩
 |cons e es=>exact λh=>(bs h).elim λi h=>(ms h.2).elim λjs h'=>.inr ⟨e,es,i,js,rfl,h'.2.symm,vB h.1,h'.1⟩
 |_=>exact mV
theorem HM{is:List Nat}{k:mQ->St->R mQ (Fl×mQ)}{Q:fF->ag->Prop}:∀{ts:MX} {l:List V} {ρ:mQ},sY ts=some is->mW W c own φ s ((S9 P q C ts l ρ σ).bind k) Q E->∃ρ',bindL is l ρ=some ρ'/\mW W c own φ s (k ρ' σ) Q E:=by
 induction is with
 |nil=>
  intro ts l ρ hv h
  rcases yj hv with ⟨e,_⟩ | ⟨_,_,_,_,_,e,_⟩
  .rw[e] at h
   cases l with
   |nil=>exact⟨ρ,rfl,h⟩
   |cons _ _=>exact h.elim
  .cases e
 |cons i is ih=>
  intro ts l ρ hv h
  rcases yj hv with ⟨_,e⟩ | ⟨e,es,j,js,e1,e2,e3,e4⟩
  .cases e
  .rw[e1,e3] at h;rw[<-(dP e2).1] at h
   cases l with
   |nil=>exact h.elim
   |cons v l=>
    have h:=mW.gdb (mW.assoc h);refine mO (ih (e4.trans (congrArg some (dP e2).2.symm)) h.2) λρ' e h'=>?_;refine⟨ρ',?_,h'⟩;show ((og (i < ρ.length) (ρ.set i (some v))).bind λρ=>bindL is l ρ)=_;rw[show og (i < ρ.length) (ρ.set i (some v))=some (ρ.set i (some v)) from if_pos h.1];exact e
theorem F4{is:List Nat}:∀{l:List V} {ρ ρ':mQ},bindL is l ρ=some ρ'->l.length=is.length:=by
 induction is with
 |nil=>intro l ρ ρ' h;refine mO (ms h) λZ e Z=>?_;rw[rj e];rfl
 |cons i is ih=>
  intro l ρ ρ' h;refine mO (bs h) λv e h=>?_;refine mO (bs h) λT3 Z h=>?_;rw[s6 e];exact congrArg (·+1) (ih h)
theorem Df{i:Nat}{v:Option V}{is:List Nat}:∀{l:List V} {ρ ρ':mQ},i∉is->i < ρ.length->bindL is l (ρ.set i v)=some ρ'->∃T3,bindL is l ρ=some T3/\ρ'=T3.set i v/\i < T3.length:=by
 induction is with
 |nil=>
  intro l ρ ρ' _ hi h;refine mO (ms h) λu e h=>?_;exact⟨ρ,by show (sP l).map _=_;rw[e];rfl,h.symm,hi⟩
 |cons j is ih=>
  intro l ρ ρ' hm hi h;refine mO (bs h) λx e1 h=>?_;refine mO (bs h) λUt e2 h=>?_;have o:=nu e2;have ne:i≠j:=λq=>hm (by rw[q];exact ah);rw[<-o.2,List.set_comm _ _ ne] at h
  have oj:j < ρ.length:=by have:=o.1;rwa [bG] at this
  refine mO (ih (λq=>hm (ao _ q)) (by rw[bG];exact hi) h) λT3 e3 h'=>?_;refine⟨T3,?_,h'⟩;show ((hd l).bind λv=>(og (j < ρ.length) (ρ.set j (some v))).bind λρ=>bindL is (tl l) ρ)=_;rw[e1];show ((og (j < ρ.length) (ρ.set j (some x))).bind λρ=>bindL is (tl l) ρ)=_;rw[show og (j < ρ.length) (ρ.set j (some x))=some (ρ.set j (some x)) from if_pos oj];exact e3
theorem w_rev{is:List Nat}:∀{ns:List aI},is.map some=ns.map (λn=>c.vars.lookup n)->is.Nodup->∀{l:List V} {ys:List af} {ρ ρ':mQ} {s:ag} {fs:List (af->jM Unit)} {zs:List af} {Q:Unit->ag->Prop},ng W c ρ φ σ s->nf W φ s.heap l ys->bindL is l ρ=some ρ'->
  (∀s',Good W (ownOf c.env) φ s σ φ s'->ng W c ρ' φ σ s'->an W.M A (c9 fs zs) Q E s')->an W.M A (c9 ((ns.map λn=>bindName c.env n).reverse++fs) (ys.reverse++zs)) Q E s:=by
 induction is with
 |nil=>
  intro ns hn _ l ys ρ ρ' s fs zs Q H r e h;refine mO (ms e) λZ e1 e2=>?_;rw[rj e1] at r;rw[show ys=[] from r,List.map_eq_nil_iff.mp hn.symm];exact h s (.refl H.inv) (e2▸H)
 |cons i is ih=>
  intro ns hn nd l ys ρ ρ' s fs zs Q H r e h
  cases ns with
  |nil=>exact nomatch hn
  |cons n ns=>
   have hn:=dP hn;have nd:=bM.mp nd;refine mO (bs e) λv e1 e=>?_;refine mO (bs e) λUt e2 e=>?_;have o:=nu e2;rw[<-o.2] at e;refine nP (Df nd.1 o.1 e) λT3 e3 e4 hi=>?_;rw[s6 e1] at r;refine mU r.uncons λy X9 ey ry rl=>?_;rw[ey,ie,j0,j0,aP,aP];refine ih hn.2 nd.2 H rl e3 λTW g₁ H₁=>?_;show an W.M A (do iM zs (bindName c.env n y);c9 fs zs) _ E TW;exact ac (aK (sZ (loc:=false) H₁ hn.1.symm hi (ry.evo (X:=φ++ownOf c.env) g₁.evo (own_apart H) g₁.grows) (λq=>mP q) λT2 Ug Ub=>h T2 (g₁.trans Ug) (e4▸Ub)))
theorem OU{is:List Nat}{ns:List aI}{tt:MX}{x:aa}{ts:List aa}{k:Nat}{p:b8}(hh:q=false->A.handled=none)(hv:sY tt=some is)(hn:is.map some=ns.map (λn=>c.vars.lookup n))(nd:is.Nodup)(hs:swapsWithSole [.Tuple ts k p] x pos.line c.env=pure false)(hw:dR [.Tuple ts k p] x c.env=pure (some ns))(a:nc P W c q A (CC q) e x):
  pe P W c q A CC (.asg (.tup tt) e) (.Assign [.Tuple ts k p] x pos):=by
 intro ρ φ σ s Q E H h;refine Assign_Tuple_swapped (a H (mS.ofS H h λv σ' TV y s' Z g rv H' hk=>?_)) hs hw;have hk:=mW.gdB hk;refine mO (mW.optB hk.2) λl e h1=>?_;have h1:=mW.gdB h1;refine mO (HM hv h1.2) λρ' eb h2=>?_;rw[oy e] at rv
 have hl:ns.length=is.length:=by rw[<-aU (f:=λn=>c.vars.lookup n),<-hn,aU]
 refine CR (hh hk.1) H' rv (hl.trans ((F4 eb).symm)) λys TW g₁ rl H₁=>?_;have z:=w_rev (A:=A) (fs:=[]) (zs:=[]) (Q:=λZ s=>Q .next s) (E:=E) hn nd H₁ rl eb λT2 Ug Ub=>al (h2 TV .next T2 (g₁.up.trans Ug) rfl Ub);rw[ba,ba,<-List.map_reverse] at z;exact z
end
section
variable {W:Wd}{c:Cx}{own φ TV:List ai}{σ σ':St}{s s' s₀:ag}{ρ ρ':mQ}{Q:fF->ag->Prop}{E:af->ag->Prop}{A:aH}{q:Bool}{d:Nat}{P:Pg}{C:Call}{CC:Bool->Call}
theorem zJ(H:ng W c ρ φ σ s){o:eT}(e:s.heap.get? b=some o)(hd:o.data=.fields vs):b∉φ++ownOf c.env:=λhm=>by
 have x:A6 s.heap b vs:=⟨o,e,hd⟩
 rcases aG.mp hm with hm | hm
 .exact H.inv.notF hm x
 .rcases oV hm with q | ⟨n,hn⟩
  .refine mO H.ok.loc λm UJ Z=>?_;obtain ⟨o',_,_,e1,d1,_⟩:=UJ;rw[q] at x;exact x.not e1 (by rw[d1];exact nofun)
  .refine oC (H.ok.cell n b hn) λZ Z Z u Vn Z=>?_;obtain ⟨o',e1,d1⟩:=Vn;exact x.not e1 (by rw[d1];exact nofun)
theorem wn(H:ng W c ρ φ σ s)(g:Good W (ownOf c.env) φ s σ' TV s'){o:eT}(e:s.heap.get? b=some o)(hd:o.data=.fields vs):∃o',s'.heap.get? b=some o'/\o'.cls=o.cls/\o'.data=.fields vs:=by
 refine mO (g.evo.keep b o e (zJ H e hd)) λsl e' Z=>?_;exact⟨_,e',rfl,hd⟩
theorem oo.good{e:ai}(x:oo W TY fl e s.heap)(H:ng W c ρ φ σ s)(g:Good W (ownOf c.env) φ s σ' TV s'):oo W TY fl e s'.heap:=by
 refine m4 x λd x=>?_;refine nP (wn H g x.he x.hd) λoe he hc hd=>?_;refine nP (wn H g x.hT x.dT) λoT hT Z dT=>?_;exact⟨⟨oe,d.vs,d.a0,d.T,oT,d.ts⟩,x.h0,he,hc.trans x.hc,hd,x.v0,x.v1,x.ne,x.t0,hT,dT,x.t3⟩
theorem oN.mark(a:oN A c q d)(e:af):oN (A.mark (some e)) c true d:=⟨a.frames,a.frame,a.depth,a.units,λq=>by cases q⟩
theorem zd(a:ai):bJ a≠byPass:=by intro x;cases x
theorem CV{e:ai}{Q:ag->Prop}(ar:oN A c q d)(x:Good W own φ s₀ σ' TV s)(H:ng W c ρ TV σ' s)(ex:oO W s₀.heap c.env₀.frame e s.heap)(hb:W.base.StaysIn s₀.heap)(h:∀TW,Good W own φ s₀ σ' TV TW->ng W c ρ TV σ' TW->oo W s₀.heap .none e TW.heap->Q TW):an W.M A (gy (.ref e) c.env) (λZ TW=>an W.M A (mc (.ref e) none) (λZ T2=>Q T2) E TW) E s:=by
 refine sH H.frs λZ UJ Z=>?_;obtain ⟨L,hL,_⟩:=UJ;rw[hL] at ex;refine AW ar.frames H.frs hL ar.frame (λb hb=>x.evo.fresh hb) ex λh' hop fl=>?_;have g:=x.hop (t:=s.toks) hb hop H.frs.at;have H₁:=H.hop (t:=s.toks) hop hb g.inv;refine qW (env:=c.env) (env':=c.env) (F:=oQ (c.env₀::c.out)) fl λUE VE Vl=>?_;have g':=g.hop (t:=s.toks) hb VE H₁.frs.at;exact h _ g' (H₁.hop (t:=s.toks) VE hb g'.inv) Vl
theorem mW.fin{r:R mQ (Fl×mQ)}{f:Fl×mQ->St->R mQ (Fl×mQ)}{g:mQ->St->R mQ (Fl×mQ)}{Q₁:fF->ag->Prop}(h:mW W c own φ s (r.fin f g) Q E)(hk:∀p σ' TV fl s',Good W own φ s σ' TV s'->s4 W TV s'.heap p.1 fl->ng W c p.2 TV σ' s'->mW W c own φ s (f p σ') Q E->Q₁ fl s')(he:∀ρ' σ' TV e s',Good W own φ s σ' TV s'->oO W s.heap c.env₀.frame e s'.heap->ng W c ρ' TV σ' s'->mW W c own φ s (g ρ' σ') Q E->UR (.ref e) s'):mW W c own φ s r Q₁ UR:=by
 cases r with
 |ok p σ'=>exact λTV fl s' g rf H=>hk p σ' TV fl s' g rf H h
 |exc ρ' σ'=>exact λTV e s' g x H=>he ρ' σ' TV e s' g x H h
 |bad=>exact h
theorem mW.next{r:R mQ (Fl×mQ)}{k:mQ->St->R mQ (Fl×mQ)}{Q₁:fF->ag->Prop}(h:mW W c own φ₀ s₀ (vz r k) Q E)(YM:Good W own φ₀ s₀ σ φ s)(hk:∀ρ' σ' TV s',Good W own φ₀ s₀ σ' TV s'->Good W own φ s σ' TV s'->ng W c ρ' TV σ' s'->mW W c own φ₀ s₀ (k ρ' σ') Q E->Q₁ .next s'):mW W c own φ s r Q₁ UR:=by
 cases r with
 |ok p σ'=>
  obtain ⟨fl,ρ'⟩:=p
  cases fl with
  |next=>exact λTV fl s' g rf H=>(show fl=.next from rf)▸hk ρ' σ' TV s' (YM.trans g) g H h
  |ret v=>exact h.elim
 |exc ρ' σ'=>exact h.elim
 |bad=>exact h.elim
theorem s4.good{fl:Fl}{f:fF}(r:s4 W φ s.heap fl f)(H:ng W c ρ φ σ s)(g:Good W (ownOf c.env) φ s σ' TV s'):s4 W TV s'.heap fl f:=by
 cases fl with
 |next=>exact r
 |ret v=>refine mO r λw e ZB=>?_;exact⟨w,e,ZB.evo g.evo (own_apart H) g.grows⟩
theorem s4.two{fl:Fl}{f:fF}(r:s4 W φ h fl f):f=.next\/∃v,f=.ret v:=by
 cases fl with
 |next=>exact .inl r
 |ret v=>refine mO r λw e Z=>?_;exact .inr ⟨w,e⟩
theorem OV{b f:MS}{Vt:Stmt}{fs:List Stmt}(ar:oN A c q d)(x:q=false->rJ P W c q A CC b body)(y:q=false->rJ P W c q A CC f (Vt::fs))(z:∀e,rJ P W c true (A.mark (some e)) CC f (Vt::fs)):pe P W c q A CC (.tryf b f) (.Try body [] [] (Vt::fs) pos):=by
 intro ρ φ σ s Q E H h;have h:=mW.gd h;have hq:=h.1;have hb:=H.inv.base;refine wpAny_Try_finally (x hq H (mW.fin h.2 (λp T5 T9 Wv TW g₁ rf H₁ h=>?_) λT3 T5 T9 e TW g₁ Wa H₁ h=>?_))
 .have plain:an W.M A (execs (Vt::fs) c.env) (λg s'=>match g with | .next=>Q Wv s' | g=>Q g s') (gw W.M A c.env (gQ W.M A c.env E)) TW:=
   y hq H₁ (mW.next h g₁ λUt Ul Uf T2 gg Ug Ub h=>h Uf Wv T2 gg (rf.good H₁ Ug) Ub)
  rcases rf.two with e | ⟨v,e⟩
  .rw[e] at plain ⊢;exact dN plain
  .rw[e] at plain ⊢;exact plain
 .refine sH H₁.frs λZ UJ Z=>?_;obtain ⟨L,hL,_⟩:=UJ;refine AW ar.frames H₁.frs hL ar.frame (λb hb=>g₁.evo.fresh hb) (hL▸Wa) λh' hop fl=>?_;have Ug:=g₁.hop (t:=TW.toks) hb hop H₁.frs.at;have Ub:=H₁.hop (t:=TW.toks) hop hb Ug.inv;refine⟨zd e,CV ar Ug Ub (hL▸fl.held) hb λUj Uk Uy Vi=>?_⟩;refine z (.ref e) Uy (mW.next h Uk λYV Vv U3 UH gg UI UT h=>?_);refine CY (F:=oQ (c.env₀::c.out)) (Vi.good Uy UI) λUw VZ WF=>?_;have V8:=gg.hop (t:=UH.toks) hb VZ UT.frs.at;refine h U3 e _ V8 ?_ (UT.hop (t:=UH.toks) VZ hb V8.inv);rw[ar.frame,hL] at WF;rw[hL];exact WF.held
structure A4 where
 nm:aI
 q:aI
 N:ai
 bs:List af
 bm:List af
 hdct:Bool
 sn:List aI
 sub:List af
 ab:Bool
 col:Option Bool
 dd:Option ai
 k0:Option af
 k1:Option af
 k2:Option af
 k3:Option af
 k5:Option af
noncomputable abbrev A4.obj(p:A4)(C:ai)(newId:String):eT:=fT p.nm p.q C p.N p.bs p.bm p.hdct p.sn p.sub p.ab p.col p.dd p.k0 p.k1 p.k2 p.k3 p.k5 newId
structure PK(W:Wd):Prop where
 cls:∃p newId,W.base.get? W.exc=some (A4.obj p W.exc newId)/\p.bm.contains (.type "BaseException")=true
theorem OW(gl:oR G W mg mb)(kf:PK W){b g:MS}{Vt:Stmt}{fs:List Stmt}{p p':b8}(ar:oN A c q d)(hc:nN c.ck "KindFault" = true)(x:q=false->rJ P W c q A CC b body)(z:∀e,rJ P W c true (A.mark (some e)) CC g (Vt::fs)):pe P W c q A CC (.tryx b g) (.Try body [.ExceptHandler (some (.Name "KindFault" p)) none (Vt::fs) p'] [] [] pos):=by
 intro ρ φ σ s Q E H h;have h:=mW.gd h;have hb:=H.inv.base;refine wpAny_Try_except (x h.1 H (mW.fin h.2 (λp T5 T9 Wv TW g₁ rf H₁ h=>?_) λT3 T5 T9 e TW g₁ Wa H₁ h=>?_))
 .have hq:=h T9 Wv TW g₁ rf H₁
  rcases rf.two with e | ⟨v,e⟩
  .rw[e] at hq ⊢;exact dN hq
  .rw[e] at hq ⊢;exact hq
 .refine CV ar g₁ H₁ Wa hb λT2 Ug Ub Vx=>?_;refine wpAny_handleBy_cons (codeAny_handlers_test ?_) (zd e);refine zw (M:=W.M) (A:=A.mark (some (.ref e))) gl hc Ub ?_;refine m4 (id Vx) λW1 Ue=>?_;refine nr kf.cls λVP newId hC V5=>?_;refine wpAny_excMatches_sub_self (Ub.inv.base _ _ hC) Ue.he Ue.hc V5 ?_;refine codeAny_handlers_suite (qW (env:=c.env) (env':=c.env) (F:=oQ (c.env₀::c.out)) Vx λUP V0 Vi=>?_);have Uk:=Ug.hop (t:=T2.toks) hb V0 Ub.frs.at;exact z (.ref e) (Ub.hop (t:=T2.toks) V0 hb Uk.inv) (mW.fin (mW.step Uk h) (λp Vv U3 YN UH UI Xh UT h=>h U3 YN UH UI Xh UT) λZ Z Z Z Z Z Z Z h=>h.elim)
end
section
open PySem.Builtin PySem.Builtin.ObjectAttr
section
variable {g:Array jV}{d:mD}{t:Nat}{os:lm}
variable {nm q:aI}{N:ai}{bs bm UF:List af}{hdct:Bool}{sn:List aI}{sub:List af}{ab:Bool}{col:Option Bool}{dd:Option ai}{k0 k1 k2 k3 k5:Option af}{B newId Vp:String}
theorem Ti{M:ge}{Q:α->ag->Prop}{s:ag}{c:Prop}[Decidable c]{a b:jM α}(h:¬c)(k:an M A b Q E s):an M A (if c then a else b) Q E s:=(if_neg h).symm▸k
theorem zS{M:ge}(F:fk B newId Vp UF)(hB:bm.contains (.type B)=true){Q:Unit->ag->Prop}(hC:h.get? C=some (fT nm q C N bs bm hdct sn sub ab col dd k0 k1 k2 k3 k5 newId))(hq:Q () ⟨h,g,d,t,os⟩):an M A (kC newId ⟨.ref C::rest,[]⟩) Q E ⟨h,g,d,t,os⟩:=by
 have hcont:(bJ C::bm).contains (.type B)=true:=by rw[cz,hB,iD]
 have hstar:=F.noStar;unfold kC;rw[F.newKind,F.newSplit];dsimp only
 repeat (first | refine bY hC ?_ | (refine cI hC ?_;rw[hcont]) | refine wpAny_staticBase_exc hC ?_ | refine kM hC ?_ | with_reducible refine Ti (by simp only[bne_self_eq_false,lU,gA,not_false_eq_true]) ?_ | wp_step)
 rw[F.newRow]
 repeat wp_step
 exact hq
theorem BH(F:fk B newId Vp UF)(hB:bm.contains (.type B)=true)(hA:bm.contains (.type "AttributeError")=false)(hN:bm.contains (.type "NameError")=false){R:cT->ag->Prop}(hC:h.get? C=some (fT nm q C N bs bm hdct sn sub ab col dd k0 k1 k2 k3 k5 newId))(hq:R (.ok (.ret (.ref (h.objs.size+1)))) ⟨(h.push {cls:=.type "tuple",data:=.seq rest.toArray}).push
   {cls:=.ref C,data:=.fields #[.ref h.objs.size,.none,.none,.none,.bool false,.none]},g,d,t,os⟩)(WB:rest.length<=bp):
  dc (aO prog w) A (.builtin newId ⟨.ref C::rest,[]⟩) R ⟨h,g,d,t,os⟩:=by
 have hends:=F.ends
 have hcB:(bJ C::bm).contains (.type B)=true:=by rw[cz,hB,iD]
 have hcA:(bJ C::bm).contains (.type "AttributeError")=false:=by rw[cz,hA];rfl
 have hcN:(bJ C::bm).contains (.type "NameError")=false:=by rw[cz,hN];rfl
 refine codeAny_builtinAt F.entry ?_;unfold b7.«BaseException.__new__»;refine iU ?_;show lB _ _ _ (stack >>= _) _ _ _;refine iU (PySem.wpAt_stack λp below=>eS ?_)
 wp_walk
 refine eS ?_;rw[F.owner]
 repeat (first | with_reducible refine wpAny_madeHere_exc F.canon hC ?_ | with_reducible refine bY hC ?_ | (with_reducible refine cI hC ?_;first | rw[hcB] | rw[hcA] | rw[hcN]) | wp_step)
 show R _ _;rw[bk];exact hq
theorem Lb(X:K.In h)(F:fk B newId Vp UF)(hB:bm.contains (.type B)=true)(hA:bm.contains (.type "AttributeError")=false)(hN:bm.contains (.type "NameError")=false){fI:ai}(hC:h.get? C=some (fT nm q C N bs bm hdct sn sub ab col dd k0 k1 k2 k3 k5 newId))(hi:dj K (.ref C) "__init__" = some (some (.ref fI)))(hf:jP K (.ref fI)=some (.type "function"))(WB:rest.length<=bp)(hq:∀h' e,lx h h' e (.ref C) rest->
   an (aO prog w) (A.under (.builtin "type.__call__" ⟨.ref C::rest,[]⟩)) (call (.ref fI) (.ref e::rest)) (λr s'=>r=.none/\Q (.ref e) s') E ⟨h',g,d,t,os⟩):
  an (aO prog w) A (call (.ref C) rest) Q E ⟨h,g,d,t,os⟩:=by
 have f1:=tc_lookup;have f2:=tc_bind (.ref C);have hT:(⟨h,g,d,t,os⟩:ag).TypeIs (.ref C) "type" := ⟨_,hC,rfl⟩;refine fc (iV ?_);show an _ _ (mw (.ref C) _) _ _ _
 repeat (any_goals (first | assumption | with_reducible refine bY hC ?_ | wp_step))
 refine⟨rfl,?_⟩;refine codeAny_call_builtin_at (fb _ (by decide +kernel)) entry_typeCall (wpAny_check_type_call_sub hC ?_);unfold b7.«type.__call__»
 repeat (first | with_reducible refine bY hC ?_ | with_reducible refine kM hC ?_ | wp_step)
 refine codeAny_call_builtin_code (fb _ F.quiet) (zS F hB hC ?_);refine BH F hB hA hN hC ?_ WB;show an _ _ _ _ _ _
 have up:∀b o,h.get? b=some o->((h.push {cls:=.type "tuple",data:=.seq rest.toArray}).push
   {cls:=.ref C,data:=.fields #[.ref h.objs.size,.none,.none,.none,.bool false,.none]}).get? b=some o:=λb o e=>aj _ (aj _ e)
 have hC₁:=up _ _ hC
 have hget:((h.push {cls:=.type "tuple",data:=.seq rest.toArray}).push
   {cls:=.ref C,data:=.fields #[.ref h.objs.size,.none,.none,.none,.bool false,.none]}).get? (h.objs.size+1)=some
   {cls:=.ref C,data:=.fields #[.ref h.objs.size,.none,.none,.none,.bool false,.none]}:=by heap_get
 have hcC:(bJ C::bm).contains (.ref C)=true:=by simp
 unfold gS
 repeat (first | with_reducible refine bY hget ?_ | (with_reducible refine cI hC₁ ?_;rw[hcC]) | wp_step)
 have m:lx h _ (h.objs.size+1) (.ref C) rest:=⟨up,ef (kP _),h.objs.size,hget,ef (aQ _),aj _ (jW rfl rfl)⟩
 have I:InstAt ((h.push {cls:=.type "tuple",data:=.seq rest.toArray}).push
   {cls:=.ref C,data:=.fields #[.ref h.objs.size,.none,.none,.none,.bool false,.none]}) (h.objs.size+1) _ C none:=⟨hget,rfl,rfl,trivial⟩
 refine cI hC₁ ?_;rw[hcC];refine ac (aK (special_fn (s:=⟨_,g,d,t,os⟩) (cX.In.keeps X up) I hi hf (bB (hq _ (h.objs.size+1) m) (λr s' hr=>?_) λZ Z x=>x)));refine nE hr λWI hQ=>?_;subst WI
 wp_walk
 exact hQ
end
section
variable {g:Array jV}{d:mD}{t:Nat}{os:lm}{x:ai}{cd:ki}{mA:aI->Option af}{name:aI}{v:af}
theorem BJ{M:ge}{dx:ai}{m:aI->Option af}{ns:List aI}{t0:lP}{s:ag}{Q:PySem.Fin->ag->Prop}(UV:s.heap.Ns1 dx m)(hw:Within m ns)(hsz:ns.length<=1000)(hq:∀h' tk,h'.Ns1 dx (λy=>if y=name then some v else m y)->bf dx s.heap h'->Q (.done (.ret .none)) {s with heap:=h',toks:=tk}):an M A (storeInDict dx (.str name t0) name v) Q E s:=by
 unfold storeInDict newKeyGuard;refine ac (al (ac (wpAny_nsSet1 UV λh' U1 Um=>?_)));obtain ⟨oD,esD,epD,hoD,hdD,hcD⟩:=U1.count (Within.cons name v hw);refine ac (kK hoD (by rw[hdD];exact kI (az hcD (az (dg hsz) (by rw[cu];decide)))) ?_);exact al (hq h' _ U1 Um)
theorem Qz{o:eT}{d:Option ai}(h:o.isFreed=false):({cls:=o.cls,dict:=d,data:=o.data,slots:=o.slots}:eT).isFreed=false:=by
 obtain ⟨_,_,c,_⟩:=o
 cases c<;>first | rfl | exact h
theorem TU{M:ge}{Q:β->ag->Prop}{s:ag}{d:kZ}{a b:jM β}(h:∀c,d≠.cls c)(k:an M A b Q E s):an M A (match (generalizing:=false) d with
  |.cls _=>a
  |_=>b) Q E s:=
 kZ.casesOn (motive:=λd=>(∀c,d≠.cls c)->an M A (match (generalizing:=false) d with
  |.cls _=>a
  |_=>b) Q E s) d (λZ=>k) (λZ Z=>k) (λZ Z Z=>k) (λZ Z Z=>k) (λZ Z Z Z=>k) (λZ Z Z=>k) (λZ Z=>k) (λZ Z=>k) (λc h=>absurd rfl (h c)) (λZ Z=>k) (λZ=>k) h
set_option tactic.hygienic true in
theorem Ob{Q:Unit->ag->Prop}{ns:List aI}(X:K.In h)(hs:dj K (.ref C) "__setattr__" = some (some (.builtin "object.__setattr__")))(hcl:mI K C=some cd)(V4:cd.hasDict=true)(VY:∀self,lM self "__setattr__" cd.mro=pure ())(Yu:iX K C (.type "object")=some true)(ht:fy K C name=some none)(I:h.Inst x C mA)(hq:∀h' Wm,h'.Inst x C (λy=>if y=name then some v else mA y)->
   (∀b o,b≠x->(∀UO dx,h.get? x=some UO->UO.dict=some dx->b≠dx)->h.get? b=some o->h'.get? b=some o)->
   (∀UO,h.get? x=some UO->∃UC,h'.get? x=some UC/\UC.cls=UO.cls/\UC.data=UO.data/\∀dx,UC.dict=some dx->UO.dict=some dx\/h.get? dx=none)->Q () ⟨h',g,d,Wm,os⟩)(hw:Within mA ns)(hsz:ns.length<=1000):
  an (aO prog w) A (setAttr (.ref x) name v) Q E ⟨h,g,d,t,os⟩:=by
 refine n9 I λo hx hc U6 hd=>?_
 have hno:notCls o=true:=by
  unfold notCls
  cases e:o.data with
  |cls c=>exact absurd e (U6 c)
  |_=>rfl
 have I':∃od,InstAt h x o C od:=by
  rcases hd with ⟨Wt,_⟩ | ⟨dx,hdx,hne,UV⟩
  .exact⟨none,hx,hc,hno,by rw[Wt];trivial⟩
  .refine oI UV λod es ep e1 r=>?_;exact⟨some od,hx,hc,hno,by rw[hdx];exact e1⟩
 refine m4 I' λod I'=>?_;have SF:=PySem.F.store_object;refine mO (Option.bind_eq_some_iff.mp ht) λattr ha hr=>?_;have hm:kO (aO prog w) h (mroOf (.ref C)) cd.mro:=(hV X hcl).andThen .now
 have L3:kO (aO prog w) h (storeTaker? attr) none:=by
  cases attr with
  |none=>exact .now
  |some a=>
   refine mO (Option.map_eq_some_iff.mp hr) λb hb e=>?_
   cases b with
   |true=>cases e
   |false=>exact (looks_takesIn X hb).andThen .now
 have sub:kO (aO prog w) h (gS (.ref x) (.type "object")) true:=I'.type.andThen (kU X Yu);refine set_plain (s:=⟨h,g,d,t,os⟩) X I' hs ?_;refine fS SF.slot.plain SF.entry (@check_slot (aO prog w) _ _ ⟨h,g,d,t+1,os⟩ "object.__setattr__" "object" "__setattr__" (.ref x) [.str name t,v] [] _ SF.kind SF.split sub (SF.args (.ref x) (.str name t) v) ?_);rw[osa_eq,refuse_eq];refine ac (ac (I'.type.here (s:=⟨h,g,d,t+1,os⟩) (ac (hm.here (s:=⟨h,g,d,t+1,os⟩) ?_))));rw[VY];refine al (ac (I'.type.here (s:=⟨h,g,d,t+1,os⟩) (ac ((looks_findIn X ha).here (s:=⟨h,g,d,t+1,os⟩) (ac (L3.here (s:=⟨h,g,d,t+1,os⟩) ?_))))));show an _ _ (storeInOwnDict (.ref x) (.ref C) (.str name t) name v attr.isSome) _ _ _;refine ac (al (ac (ac (jp hx ?_))));rw[hc];refine ac ((hV X hcl).here (s:=⟨h,g,d,t+1,os⟩) ?_);rw[V4]
 rcases hd with ⟨Wt,hmA⟩ | ⟨dx,hdx,hne,UV⟩
 .rw[Wt,if_neg (show ¬(!true)=true from cy)];dsimp only;rw[if_neg (by simp [typeHasDict])];refine TU U6 ?_;have hx₁:(h.push {cls:=.type "dict",data:=.dict #[]}).get? x=some o:=aj _ hx;have Yh:x≠h.objs.size:=aS (aX hx);refine ac (wpAny_alloc' (ac (wpAny_update' hx₁ (al ?_))));have Z3:((h.push {cls:=.type "dict",data:=.dict #[]}).update x λo=>{cls:=o.cls,dict:=some h.objs.size,data:=o.data,slots:=o.slots}).get? h.objs.size
    = some {cls:=.type "dict",data:=.dict #[]}:=
   (jw _ _ _ _ Yh.symm).trans (jW rfl rfl)
  have ZO:((h.push {cls:=.type "dict",data:=.dict #[]}).update x λo=>{cls:=o.cls,dict:=some h.objs.size,data:=o.data,slots:=o.slots}).Ns h.objs.size (λZ=>none):=
   ⟨_,#[],_,Z3,rfl,λe he=>absurd he (by simp),λZ=>rfl⟩
  refine BJ (s:=⟨_,g,d,t+1,os⟩) (aB.Ns1.of_empty ZO) Within.nil (bc _) λh' Wm U1 Um=>?_
  have XV:h'.get? x=some {cls:=o.cls,dict:=some h.objs.size,data:=o.data,slots:=o.slots}:=by
   exact (Um.2 x Yh).trans (aW _ hx₁ (Qz (aB.get?_some_iff.mp hx).2))
  refine (hq h' _ ⟨{cls:=o.cls,dict:=some h.objs.size,data:=o.data,slots:=o.slots},XV,hc,U6,.inr ⟨h.objs.size,rfl,Yh.symm,?_⟩⟩ (λb ob W7 Z hb=>?_)
   (λUO TY=>⟨_,XV,(congrArg eT.cls (ae (hx.symm.trans TY)):o.cls=_),(congrArg eT.data (ae (hx.symm.trans TY)):o.data=_),λdx e=>.inr (ae e▸m9 h)⟩))
  .refine nk U1 λo' es ep e1 e2 e3 eu e4=>?_;exact⟨o',es,ep,e1,e2,e3,eu,λy=>by rw[e4 y];by_cases hy:y=name<;>simp [hy,hmA]⟩
  .exact (Um.2 b (aS (aX hb))).trans ((jw _ _ _ _ W7).trans (aj _ hb))
 .rw[hdx];refine al ?_;refine BJ (s:=⟨_,g,d,t+1,os⟩) UV hw hsz λh' Wm U1 Um=>?_
  refine (hq h' _ ⟨o,(Um.2 x hne.symm).trans hx,hc,U6,.inr ⟨dx,hdx,hne,U1⟩⟩ (λb ob Z hbd hb=>?_)
   (λUO TY=>⟨UO,(Um.2 x hne.symm).trans TY,rfl,rfl,λZ e=>.inl e⟩))
  exact (Um.2 b (hbd o dx hx hdx)).trans hb
end
end
section
open PySem.Builtin PySem.Builtin.ObjectAttr
theorem Pr(x C:ai):∃f:jM Unit,b7.«wrapper_descriptor.__get__» ⟨[.builtin "Exception.__init__",.ref x,.ref C],[]⟩ =
  ((gS (.ref x) (.type "Exception") >>= λb=>if (!b)=true then f else pure ()) >>= λZ=>(kF "method-wrapper" [.builtin "Exception.__init__",.ref x] >>= λv=>ret v)):=by
 refine⟨?f,?h⟩
 case h=>with_unfolding_all exact rfl
theorem FV:Slot "wrapper_descriptor" "__get__" "wrapper_descriptor.__get__" := .of (owner:="wrapper_descriptor") (n:="__get__") (by rw[iY,fE];kernel_rfl) (by decide +kernel) (by decide +kernel) (by decide +kernel)
 (by first | exact .inl (by decide +kernel) | exact .inr (by decide +kernel)) (by rw[gT];kernel_rfl)
theorem Kg:lI table "wrapper_descriptor.__get__" = some b7.«wrapper_descriptor.__get__» := kE (by kernel_rfl)
theorem Mj(a b c:af):lF "wrapper_descriptor.__get__" ⟨[a,b,c],[]⟩:=by unfold lF;kernel_rfl
theorem FW:typeOf (.builtin "Exception.__init__")=pure (.type "wrapper_descriptor"):=by kernel_rfl
theorem G9{s:ag}:s.TypeIs (.builtin "Exception.__init__") "wrapper_descriptor" := by first | exact FW | (show _=_;kernel_rfl) | (simp [eY];done)
section
variable {g:Array jV}{d:mD}{t:Nat}{os:lm}
theorem BL{so D x:ai}{l₀ l:List af}{name:aI}{Q:PySem.Fin->ag->Prop}(VJ:h.get? so=some {cls:=.type "super",dict:=none,data:=.fields #[.ref D,.ref x,.ref C],slots:=#[]})(hno:kO (aO prog w) h (kG (.ref C)) none)(hC:kO (aO prog w) h (mroOf (.ref C)) l₀)(hl:(l₀.dropWhile (· != .ref D)).drop 1=l)(X:K.In h)(hf:alongIn K name l=some (some (.builtin "Exception.__init__")))(Yj:x≠C)(hn:(name==("__class__" : aI))=false)(hi:kO (aO prog w) h (gS (.ref x) (.type "Exception")) true)(hq:Q (.done (.ret (.ref h.objs.size))) ⟨h.push {cls:=.type "method-wrapper",data:=.fields #[.builtin "Exception.__init__",.ref x]},g,d,t,os⟩):
  an (aO prog w) A (b7.«super.__getattribute__» ⟨[.ref so,.str name tk],[]⟩) Q E ⟨h,g,d,t,os⟩:=by
 have hlk:=FV.lookup
 have hne:(bJ x==bJ C)=false:=by simp [Yj]
 have hdt:({cls:=.type "super",dict:=none,data:=.fields #[.ref D,.ref x,.ref C],slots:=#[]}:eT).data=.fields #[.ref D,.ref x,.ref C]:=rfl;have f0:(#[.ref D,.ref x,.ref C]:Array af)[0]?=some (.ref D):=rfl;have f1:(#[.ref D,.ref x,.ref C]:Array af)[1]?=some (.ref x):=rfl;have f2:(#[.ref D,.ref x,.ref C]:Array af)[2]?=some (.ref C):=rfl;refine m4 (Pr x C) λff ZH=>?_;unfold b7.«super.__getattribute__»
 repeat (first
  |(with_reducible refine a8 VJ hdt f0 ?_) | (with_reducible refine a8 VJ hdt f1 ?_) | (with_reducible refine a8 VJ hdt f2 ?_)
  |(with_reducible refine ks_wpAny_notOpaque hno ?_)
  |(with_reducible refine kO.at hC ?_;rw[hl])
  |(refine ks_forIn_along X (λZ Z=>rfl) rfl ?_ hf)
  |(rw[FW])
  |(rw[hne,if_neg cy])
  |(with_reducible refine a9 FV G9 Kg ?_ (Mj _ _ _);rw[ZH])
  |(with_reducible refine kO.at hi ?_)
  |(with_reducible refine⟨_,rfl,?_⟩)
  |(with_reducible refine Ti ?hz ?_;(case hz=>simp only[hn,hne,jB,gA,lU,not_false_eq_true]))
  |wp_step
  |dsimp only)
 all_goals exact hq
theorem zU{so D x:ai}{l₀ l:List af}{name:aI}{Q:af×List af->ag->Prop}(VJ:h.get? so=some {cls:=.type "super",dict:=none,data:=.fields #[.ref D,.ref x,.ref C],slots:=#[]})(hno:kO (aO prog w) h (kG (.ref C)) none)(hC:kO (aO prog w) h (mroOf (.ref C)) l₀)(hl:(l₀.dropWhile (· != .ref D)).drop 1=l)(X:K.In h)(hf:alongIn K name l=some (some (.builtin "Exception.__init__")))(Yj:x≠C)(hn:(name==("__class__" : aI))=false)(hi:kO (aO prog w) h (gS (.ref x) (.type "Exception")) true)(hq:Q (.ref h.objs.size,[]) ⟨h.push {cls:=.type "method-wrapper",data:=.fields #[.builtin "Exception.__init__",.ref x]},g,d,t+1,os⟩):
  an (aO prog w) A (eF (.ref so) name pl) Q E ⟨h,g,d,t,os⟩:=by
 have hlk:=gF.lookup;have hcan:=F.ks_canon_super_ga;have hT:∀t',(⟨h,g,d,t',os⟩:ag).TypeIs (.ref so) "super" := λZ=>⟨_,VJ,rfl⟩;unfold eF;refine ac (wpAny_specialOf (hT _) hlk ?_);show an _ _ (if (Manifest.canonical "super.__getattribute__" != "object.__getattribute__")=true then _ else _) _ _ _;rw[if_pos hcan];unfold getAttr getAttrBy;refine ac (ac (wpAny_mkText (aK (ac (iR (hT _) (ac (dq hlk ?_)))))));show an _ _ (getAttrByItsOwn (.ref so) (.str name t) (.type "super") (.builtin "super.__getattribute__") true false) _ _ _;unfold getAttrByItsOwn hookBefore callGetattribute boundAndCalled;refine ac (dq (show (if onTheHeap (.type "super") then typeLookup (.type "super") "__getattr__" else pure none)=pure none from rfl) ?_);refine ac (cN (aK ?_));show an _ _ (bindSpecial (.builtin "super.__getattribute__") (.ref so) >>= _) _ _ _;refine ac (dq (gF.bind _) ?_);refine bB (Q:=λv s'=>v=.ref h.objs.size/\s'=⟨h.push {cls:=.type "method-wrapper",data:=.fields #[.builtin "Exception.__init__",.ref x]},g,d,t+1,os⟩) (E:=λZ Z=>False)
  (a9 gF (hT _) F.ks_entry_super_ga (BL VJ hno hC hl X hf Yj hn hi ⟨_,rfl,rfl,rfl⟩) (F.ks_gaArgs_super _ _)) (λv s' hv=>?_) λZ Z z=>z.elim
 refine nE hv λWI T6=>?_;subst WI;subst T6;exact al (al hq)
end
end
section
open PySem.Builtin PySem.Builtin.ObjectAttr
noncomputable abbrev E5(x:ai):eT:={cls:=.type "method-wrapper",dict:=none,data:=.fields #[.builtin "Exception.__init__",.ref x],slots:=#[]}
section
variable {g:Array jV}{d:mD}{t:Nat}{os:lm}{newId:String}
variable {nm qn:aI}{N:ai}{bs bm UF:List af}{hdct:Bool}{sn:List aI}{sub:List af}{ab:Bool}{col:Option Bool}{dd:Option ai}{k0 k1 k2 k3 k5:Option af}{VQ:String}
theorem yv(F:fk "Exception" newId "Exception.__init__" UF){M:ge}{e:ai}{oe:eT}{Q:Unit->ag->Prop}(hB:bm.contains (.type "Exception")=true)(hC:h.get? C=some (fT nm qn C N bs bm hdct sn sub ab col dd k0 k1 k2 k3 k5 VQ))(he:h.get? e=some oe)(WX:oe.cls=.ref C)(hq:Q () ⟨h,g,d,t,os⟩):
  an M A (jk "Exception.__init__" ⟨.ref e::rest,[]⟩) Q E ⟨h,g,d,t,os⟩:=by
 have hcB:(bJ C::bm).contains (.type "Exception")=true:=by rw[cz,hB,iD]
 have hshort:=F.noStar;delta jk;rw[F.initKind,F.initRow];dsimp only
 repeat (first
 |(with_reducible refine bY he ?_;rw[WX]) | with_reducible refine bY hC ?_ | (with_reducible refine cI hC ?_;rw[hcB]) | wp_step)
 refine im ?_
 rw[show ∀(a b:String) (n:Nat),Bind.check ⟨.positional, "*", "Exception",.self,[⟨"args",.varPos,false⟩]⟩ a b n (List.map (λx=>x.fst) ({pos:=bJ e::rest}:Args).kw)=pure () from
  λa b n=>check_star_args _ _ _ _ _ _]
 exact al hq
theorem La(F:fk "Exception" newId "Exception.__init__" UF)(hB:bm.contains (.type "Exception")=true)(hC:h.get? C=some (fT nm qn C N bs bm hdct sn sub ab col dd k0 k1 k2 k3 k5 VQ)){q x:ai}{ox:eT}{tt:ai}{v:af}(hq:h.get? q=some (E5 x))(hx:h.get? x=some ox)(WX:ox.cls=.ref C)(hd:ox.data=.fields vs)(h0:vs[0]?=some (.ref tt))(hQ:∀h' o' vs' a0,(∀b o,b≠x->h.get? b=some o->h'.get? b=some o)->h'.get? x=some o'->o'.cls=ox.cls->o'.dict=ox.dict->o'.data=.fields vs'->vs'[0]?=some a0->(∀i,i≠0->vs'[i]?=vs[i]?)->Q .none ⟨h',g,d,t,os⟩):an (aO prog w) A (call (.ref q) [v]) Q E ⟨h,g,d,t,os⟩:=by
 refine fc (iV ?_);show an _ _ (mw (.ref q) _) _ _ _;unfold mw;refine ac (jR hq ?_);show an _ _ (do jk "Exception.__init__" ⟨[.ref x,v],[]⟩;again (.builtin "Exception.__init__" ⟨[.ref x,v],[]⟩)) _ _ _;refine ac (yv F hB hC hx WX (al ⟨fb _ (by decide +kernel),dM F.initEntry ?_⟩));have hsz:0 < vs.size:=(bQ.mp h0).1;have hx₁:(h.push {cls:=.type "tuple",data:=.seq #[v]}).get? x=some ox:=aj _ hx
 have goal:∀h',h'=(h.push {cls:=.type "tuple",data:=.seq #[v]}).update x (lY (·.setIfInBounds 0 (.ref h.objs.size)))->Q .none ⟨h',g,d,t,os⟩:=by
  rintro h' rfl
  refine hQ _ _ _ (.ref h.objs.size) (λb o hb e=>?_) (aW _ hx₁ (cx (bL hd _))) (g9 _ _) ?_ (bL hd _) (by simp [hsz]) (λi hi=>by rw[fB (eZ hi)])
  .exact (bg _ _ (eZ hb)).trans (aj _ e)
  .obtain ⟨oc,od,Yd,osl⟩:=ox;cases Yd<;>rfl
 unfold b7.«BaseException.__init__»
 repeat (first | with_reducible refine a8 hx₁ hd h0 ?_ | with_reducible refine dm hx₁ hd hsz ?_ | wp_step)
 exact goal _ rfl
end
end
section
open PySem.Builtin PySem.Builtin.ObjectAttr
structure PJ where
 o:eT
 fd:eV
 p1:b8
 p2:b8
 p3:b8
 p4:b8
 p5:b8
 p6:b8
 p7:b8
 p8:b8
 p9:b8
 p10:b8
 cc:ai
 cda:ai
 oc:eT
 vs:Array af
 file:aI
 tf:lP
 ar:Arg
structure M2(prog:bA)(base:aB)(f D:ai)(attr:aI)(params:List aI)(d:PJ):Prop where
 hf:base.get? f=some d.o
 hfd:d.o.data=.func d.fd
 hfc:d.o.cls=.type "function"
 body:d.fd.body=.stmts [.Expr (.Call (.Attribute (.Call (.Name "super" d.p1) [] [] d.p2) "__init__" d.p3) [.Name "what" d.p4] [] d.p5) d.p6,.Assign [.Attribute (.Name "self" d.p7) attr d.p8] (.Name attr d.p9) d.p10]
 line:(d.p3.endLine==d.p5.line)=true
 kind:d.fd.scope.kind=.function
 co:d.fd.scope.isCoroutine=false
 gen:d.fd.scope.isGenerator=false
 cell:∀x∈d.fd.scope.names,x.2≠.cell
 pl:∀x∈params,d.fd.scope.names.lookup x=some .local
 ks:d.fd.scope.names.lookup ("super" : aI)=some .globalImplicit
 kc:d.fd.scope.names.lookup ("__class__" : aI)=some .free
 clo:d.fd.closure.lookup ("__class__" : aI)=some d.cc
 hcc:base.IsCell d.cc (some (.ref D))
 gl:d.fd.globals=b6
 bu:d.fd.builtins=dG
 cr:base.CodeRec d.fd.code d.fd.qualname
 code:d.fd.code=.ref d.cda
 hcda:base.get? d.cda=some d.oc
 hoc:d.oc.data=.fields d.vs
 vs2:d.vs[2]?=some (.str d.file d.tf)
 hfile:(prog.main.file==d.file)=true
 har:(d.fd.params.posonlyargs++d.fd.params.args).head?=some d.ar
 hara:d.ar.arg = "self"
 bind:∀vals:List af,vals.length=params.length->bindArgs d.fd ⟨vals,[]⟩=pure (params.zip vals)
structure uk(prog:bA)(base:aB)(f D:ai)(attr:aI)(params:List aI):Prop where
 ex:∃d,M2 prog base f D attr params d
 nodup:params.Nodup
 self:("self" : aI)∈params
 what:("what" : aI)∈params
 attr:attr∈params
 nodbg:∀x∈params,(x==("__debug__" : aI))=false
 cls:∃oD Zm,base.get? D=some oD/\oD.data=.cls Zm
structure rh(prog:bA)(w:cM)(base:aB)(K:cX)(C:ai)(mg mb:aI->Option af):Prop where
 kin:K.In base
 nolimit:base.NoLimit
 g:base.Ns b6 mg
 b:base.Ns dG mb
 sup:mg "super" = none/\mb "super" = some (.type "super")
 top:(prog.main.scope.names.lookup ("super" : aI)).isSome=false
 opq:nsIn K cStatics "thirdparty.any" = some none
 cls:∃p,base.get? C=some (A4.obj p C "Exception.__new__")/\p.bm.contains (.type "BaseException")=true/\p.bm.contains (.type "Exception")=true/\p.bm.contains (.type "AttributeError")=false/\p.bm.contains (.type "NameError")=false
 exc:∃UF,fk "Exception" "Exception.__new__" "Exception.__init__" UF
 sa:dj K (.ref C) "__setattr__" = some (some (.builtin "object.__setattr__"))
 cd:∃cd,mI K C=some cd/\cd.hasDict=true/\∀self,lM self "__setattr__" cd.mro=pure ()
 isObj:iX K C (.type "object")=some true
 isExc:iX K C (.type "Exception")=some true
structure Mr(h h':aB)(x C:ai)(o:eT)(vs:Array af)(a0:af):Prop where
 at':h'.get? x=some o
 cls:o.cls=.ref C
 data:o.data=.fields vs
 v0:vs[0]?=some a0
 v1:vs[1]?=some .none
 dict:∀dx,o.dict=some dx->h.get? dx=none
structure Made(h h':aB)(x C:ai)(n:Nat):Prop where
 keep:∀b o,b≠x->h.get? b=some o->h'.get? b=some o
 inst:∃mA ns,h'.Inst x C mA/\PySem.Within mA ns/\ns.length<=n
 obj:∃o vs a0,Mr h h' x C o vs a0
theorem Bg{cc:Code}{s:ag}{env:d9}{o:aa}{nm:aI}{args:List aa}(hs:args.all nj=true)(hlen:args.length < 30)(UM:(apos.endLine==pos.line)=true)(h:lB (aO prog w) A cc (jE o nm env (eval o env)) (λov TW=>an (aO prog w) A (eF ov nm (do return (<-jl o env).getD true)) (λp T2=>an (aO prog w) A (fv pos p.1 p.2 (nG args env) []) Q E T2) E TW) E s):
  lB (aO prog w) A cc (eval (.Call (.Attribute o nm apos) args [] pos) env) Q E s:=by
 rw[arm_eval_Call,oM _ _ hs];refine iU (PySem.wpAt_mono h (λov TW T1=>eS ?_) λZ Z e=>e);refine ac (bv ?_)
 have hform:gU (args.length+([]:List ll).length) (nG args env) (backToKw pos (kS [] env))=true:=by
  unfold gU
  have h1:(nG args env).all (λx=>!x.1)=true:=by
   rw[aJ];intro x hx;refine mO (bK.mp hx) λe Z Ua=>?_;subst Ua;rfl
  have h2:decide (args.length+([]:List ll).length+(if (backToKw pos (kS [] env)).isEmpty=true then 0 else 1) < 30)=true:=by
   rw[decide_eq_true_iff];show args.length+0+(if (true:Bool)=true then 0 else 1) < 30;simp;exact hlen
  rw[h1,h2];rfl
 have hpos:ij true o env apos pos=pure pos:=by unfold ij;simp [UM]
 unfold methodCall;rw[hform];refine ac (aK ?_);show an (aO prog w) A (eF ov nm (do return (<-jl o env).getD true)) _ E TW;refine bB T1 (λp T2 Uh=>?_) λZ Z e=>e;exact ac (dq hpos Uh)
section
variable {g:Array jV}{d:mD}{t:Nat}{os:lm}{base:aB}
theorem Made.trans{Uh:aB}{x:ai}{n:Nat}(m:Made T1 Uh x C n)(k:∀b o,h.get? b=some o->T1.get? b=some o):Made h Uh x C n:=by
 refine xL m.obj λo vs a0 y=>?_;refine⟨λb o hb e=>m.keep _ _ hb (k _ _ e),m.inst,o,vs,a0,y.at',y.cls,y.data,y.v0,y.v1,λdx e=>?_⟩
 cases q:h.get? dx with
 |none=>rfl
 |some o'=>exact mV ((y.dict dx e).symm.trans (k _ _ q))
theorem IE(kf:rh prog w base K C mg mb)(hb:base.StaysIn h){x:ai}{n:Nat}(hn:n<=900)(VI:base.get? x=none){u:af}(ht:fy K C attr=some none)(m:Made h h' x C n){Q:Unit->ag->Prop}(hq:∀h₄ VM,Made h h₄ x C (n+1)->Q () ⟨h₄,g,d,VM,os⟩):an (aO prog w) A (setAttr (.ref x) attr u) Q E ⟨h',g,d,t,os⟩:=by
 refine mU m.inst λmA ns I hw Y7=>?_;refine nP kf.cd λcd hcl V4 VY=>?_;refine xL m.obj λo vs a0 y=>?_;have X:K.In h':=λb o e=>m.keep _ _ (λq=>mV (VI.symm.trans (q▸kf.kin b o e))) (hb _ _ (kf.kin b o e));refine Ob X kf.sa hcl V4 VY kf.isObj ht I (λh₄ VM YT Yf Yc=>hq h₄ VM ?_) hw (az Y7 (az hn (by decide)));refine n9 (Yc o y.at') λYb e5 c5 d5 dd5=>?_;refine⟨λb o' W7 e=>Yf _ _ W7 (λUO dx e0 ed q=>?_) (m.keep _ _ W7 e),⟨_,_,YT,PySem.Within.cons attr u hw,dg Y7⟩,Yb,vs,a0,e5,c5.trans y.cls,d5.trans y.data,y.v0,y.v1,λdx e=>?_⟩
 .have e0:=ae (y.at'.symm.trans e0);exact mV ((y.dict dx (e0▸ed)).symm.trans (q▸e))
 .rcases dd5 dx e with e | e
  .exact y.dict dx e
  .cases q:h.get? dx with
   |none=>rfl
   |some o'=>
    by_cases hdx:dx=x
    .exact mV (e.symm.trans (hdx▸y.at'))
    .exact mV (e.symm.trans (m.keep _ _ hdx q))
theorem BK(kf:rh prog w base K C mg mb){f D:ai}(fn:uk prog base f D attr params)(hsub:iX K C (.ref D)=some true)(hb:base.StaysIn h)(U5:A.depth < dk){x:ai}{v u:af}{n:Nat}(hn:n<=900)(hl:vals.length=params.length)(WA:(params.zip vals).reverse.lookup ("self" : aI)=some (.ref x))(Xq:(params.zip vals).reverse.lookup ("what" : aI)=some v)(XG:(params.zip vals).reverse.lookup attr=some u){o:eT}(hx:h.get? x=some o)(VI:base.get? x=none)(hc:o.cls=.ref C)(hd:o.data=.fields vs){R:cT->ag->Prop}(Ym:∀(A':aH) (Q:af->ag->Prop) (E:af->ag->Prop) (T1:aB) (WL:Nat) (so:ai) (pl:jM Bool) (env:d9) (p p4:b8),A'.depth=A.depth+1->(∀b o,h.get? b=some o->T1.get? b=some o)->
    T1.get? so=some {cls:=.type "super",dict:=none,data:=.fields #[.ref D,.ref x,.ref C],slots:=#[]}->(∀(E:af->ag->Prop) (Q:af->ag->Prop) (s:ag),(∀b o,T1.get? b=some o->s.heap.get? b=some o)->Q v s->an (aO prog w) A' (eval (.Name "what" p4) env) Q E s)->
    (∀Uh Wl,Made T1 Uh x C n->Q .none ⟨Uh,g,d,Wl,os⟩)->
    an (aO prog w) A' (eF (.ref so) "__init__" pl) (λfx T2=>an (aO prog w) A' (fv p fx.1 fx.2 (nG [.Name "what" p4] env) []) Q E T2) E ⟨T1,g,d,WL,os⟩)(ht:fy K C attr=some none)(hq:∀h' tk,Made h h' x C (n+1)->R (.ok (.ret .none)) ⟨h',g,d,tk,os⟩):dc (aO prog w) A (.call (.ref f) ⟨vals,[]⟩) R ⟨h,g,d,t,os⟩:=by
 refine m4 fn.ex λi I=>?_;refine nr fn.cls λoD Zm hD Zg=>?_;have hbs:∀b o,base.get? b=some o->h.get? b=some o:=λb o e=>hb b o e;refine ks_codeAny_call_defAt (s:=⟨h,g,d,t,os⟩) (o:=i.o) (fd:=i.fd) (binds:=params.zip vals) U5 (hbs _ _ I.hf) I.hfd (kf.nolimit.keeps hbs) (I.cr.keeps hbs) I.body (BindsTo.of_eq (I.bind vals hl)) I.cell (λy hy=>I.pl _ (List.of_mem_zip hy).1) (λT1 UV UW=>?_) I.co I.gen I.kind;dsimp only at UV UW ⊢;generalize hL:h.objs.size=L at UV
 have hLn:h.get? L=none:=by rw[<-hL];exact m9 h
 have hkL:(ln i.fd L f).scope.kind=.function:=I.kind;have b₁:∀b o,base.get? b=some o->T1.get? b=some o:=λb o e=>UW _ _ (hbs _ _ e);have name:∀{A':aH} {y:aI} {z:af} {s:ag} {Q:af->ag->Prop} {E:af->ag->Prop},y∈params->(params.zip vals).reverse.lookup y=some z->(∀o,T1.get? L=some o->s.heap.get? L=some o)->Q z s->
   an (aO prog w) A' (lK (ln i.fd L f) y) Q E s:=λhy hz k hQ=>UV.elim λoL x=>x.elim λes x=>x.elim λep x=>jo hkL (I.pl _ hy) ⟨oL,es,ep,k _ x.1,x.2⟩ hz hQ
 refine ks_wpAt_execs_cons (ks_wpAt_Expr_any (Bg rfl (by show 1 < 30;decide) I.line ?_) (tJ hkL) rfl);refine ks_wpAt_super_base (env:=ln i.fd L f) I.ks I.kc (by decide) rfl (b₁ _ _ I.hf) I.hfd I.har I.code (b₁ _ _ I.hcda) I.hoc I.vs2 I.hfile kf.top ?_;refine ks_loadName_global hkL I.ks ?_;unfold lJ;rw[show (ln i.fd L f).globals=b6 from I.gl,show (ln i.fd L f).builtins=dG from I.bu];refine ac (hW (StaysIn.ns b₁ kf.g) ?_);rw[kf.sup.1];refine ac (hW (StaysIn.ns b₁ kf.b) ?_);rw[kf.sup.2];refine al ⟨rfl,?_⟩;refine jA hkL I.kc I.clo (I.hcc.elim λo' x=>⟨o',b₁ _ _ x.1,x.2⟩) ?_;rw[I.hara];refine name fn.self WA (λo e=>e) ?_;refine ks_wpAny_isType_cls (b₁ _ _ hD) Zg ⟨rfl,?_⟩;have hx₁:=UW _ _ hx;refine ks_wpAny_call_super (b₁ _ _ hD) Zg hx₁ hc (λc e=>nomatch hd.symm.trans e) (kU (kf.kin.keeps b₁) hsub) λUh VJ VC=>?_;have hxL:x≠L:=λe=>mV ((e▸hLn).symm.trans hx);refine Ym _ _ _ _ _ _ _ _ _ _ rfl (λb o e=>VC _ _ (UW _ _ e)) VJ (λE Q s k hQ=>eC (name fn.what Xq (λo e=>k _ _ (VC _ _ e)) hQ) (by decide)) λUP Zw m=>?_;refine eS (kJ ?_);have kL:∀o,T1.get? L=some o->UP.get? L=some o:=λo e=>m.keep _ _ (eZ hxL) (VC _ _ e);refine plainObj_wpAny_Assign_Attribute (eC (name fn.attr XG kL (eC (name fn.self WA kL ?_) (by decide))) (fn.nodbg _ fn.attr)) rfl;refine IE kf hb hn VI ht (m.trans λb o e=>VC _ _ (UW _ _ e)) λh₄ VM md=>dN (hq h₄ VM md)
theorem wy{M:ge}{s:ag}{f:af}{e:aa}{env:d9}{Q:Args->ag->Prop}(h:an M A (eval e env) (λv s'=>Q ⟨[v],[]⟩ s') E s):an M A (evalArgs f true (nG [e] env) []) Q E s:=
 qJ (gC (bB h (λv TW T1=>jS T1) λZ Z e=>e))
theorem rh.notC(kf:rh prog w base K C mg mb){x:ai}(VI:base.get? x=none):x≠C:=λe=>by
 refine mO kf.cls λp hC Z=>?_;exact mV (VI.symm.trans (e▸hC))
theorem rh.along(kf:rh prog w base K C mg mb){D:ai}{name:aI}{r:Option af}(h:eA K C D name=some r):∃cd,mI K C=some cd/\alongIn K name ((cd.mro.dropWhile (· != .ref D)).drop 1)=some r:=by
 refine mO kf.cd λcd hcl Z=>?_;unfold eA at h;rw[hcl,b5] at h;exact⟨cd,hcl,h⟩
theorem Iw(kf:rh prog w base K C mg mb){f D:ai}(fn:uk prog base f D attr ["self", "what"])(ha:attr = "what")(hsub:iX K C (.ref D)=some true)(Yq:eA K C D "__init__" = some (some (.builtin "Exception.__init__")))(hb:base.StaysIn h)(U5:A.depth < dk){x:ai}{v:af}{o:eT}{tt:ai}(hx:h.get? x=some o)(VI:base.get? x=none)(hc:o.cls=.ref C)(Wt:o.dict=none)(hd:o.data=.fields vs)(h0:vs[0]?=some (.ref tt))(h1:vs[1]?=some .none){R:cT->ag->Prop}(ht:fy K C attr=some none)(hq:∀h' tk,Made h h' x C 1->R (.ok (.ret .none)) ⟨h',g,d,tk,os⟩):dc (aO prog w) A (.call (.ref f) ⟨[.ref x,v],[]⟩) R ⟨h,g,d,t,os⟩:=by
 subst ha;refine BK kf fn hsub hb U5 (n:=0) (bc _) rfl (by rfl) (v:=v) (by rfl) (u:=v) (by rfl) hx VI hc hd (λA' Q E T1 WL so pl env p p4 hA UW VJ V1 hQ=>?_) ht hq;have b₁:∀b o,base.get? b=some o->T1.get? b=some o:=λb o e=>UW _ _ (hb _ _ e);have X₁:K.In T1:=kf.kin.keeps b₁;refine mO (kf.along Yq) λcd hcl YK=>?_;have hx₁:=UW _ _ hx;have I:InstAt T1 x o C none:=⟨hx₁,hc,by unfold notCls;rw[hd],by rw[Wt];trivial⟩;refine zU VJ (looks_opaque X₁ kf.opq) (l₀:=cd.mro) ((hV X₁ hcl).andThen .now) rfl X₁ YK (kf.notC VI) (by decide) (I.type.andThen (kU X₁ kf.isExc)) ?_;have hmw:(T1.push (E5 x)).get? T1.objs.size=some (E5 x):=ax _ rfl;refine callWith_of (P:=λh=>h.get? T1.objs.size=some (E5 x)/\h.get? x=some o) (by rw[qh];rfl) (λh' hP=>⟨.machine,.inr (.inl rfl),(kO.ld (part:=none) hP.1).andThen .now⟩) ?_;refine wy (V1 _ _ _ (λb o e=>aj _ e) ⟨⟨hmw,aj _ hx₁⟩,?_⟩);refine n9 kf.cls λcp hC YI YH Z=>?_;refine m4 kf.exc λUF F=>?_;refine La F YH (aj _ (b₁ _ _ hC)) hmw (aj _ hx₁) hc hd h0 λUh Wq Xb a0 VC Uo XQ WG W1 v0 vi=>?_
 exact hQ Uh _ ⟨λb o W7 e=>VC _ _ W7 (aj _ e),⟨λZ=>none,[],⟨Wq,Uo,XQ.trans hc,(λc e=>nomatch W1.symm.trans e),.inl ⟨WG.trans Wt,λZ=>rfl⟩⟩,PySem.Within.nil,aQ _⟩,
  Wq,Xb,a0,Uo,XQ.trans hc,W1,v0,(vi 1 (by decide)).trans h1,λdx e=>mV ((WG.trans Wt).symm.trans e)⟩
theorem Ix(kf:rh prog w base K C mg mb){f f0 D D0:ai}(fn:uk prog base f D attr ["self", "what", "spot"])(ha:attr = "spot")(hsub:iX K C (.ref D)=some true)(Yq:eA K C D "__init__" = some (some (.ref f0)))(YC:fnIn K f0=true)(fn0:uk prog base f0 D0 "what" ["self", "what"])(Xt:iX K C (.ref D0)=some true)(Yp:eA K C D0 "__init__" = some (some (.builtin "Exception.__init__")))(hb:base.StaysIn h)(U5:A.depth+1 < dk){x:ai}{v u:af}{o:eT}{tt:ai}(hx:h.get? x=some o)(VI:base.get? x=none)(hc:o.cls=.ref C)(Wt:o.dict=none)(hd:o.data=.fields vs)(h0:vs[0]?=some (.ref tt))(h1:vs[1]?=some .none){R:cT->ag->Prop}(ht:fy K C attr=some none)(ZK:fy K C "what" = some none)(hq:∀h' tk,Made h h' x C 2->R (.ok (.ret .none)) ⟨h',g,d,tk,os⟩):dc (aO prog w) A (.call (.ref f) ⟨[.ref x,v,u],[]⟩) R ⟨h,g,d,t,os⟩:=by
 subst ha;refine BK kf fn hsub hb (Nat.lt_of_succ_lt U5) (n:=1) (by decide) rfl (by rfl) (v:=v) (by rfl) (u:=u) (by rfl) hx VI hc hd (λA' Q E T1 WL so pl env p p4 hA UW VJ V1 hQ=>?_) ht hq;have b₁:∀b o,base.get? b=some o->T1.get? b=some o:=λb o e=>UW _ _ (hb _ _ e);have X₁:K.In T1:=kf.kin.keeps b₁;refine mO (kf.along Yq) λcd hcl YK=>?_;have hx₁:=UW _ _ hx;refine m4 fn0.ex λi0 I0=>?_;refine ks_wpAny_getMethod_super VJ (looks_opaque X₁ kf.opq) (l₀:=cd.mro) ((hV X₁ hcl).andThen .now) rfl X₁ YK (b₁ _ _ I0.hf) I0.hfc (kf.notC VI) (by decide) ?_;have hm:(T1.push (l9 (.ref f0) (.ref x))).get? T1.objs.size=some (l9 (.ref f0) (.ref x)):=ax _ rfl;have up:∀b o,T1.get? b=some o->(T1.push (l9 (.ref f0) (.ref x))).get? b=some o:=λb o e=>aj _ e;refine callWith_of (P:=MethP K T1.objs.size f0 (.ref x)) (by rw[qh];rfl) (keeps_M YC) ?_;refine wy (V1 _ _ _ up ⟨⟨hm,X₁.keeps up⟩,?_⟩);refine fc (method_call hm ?_);exact Iw kf fn0 rfl Xt Yp (λb o e=>up _ _ (b₁ _ _ e)) (show A'.depth < dk from hA▸U5) (up _ _ hx₁) VI hc Wt hd h0 h1 ZK λUh Wl m=>hQ Uh Wl (m.trans up)
end
end
section
open PySem.Builtin PySem.Builtin.ObjectAttr
section
variable {M:ge}{A:aH}{E:af->ag->Prop}{env:d9}{p:A4}{C:ai}{newId:String}
structure Na(p:A4)(C:ai)(newId:String)(E:af->ag->Prop)(v:af)(s:ag)(e:ai)(o:eT)(vs:Array af):Prop where
 val:v=.ref e
 at':s.heap.get? e=some o
 cls:o.cls=.ref C
 data:o.data=.fields vs
 v1:vs[1]?=some .none
 hC:s.heap.get? C=some (p.obj C newId)
 ok:E (.ref e) s
theorem zV{s:ag}{x:jM af}{Q:fF->ag->Prop}(V5:p.bm.contains (.type "BaseException")=true)(hh:A.handled=none)(h:an M A x (λv TW=>∃e o vs,Na p C newId E v TW e o vs) E s):
  an M A (raiseStmt env (some x) none) Q E s:=by
 have hcB:(bJ C::p.bm).contains (.type "BaseException")=true:=by rw[cz,V5,iD]
 unfold raiseStmt;refine ac (bB h (λv TW T1=>?_) λZ Z x=>x);refine xL T1 λe o vs T=>?_;rw[T.val];have hC:=T.hC;have he:=T.at';have hcl:=T.cls;have hd:=T.data;have hv1:=T.v1;have hE:=T.ok
 clear T
 obtain ⟨hp,g,d,tk,os⟩:=TW
 repeat (first | (with_reducible refine bY he ?_;rw[hcl]) | with_reducible refine bY hC ?_ | (with_reducible refine cI hC ?_;rw[hcB]) | (with_reducible refine a8 he hd hv1 ?_) | wp_step)
 all_goals exact wpAny_raiseNew_none hh hE
end
structure S5 where
 f1:ai
 f0:ai
 D1:ai
 D0:ai
structure R1(W:Wd)(K:cX)(d:S5):Prop where
 i1:uk W.prog W.base d.f1 d.D1 "spot" ["self", "what", "spot"]
 i0:uk W.prog W.base d.f0 d.D0 "what" ["self", "what"]
 m1:iX K W.exc (.ref d.D1)=some true
 m0:iX K W.exc (.ref d.D0)=some true
 s1:eA K W.exc d.D1 "__init__" = some (some (.ref d.f0))
 fn0:fnIn K d.f0=true
 s0:eA K W.exc d.D0 "__init__" = some (some (.builtin "Exception.__init__"))
 t1:fy K W.exc "spot" = some none
 t0:fy K W.exc "what" = some none
 hi:dj K (.ref W.exc) "__init__" = some (some (.ref d.f1))
 hf:jP K (.ref d.f1)=some (.type "function")
structure Kf(W:Wd)(K:cX)(mg mb:aI->Option af):Prop where
 facts:rh W.prog W.w W.base K W.exc mg mb
 ex:∃d,R1 W K d
section
variable {c:Cx}{s:ag}{ρ':mQ}{q:Bool}{P:Pg}{CC:Bool->Call}
theorem Em(kf:Kf W K mg mb)(ar:oN A c q d)(H:ng W c ρ φ σ s){u:af}(h:∀e s' o vs a0,Good W [] φ s σ φ s'->Mr s.heap s'.heap e W.exc o vs a0->s.heap.get? e=none->Q (.ref e) s'):
  an W.M A (call (.ref W.exc) [y,u]) Q E s:=by
 refine m4 kf.ex λkd I=>?_;refine IZ kf.facts.cls λcp hC YI YH hbA hbN=>?_;refine m4 kf.facts.exc λUF F=>?_;obtain ⟨hh,g,dr,t,os⟩:=s;have hb:=H.inv.base;refine Lb (kf.facts.kin.keeps hb) F YH hbA hbN (hb _ _ hC) I.hi I.hf (by show 2<=bp;decide) λT1 e m=>?_;refine nP m.there λtt he Z Z=>?_;have hen:W.base.get? e=none:=tZ hb m.new;refine fc (Ix kf.facts I.i1 rfl I.m1 I.s1 I.fn0 I.i0 I.m0 I.s0 (λb o e'=>m.keeps _ _ (hb _ _ e')) ?_ he hen rfl rfl rfl rfl rfl I.t1 I.t0 λUh Wl md=>⟨rfl,?_⟩)
 .show A.depth+(ce "type.__call__" ⟨.ref W.exc::[y,u],[]⟩).weight+1 < dk;exact Sj (zp [y,u] [] W.exc) ar.depth
 .have md:=md.trans m.keeps;refine xL md.obj λo vs a0 x=>?_;exact h e _ o vs a0 (Good.keeps (s:=⟨hh,g,dr,t,os⟩) H.inv λb o e'=>md.keep _ _ (λq=>mV (m.new.symm.trans (q▸e'))) e') x m.new
theorem Dz{p:A4}{newId:String}{es:List aa}(h:an W.M A (fw (nG es c.env)) (λvs s'=>s'.heap.get? C=some (p.obj C newId)/\an W.M A (call (.ref C) vs) Q E s') E s):an W.M A (fv pos (.ref C) [] (nG es c.env) []) Q E s:=by
 unfold fv;refine ac (aK (qJ (bB h (λvs TW T1=>?_) λZ Z x=>x)));refine ac (bv ?_);refine nE T1 λhC T1=>?_;obtain ⟨hp,g,dr,tk,os⟩:=TW;rw[qh];refine ac (wpAny_keeperOf_exc hC ?_);exact ac (bB T1 (λr T2 hr=>ac (aK (wpAny_point (al hr)))) λZ Z x=>x)
theorem LH(gl:oR G W mg mb)(kf:Kf W K mg mb){a b:MX}{x z:aa}{np XR:b8}(ar:oN A c q d)(hc:nN c.ck "KindFault" = true)(hs:nj x=true)(Um:nj z=true)(ha:nc P W c q A (CC q) a x)(hb:nc P W c q A (CC q) b z):pe P W c q A CC (.raise a b) (.Raise (some (.Call (.Name "KindFault" np) [x,z] [] XR)) none pos):=by
 intro ρ φ σ s Q E H h;have h:=mW.gd h;refine nP kf.facts.cls λcp hC YI Z=>?_;rw[arm_exec_Raise];refine ac (bv (zV (C:=W.exc) (p:=cp) (newId:="Exception.__new__") YI (ar.handled h.1) ?_));refine ac (wpAny_Call_ofName (zw gl hc H ?_));rw[oM _ _ (by rw[lW,lW,hs,Um];rfl)];refine Dz (C:=W.exc) (p:=cp) (newId:="Exception.__new__") ?_;refine gC (ha H (mS.ofS H h.2 λWK T5 T9 X8 TW Z g₁ Xf H₁ T1=>?_));refine gC (hb H₁ (mS.ofS H₁ T1 λWk Ul Uf WJ T2 Z Ug Wo Ub Uh=>?_));refine jS ⟨Ub.inv.base _ _ hC,?_⟩;refine Em kf ar Ub λe Uj o vs a0 Uk m hn=>?_;exact ac (bv (al ⟨e,o,vs,rfl,m.at',m.cls,m.data,m.v1,Uk.inv.base _ _ hC,(mW.gd Uh).2 Uf e Uj Uk.up (.inl ⟨hn,o,vs,a0,m.at',m.cls,m.data,m.v0,m.v1⟩) (Ub.good Uk)⟩))
end
end
section
variable {c:Cx}{s:ag}{ρ':mQ}{q:Bool}{P:Pg}{C:Bool->Call}
theorem HT(ok:ot W P)(ar:oN A c q d){iter:aa}(hn:wq iter=true)(hk:scope.kind=.function)(hc:sk c.ck scope.names [] []=true)(a:nc P W c q A (C q) T8 iter):
  nc P W c q A (C q) (.inEach T8 j) (.ListComp Uv [⟨target,iter,[],0⟩] scope pos):=by
 intro ρ φ σ s Q E H h;have h:=mS.gd h
 .have hh:=ar.handled h.1;have fr:=λ{n:aI}=>tv (n:=n) H.ok hc;rw[eval_ListComp];refine s9 (use:=none) (cl:=rV c.env scope.names []) rfl (λx=>vN hn _ x) (uh λn hn=>(fr hn).2.2) hk (sQ hc).1 (sQ hc).2 (a H (mS.bind h.2 λv σ' TV y s' Z g rv hk'=>?_))
  ··refine mO (mS.opt hk') λn e1 hk'=>?_
    refine mO (mS.opt hk') λl e2 hk'=>?_;have hk:=mS.gd hk';have hk':=hk.2;rw[nJ e1] at rv;refine mO rv λad Zd Ua=>?_;subst Ua;refine mO (g.inv.rep n _ ad (rD e2) Zd) λkvs hd rd=>?_;rw[fR hk.1] at rd;subst rd;have XD:=hd;refine qd XD λo es ep e1 e2 e3 e4 e5 e6=>?_;have hm:s'.heap.DictAt (aC W.prog W.w) ad [] ep:=⟨o,es,e1,e2,e3,e4,e5,e6⟩
    have Uz:(ad==dJ)=false:=by
     rw[beq_eq_false_iff_ne]
     rintro rfl
     refine m4 ok.sys λo' e'=>?_;rw[g.inv.new _ (aF Zd)] at e';cases e'
    refine wpAny_pyIter_dict (knd:=aC W.prog W.w) Uz hm λh' UV V3 hget=>?_;generalize hI:s'.heap.objs.size=I at UV V3 hget ⊢;generalize hH:s'.heap.push {cls:=.type "dict_keyiterator",data:=.fields #[.ref ad,.int 0 0,.int ([]:List (aI×af)).length 0,.int ep 0]}=H1 at UV V3 hget ⊢
    have hz:H1.objs.size=I+1:=by rw[<-hH,<-hI];exact bk ..
    rw[hz] at UV hget ⊢
    have k1:∀b o,s'.heap.get? b=some o->H1.get? b=some o:=λb o e=>by rw[<-hH];exact aj _ e
    have lt:∀b o,s'.heap.get? b=some o->b < I:=λb o e=>by rw[<-hI];exact aX e
    have hit:h'.IsKeyIter I ad 0 ([]:List (aI×af)).length ep:=⟨_,V3 _ _ (by rw[<-hH,<-hI];exact ax _ rfl),rfl,rfl⟩;have Yy:h'.DictAt (aC W.prog W.w) ad [] ep:=⟨o,es,V3 _ _ (k1 _ _ e1),e2,e3,e4,e5,e6⟩
    have VR:dc W.M A (.compLoop (.ListComp Uv [⟨target,iter,[],0⟩] scope pos) 0 (.ref I) (.ref (I+1)) (di scope (rV c.env scope.names []) (I+1+1) c.env)) (sA W.M A E none Q (di scope (rV c.env scope.names []) (I+1+1) c.env) (.ref (I+1))) {s' with heap:=h'}:=by
     refine qq (λZ st=>st={s' with heap:=h'}) ?_ 0 rfl
     rintro n st rfl
     refine wpAny_pyNext_dict_end (knd:=aC W.prog W.w) hh hit Yy rfl λUh he=>?_;refine oI UV λoL esL epL eL rL=>?_;have ZE:I+1+1≠I:=dz (ci (aR I));refine⟨_,⟨oL,esL,epL,he _ _ ZE eL,rL⟩,λUP hs=>?_⟩;have k3:∀b o,b≠I->b≠I+1+1->h'.get? b=some o->UP.get? b=some o:=λb o hb hb' e=>hs.extBut b o hb' (he b o hb e);have kk:∀b o,s'.heap.get? b=some o->UP.get? b=some o:=λb o e=>k3 b o (aS (lt b o e)) (aS (ci (ci (lt b o e)))) (V3 _ _ (k1 _ _ e))
     have Zh:s'.heap.get? (I+1)=none:=by
      cases q:s'.heap.get? (I+1) with
      |none=>rfl
      |some o=>exact absurd (lt _ _ q) (gN.mpr (kP I))
     refine hk' TV (.ref (I+1)) _ (Good.keeps g.inv kk) ?_;refine⟨I+1,[],0,rfl,⟨(g.inv.fresh Zh).1,λhm=>?_⟩,by simp,k3 _ _ (ku I) (aS (aR _)) hget,rfl⟩;refine m4 (g.inv.hid _ hm) λo e=>?_;rw[Zh] at e;cases e
    exact iK VR (wpAny_pyIter_keyiter hit VR)
end
noncomputable def Fx(vars:List (aI×Nat)):Nat->List aI->Bool
 |_,[]=>true
 |j,p::r=>vars.lookup p==some j&&Fx vars (j+1) r
noncomputable def JL(kinds:List (aI×bN))(x:aI):Bool:=kinds.lookup x==some .local||(kinds.lookup x==some .cell&&kinds.contains (x,.cell))
noncomputable def H3(kinds:List (aI×bN))(vars:List (aI×Nat))(params:List aI)(F:C6):Bool:=
 decide (vars.map (·.2)).Nodup&&(decide (params.length=F.params)&&(decide (F.params<=F.slots)&&(Fx vars 0 params&&vars.all λp=>JL kinds p.1)))
structure Tk(kinds:List (aI×bN))(vars:List (aI×Nat))(params:List aI)(F:C6):Prop where
 inj:(vars.map (·.2)).Nodup
 len:params.length=F.params
 le:F.params<=F.slots
 par:Fx vars 0 params=true
 has:∀p∈vars,JL kinds p.1=true
theorem yO{kinds:List (aI×bN)}{F:C6}(h:H3 kinds vars params F=true):Tk kinds vars params F:=
 have h1:=b2 h;have h2:=b2 h1.2;have h3:=b2 h2.2;have h4:=b2 h3.2
 ⟨of_decide_eq_true h1.1,of_decide_eq_true h2.1,of_decide_eq_true h3.1,h4.1,aJ.mp h4.2⟩
theorem Gb{x:aI}:∀{n:Nat} {acc:List (aI×ai)},(∃c,acc.lookup x=some c)->∃c,(kB n names acc).lookup x=some c:=by
 induction names with
 |nil=>exact λh=>h
 |cons p r ih=>
  intro n acc h;unfold kB
  split
  .refine m4 h λc h=>?_;refine ih ?_;rw[cA]
   by_cases e:(x==p.1)=true
   .rw[e];exact⟨_,rfl⟩
   .rw[b9.mpr e];exact⟨c,h⟩
  .exact ih h
theorem Gc{x:aI}:∀{n:Nat} {acc:List (aI×ai)},(x,jC)∈names->∃c,(kB n names acc).lookup x=some c:=by
 induction names with
 |nil=>exact λh=>nomatch h
 |cons p r ih=>
  intro n acc h;unfold kB
  rcases aA.mp h with e | h
  .rw[<-e];exact Gb ⟨n,by rw[cA,beq_self_eq_true]⟩
  .split
   .exact ih h
   .exact ih h
structure S4 where
 o:eT
 fd:eV
 params:List aI
structure PH(W:Wd)(fn:ai)(F:C6)(kinds:List (aI×bN))(vars:List (aI×Nat))(stmts:List Stmt)(d:S4):Prop where
 hf:W.base.get? fn=some d.o
 hd:d.o.data=.func d.fd
 body:d.fd.body=.stmts stmts
 names:d.fd.scope.names=kinds
 kind:d.fd.scope.kind=.function
 co:d.fd.scope.isCoroutine=false
 gen:d.fd.scope.isGenerator=false
 clo:d.fd.closure=[]
 gl:d.fd.globals=b6
 bu:d.fd.builtins=dG
 cr:W.base.CodeRec d.fd.code d.fd.qualname
 bind:∀vals:List af,vals.length=d.params.length->bindArgs d.fd ⟨vals,[]⟩=pure (d.params.zip vals)
 chk:H3 kinds vars d.params F=true
structure Kv(W:Wd)(fn:ai)(F:C6)(kinds:List (aI×bN))(vars:List (aI×Nat))(stmts:List Stmt):Prop where
 ex:∃d,PH W fn F kinds vars stmts d
 nolimit:W.base.NoLimit
noncomputable def tR:Nat->List V->mQ->mQ
 |_,[],ρ=>ρ
 |j,v::l,ρ=>tR (j+1) l (ρ.set j (some v))
theorem D8:∀{pre:mQ} {n:Nat},l.length<=n->tR pre.length l (pre++ch n none)=pre++(l.map some++ch (n - l.length) none):=by
 induction l with
 |nil=>exact λZ=>rfl
 |cons v l ih=>
  intro pre n h
  cases n with
  |zero=>exact absurd h (eh _)
  |succ n=>
   have e:(pre++ch (n+1) none).set pre.length (some v)=(pre++[some v])++ch n none:=by
    rw[List.set_append_right _ _ (aQ _),dB,aP];rfl
   have:=ih (pre:=pre++[some v]) (n:=n) (dw h);rw[aL] at this;show tR (pre.length+1) l _=_;rw[e,List.length_cons,Nat.succ_sub_succ];exact this.trans (by rw[aP];rfl)
section
variable {c:Cx}{s:ag}{ρ':mQ}{q:Bool}{P:Pg}{C:Bool->Call}
theorem Ka(f:aI×af->PUnit->jM (ForInStep PUnit))(hf:∀n v u,f (n,v) u=(do gz c.env n v;pure (.yield ⟨⟩))):∀{j:Nat} {l:List V} {vals:List af} {ρ:mQ} {s:ag} {Q:PUnit->ag->Prop},
  Fx c.vars j params=true->l.length=params.length->ng W c ρ φ σ s->nf W φ s.heap l vals->j+l.length<=ρ.length->
  (∀s',Good W (ownOf c.env) φ s σ φ s'->ng W c (tR j l ρ) φ σ s'->Q ⟨⟩ s')->an W.M A (forIn (params.zip vals) ⟨⟩ f) Q E s:=by
 induction params with
 |nil=>
  intro j l vals ρ s Q hp hl H r hj h;rw[fR hl] at h;rw[List.zip_nil_left,List.forIn_nil];exact al (h s (.refl H.inv) H)
 |cons p params ih=>
  intro j l vals ρ s Q hp hl H r hj h
  cases l with
  |nil=>exact nomatch hl
  |cons v l=>
   refine mU r.uncons λy ys e rv rl=>?_;have hp:=b2 hp;have ZX:j < ρ.length:=cR (Nat.lt_add_of_pos_right (Nat.succ_pos _)) hj;rw[e,gL,lg,hf]
   exact ac (ac (se (loc:=false) H (eq_of_beq hp.1) ZX rv (λq=>mP q) λTW g₁ H₁=>al
    (ih hp.2 (c0 hl) H₁ (rl.evo (X:=φ++ownOf c.env) g₁.evo (own_apart H) g₁.grows) (by rw[bG,bT];exact hj) λT2 Ug Ub=>h T2 (g₁.trans Ug) Ub)))
theorem s5.gd{p:Prop}[Decidable p]{r:R Unit V}(h:s5 W φ s (Mine.Internal.gd p r) R'):p/\s5 W φ s r R':=by
 unfold Mine.Internal.gd at h
 by_cases hp:p
 .rw[if_pos hp] at h;exact⟨hp,h⟩
 .rw[if_neg hp] at h;exact h.elim
theorem IM{fn:ai}{F:C6}{kinds:List (aI×bN)}{stmts:List Stmt}{fd:S4}{l:List d9}(I:PH W fn F kinds vars stmts fd)(frs:tg W φ s.heap l)(g₁:Good W [] φ s σ φ {s with heap:=T1})(hL:∀b,L<=b->s.heap.get? b=none)(hFr:T1.get? L=some {cls:=.type "frame",data:=.dict #[]})(okc:CellsOk T1 (L+1) (cq fd.fd L fn).cells)(inv:Inv W φ σ s.heap):
  ng W ⟨cq fd.fd L fn,cq fd.fd L fn,l,vars⟩ (ch F.slots none) φ σ {s with heap:=T1}/\∀b∈ownOf (cq fd.fd L fn),s.heap.get? b=none:=by
 have K:=yO I.chk;have cell_new:∀n a,(cq fd.fd L fn).cells.lookup n=some a->T1.IsCell a none/\L+1<=a:=λn a e=>okc.empty n a (mem_of_lookup e)
 have own_new:∀b∈ownOf (cq fd.fd L fn),s.heap.get? b=none:=λb hb=>by
  rcases oV hb with q | ⟨n,hn⟩
  .rw[q];exact hL _ (aQ _)
  .exact hL b (j2 (cell_new n b hn).2)
 have nm:(cq fd.fd L fn).scope.kind≠.module:=by rw[show (cq fd.fd L fn).scope.kind=.function from I.kind];decide
 have blank:∀{i:Nat} {u:Option af},su W φ T1 (ch F.slots none) i u:=λ{i u} v e=>by
  rw[ir] at e
  split at e<;>exact mV e
 refine⟨⟨g₁.inv,⟨I.kind,I.gl,I.bu,K.inj,λx y a ex ey=>name_of_addr okc.apart (mem_of_lookup ex) (mem_of_lookup ey),inv.fresh (hL _ (aQ _)),⟨_,⟨_,#[],_,hFr,rfl,λe he=>absurd he (by simp),λZ=>rfl⟩,λx i Z Z=>blank⟩,λx a ha=>?_,λx i hx=>?_⟩,
  ⟨nm,⟨L,rfl,(inv.fresh (hL _ (aQ _))).1,(inv.fresh (hL _ (aQ _))).2,_,_,_,hFr,rfl,rfl⟩,frs.evo g₁.evo g₁.grows λb hb=>.inl (by simpa using (frs.mem hb).1)⟩,λb hb hm=>?_⟩,own_new⟩
 .refine nE (cell_new x a ha) λhc XZ=>?_;have hfr:=inv.fresh (hL a (j2 XZ));exact⟨hfr.1,hfr.2,dz XZ,none,hc,λi Z Z=>blank⟩
 .have e:∀y,(cq fd.fd L fn).kindOf y=kinds.lookup y:=λy=>congrArg (List.lookup y) I.names
  rcases Bm (K.has (x,i) (mem_of_lookup hx)) with q | q
  .exact .inl ((e x).trans (eq_of_beq q))
  .have q:=b2 q;exact .inr ⟨.inl ((e x).trans (eq_of_beq q.1)),Gc (by rw[I.names];exact cV.mp q.2)⟩
 .refine y4 (frs.mem hm) λZ Z o' Z Z e' Z=>?_;exact mV ((own_new b hb).symm.trans e')
theorem Pa{fn:ai}{F:C6}{kinds:List (aI×bN)}{stmts:List Stmt}{l:List d9}{args:List V}{R:cT->ag->Prop}(ok:Kv W fn F kinds vars stmts)(pre:wN A l q (d+1))(frs:tg W φ s.heap l)(inv:Inv W φ σ s.heap)(r:nf W φ s.heap args vals)(hb:∀{c:Cx} {A:aH},c.ck=⟨kinds,vars⟩->c.env.scope.kind=.function->oN A c q d->rJ P W c q A C F.body stmts)(h:s5 W φ s (gd (args.length=F.params) (ended (dS P C q F.body (qX F args) σ))) R):dc W.M A (.call (.ref fn) ⟨vals,[]⟩) R s:=by
 refine m4 ok.ex λfd I=>?_;have K:=yO I.chk;refine nE (s5.gd h) λhlen h=>?_;have hb':=inv.base;refine codeAny_call_function (Si pre.depth) (hb' _ _ I.hf) I.hd I.co I.gen I.body (I.cr.keeps hb') ?_;rw[I.bind vals (by rw[r.length,hlen,K.len]),I.clo];refine al ?_;simp only[newFunctionEnv,Option.isSome_none,gA,if_false];refine ac (wpAny_alloc ?_);refine ac (wpAny_layCells _ (λname kind cells=>by cases kind==jC<;>simp) _ _ _ _ ?_);have okc:=cellsFrom_ok fd.fd.scope.names (s.heap.push {cls:=.type "frame",data:=.dict #[]}) (s.heap.objs.size+1) [] ⟨λZ Z hm=>(nomatch hm),mM⟩ (by rw[bk];exact aQ _);rw[bk] at okc;rw[show ({s with heap:=s.heap.push {cls:=.type "frame",data:=.dict #[]}}:ag).heap.objs.size=s.heap.objs.size+1 from bk ..];have hnew:∀b,s.heap.objs.size<=b->s.heap.get? b=none:=λb hb=>ef hb;have kp:∀b o,s.heap.get? b=some o->(ma (s.heap.push {cls:=.type "frame",data:=.dict #[]}) fd.fd.scope.names).get? b=some o:=λb o e=>pushCells_keeps _ _ b o (aj _ e);have hFr:(ma (s.heap.push {cls:=.type "frame",data:=.dict #[]}) fd.fd.scope.names).get? s.heap.objs.size=some {cls:=.type "frame",data:=.dict #[]}:=pushCells_keeps _ _ _ _ (ax _ rfl);generalize s.heap.objs.size=L at okc hnew hFr ⊢;generalize ma (s.heap.push {cls:=.type "frame",data:=.dict #[]}) fd.fd.scope.names=T1 at okc kp hFr ⊢;have g₁:Good W [] φ s σ φ {s with heap:=T1}:=Good.keeps inv kp;refine nE (IM I frs g₁ hnew hFr okc inv) λH₁ own_new=>?_;refine ac (Ka (c:=⟨cq fd.fd L fn,cq fd.fd L fn,l,vars⟩) _ (λZ Z Z=>rfl) K.par (hlen.trans K.len.symm) H₁ (g₁.repL r) (by rw[gu,List.length_replicate,hlen];exact K.le) λT2 Ug Ub=>?_);refine al ⟨ok.nolimit.keeps Ub.inv.base,codeAny_func ?_⟩;have e:tR 0 args (ch F.slots none)=qX F args:=(D8 (pre:=[]) (by rw[hlen];exact K.le)).trans (by rw[hlen];rfl);rw[e] at Ub;have g₂':Good W [] φ s σ φ T2:=g₁.fresh (F:=ownOf (cq fd.fd L fn)) own_new Ug
 have ar:oN (A.deeper (cq fd.fd L fn)) ⟨cq fd.fd L fn,cq fd.fd L fn,l,vars⟩ q d:=by
  refine⟨congrArg (cj (_::·)) pre.frames,rfl,?_,?_,pre.handled⟩
  .exact Se pre.depth
  .exact Sf pre.units
 refine hb (c:=⟨cq fd.fd L fn,cq fd.fd L fn,l,vars⟩) (A:=A.deeper (cq fd.fd L fn)) (congrArg (Ck.mk · vars) I.names) I.kind ar Ub ?_;have back:∀{US:St} {UD:List ai} {Uj:ag},Good W (ownOf (cq fd.fd L fn)) φ T2 US UD Uj->Good W [] φ s US UD Uj:=λg=>g₂'.fresh (F:=ownOf (cq fd.fd L fn)) own_new g
 revert h
 generalize dS P C q F.body (qX F args) σ=rr;intro h
 cases rr with
 |bad=>exact h.elim
 |ok p US=>
  obtain ⟨fl,ρ₃⟩:=p;intro UD f Uj Uk rf Uy
  cases fl with
  |next=>rw[show f=.next from rf];exact h UD .none Uj (back Uk) rfl
  |ret v=>refine mO rf λy e ry=>?_;rw[e];exact h UD y Uj (back Uk) ry
 |exc ρ₃ US=>
  intro UD ex Uj Uk x₃ Uy;refine G4 ar.frames Uy.frs rfl rfl (λb hb=>(back Uk).evo.fresh hb) (x₃.born λb hb=>g₂'.evo.fresh hb) λh' hop fl=>?_;exact h UD ex _ ((back Uk).hop (t:=Uj.toks) inv.base hop Uy.frs.at) fl
end
structure A3 where
 E:Ck->aa->Bool
 T:Ck->aa->Bool
 L:Ck->List aa->Bool
 LT:Ck->List aa->Bool
 I:Ck->aa->aa->Bool
 isNil:Bool
noncomputable def A3.no:A3:=⟨λZ Z=>false,λZ Z=>false,λZ Z=>false,λZ Z=>false,λZ Z Z=>false,false⟩
noncomputable def A3.ofET(f g:Ck->aa->Bool):A3:={A3.no with E:=f,T:=g,I:=λk Z x=>f k x}
noncomputable def A3.ofI(f:Ck->aa->aa->Bool):A3:={A3.no with I:=f}
noncomputable def A3.ofE(f:Ck->aa->Bool):A3:=.ofET f λZ Z=>false
noncomputable def A3.ofV(f:Ck->aa->Bool):A3:=.ofET f λk x=>v8 x&&f k x
noncomputable def BI.nm:BI->aI
 |.len=>"len" |.any=>"any" |.sorted _=>"sorted" |.list _=>"list" |.tuple=>"tuple" |.dict=>"dict"
theorem EH(b:BI):gv b.nm=some b.py/\b.nm∈qp:=by
 cases b with
 |sorted m=>exact⟨by kernel_rfl,(by decide:("sorted" : aI)∈qp)⟩
 |list m=>exact⟨by kernel_rfl,(by decide:("list" : aI)∈qp)⟩
 |_=>exact⟨by kernel_rfl,by decide⟩
theorem rE{o:Option α}(h:o.isNone=true):o=none:=by
 cases o with
 |none=>rfl
 |some _=>exact mP h
noncomputable def Mx:lu->Bool
 |.none=>true
 |_=>false
theorem HE{c:lu}:Mx c=true->c=.none:=by cases c<;>first | exact mP | exact λZ=>rfl
noncomputable def Mw:lu->Option Bool
 |.bool b=>some b
 |_=>none
theorem HD{c:lu}{b:Bool}:Mw c=some b->c=.bool b:=by cases c<;>first | exact mV | exact λh=>congrArg lu.bool (ae h)
noncomputable def Nl:lu->Option Int
 |.int b=>some b
 |_=>none
theorem EI{c:lu}{b:Int}:Nl c=some b->c=.int b:=by cases c<;>first | exact mV | exact λh=>congrArg lu.int (ae h)
noncomputable def qM(x:aa)(f:aI->List aa->Bool):Bool:=v6 x λg xs ks Z=>ks.isEmpty&&qw g λn=>f n xs
theorem pG{x:aa}{f:aI->List aa->Bool}{P:aa->Prop}(h:qM x f=true)(k:∀n p xs pos,f n xs=true->P (.Call (.Name n p) xs [] pos)):P x:=
 vj h λg xs ks pos h=>rB h λh1 h=>tH (P:=λks=>P (.Call g xs ks pos)) h1 (oJ (P:=λg=>P (.Call g xs [] pos)) h λn p h=>k n p xs pos h)
noncomputable def Ak(x:aa)(f:aa->aI->List aa->Bool):Bool:=v6 x λg xs ks p=>ks.isEmpty&&uz g λy n ap=>ap.endLine==p.line&&(qe y&&(xs.all nj&&(decide (xs.length < 30)&&f y n xs)))
theorem y7{x:aa}{f:aa->aI->List aa->Bool}{P:aa->Prop}(h:Ak x f=true)(k:∀y n ap xs pos,(ap.endLine==pos.line)=true->qe y=true->xs.all nj=true->xs.length < 30->f y n xs=true->P (.Call (.Attribute y n ap) xs [] pos)):P x:=
 vj h λg xs ks pos h=>rB h λh1 h=>tH (P:=λks=>P (.Call g xs ks pos)) h1 (tK (P:=λg=>P (.Call g xs [] pos)) h λy n ap h=>RN h λh1 h2 h3 h4 h=>k y n ap xs pos h1 h2 h3 (of_decide_eq_true h4) h)
noncomputable def Ir(S:List aI):List Nat->List (Option aa)->Bool
 |[],es=>es.isEmpty
 |k::ks,es=>oW es λo es=>o.any (λx=>onStr x λs=>S[k]?==some s)&&Ir S ks es
theorem Gp:∀{es:List (Option aa)},Ir S ks es=true->KeysAre S ks es:=by
 induction ks with
 |nil=>exact λh=>tH h .nil
 |cons k ks ih=>exact λh=>o6 h λo r h=>rB h λh1 h=>Bd (P:=λo=>KeysAre S (k::ks) (o::r)) h1 λx h1=>Aq (P:=λx=>KeysAre S (k::ks) (some x::r)) h1 λs kd p h1=>.cons (eq_of_beq h1) (ih h)
noncomputable def Ay:List aa->(List aa->Nat->Bool)->Bool
 |[],k=>k [] 0
 |x::r,k=>(onStr x λs=>Ay r λvs n=>k vs (n+s.length))||DS x λv i sp=>decide (i=-1)&&(sp.isNone&&Ay r λvs n=>k (v::vs) n)
theorem D4{l:List aa}{P:Prop}:∀{k:List aa->Nat->Bool},Ay l k=true->(∀vs n,o4 l vs n->k vs n=true->P)->P:=by
 induction l with
 |nil=>exact λh k=>k [] 0 .nil h
 |cons x r ih=>
  intro k h;refine (Bm h).elim (λh=>?_) λh=>?_
  .exact Aq (P:=λx=>(∀vs n,o4 (x::r) vs n->k vs n=true->P)->P) h λs kd p h k=>ih h λvs n a b=>k vs _ (.str a) b
  .exact I9 (P:=λx=>(∀vs n,o4 (x::r) vs n->k vs n=true->P)->P) h λv i sp p h=>wi h λh1 h2 h=>tx (P:=λi=>(∀vs n,o4 (.FormattedValue v i sp p::r) vs n->k vs n=true->P)->P) h1
    (Ag (P:=λsp=>(∀vs n,o4 (.FormattedValue v (-1) sp p::r) vs n->k vs n=true->P)->P) h2 λk=>ih h λvs n a b=>k _ n (.val a) b)
noncomputable def IJ:aa->List aI
 |.Name n _=>[n]
 |_=>[]
noncomputable def sL:aa->List aI
 |.Tuple xs _ _=>xs.flatMap IJ
 |x=>IJ x
noncomputable def uR(k:Ck)(names:List (aI×bN))(lv:List (aI×Nat)):List (aI×Nat):=
 lv++names.filterMap λp=>if p.2==.free then (k.vars.lookup p.1).map λi=>(p.1,i) else none
noncomputable def Q2(k:Ck)(names:List (aI×bN))(lv vs:List (aI×Nat)):Bool:=
 lv.all λp=>vs.lookup p.1==some p.2&&(oK k names).lookup p.1==some .local
theorem Lf{k:Ck}{vs:List (aI×Nat)}(h:Q2 k names lv vs=true):∀x i,lv.lookup x=some i->vs.lookup x=some i/\(oK k names).lookup x=some .local:=λx i e=>
 have h:=b2 (aJ.mp h (x,i) (mem_of_lookup e))
 ⟨eq_of_beq h.1,eq_of_beq h.2⟩
noncomputable def Q0(S:List aI)(v:V)(x:aa):Bool:=
 ((pJ v).isSome&&sW x Mx)||(((pp v).any λb=>sW x λc=>Mw c==some b)||(((nI v).any λi=>(sW x λc=>Nl c==some i)||Je x λo y=>decide (o=.USub)&&sW y λc=>Nl c==some (-i))||
  (pC v).any λk=>onStr x λs=>S[k]?==some s))
structure Lg where
 G:Gl
 S:List aI
 attrs:List aI
structure A1 extends Lg where
 K:cX
 mg:aI->Option af
 mb:aI->Option af
section
variable (p:Lg)
noncomputable def nq:MX->A3
 |.nil=>{A3.no with L:=λZ xs=>xs.isEmpty,LT:=λZ xs=>xs.isEmpty,isNil:=true}
 |.cons e es=>{A3.no with
   L:=λk xs=>oW xs λx xs=>(nq e).E k x&&(nq es).L k xs
   LT:=λk xs=>oW xs λx xs=>(nq e).T k x&&(nq es).LT k xs}
 |.lit v=>.ofV λZ x=>Q0 p.S v x
 |.glob g=>.ofE λk x=>qw x λn=>p.G.nm.cn[g]?==some n&&nN k n
 |.var i=>.ofV λk x=>qw x (EY k i)
 |.tup es=>.ofE λk x=>r7 x λxs=>xs.all nj&&(nq es).L k xs
 |.lst _ es=>.ofE λk x=>An x λxs=>xs.all nj&&(nq es).L k xs
 |.dict ks es=>.ofE λk x=>DQ x λkeys xs=>decide (ks.length=xs.length)&&(decide (keys.length<=15)&&(Ir p.S ks keys&&(nq es).L k xs))
 |.attr e n=>.ofV λk x=>uz x λy nm Z=>qe y&&(p.S[n]?==some nm&&(p.attrs.contains nm&&(nq e).E k y))
 |.idx e i=>.ofV λk x=>Cp x λy z=>vf z&&((nq e).E k y&&(nq i).E k z)
 |.upto e i=>.ofE λk x=>Cp x λy z=>Ao z λlo up st=>lo.isNone&&(st.isNone&&up.any λz=>(nq e).E k y&&(nq i).E k z)
 |.bin op e i=>.ofE λk x=>I3 x λy o z=>decide (o=op.py)&&((nq e).E k y&&(nq i).E k z)
 |.cmp op e i=>.ofET (λk x=>Ft x λy os zs=>decide (os=[op.py])&&qT zs λz=>xD z&&((nq e).E k y&&(nq i).E k z)) λk x=>Ft x λy os zs=>decide (os=[op.py])&&qT zs λz=>xD z&&((nq e).E k y&&(nq i).E k z)
 |.not e=>.ofET (λk x=>Je x λo y=>decide (o=.Not)&&(nq e).E k y) λk x=>Je x λo y=>decide (o=.Not)&&(nq e).T k y
 |.and es=>.ofET (λk x=>v5 x λo xs=>decide (o=.And)&&(nq es).L k xs) λk x=>v5 x λo xs=>decide (o=.And)&&(nq es).LT k xs
 |.or es=>.ofET (λk x=>v5 x λo xs=>decide (o=.Or)&&(nq es).L k xs) λk x=>v5 x λo xs=>decide (o=.Or)&&(nq es).LT k xs
 |.ite t e i=>.ofET (λk x=>Lw x λy z w=>(nq t).T k y&&((nq e).E k z&&(nq i).E k w)) λk x=>Lw x λy z w=>(nq t).T k y&&((nq e).T k z&&(nq i).T k w)
 |.call f es=>.ofV λk x=>qM x λn xs=>p.G.nm.fnm[f]?==some (some n)&&(nN k n&&(xs.all nj&&(nq es).L k xs))
 |.meth e m es=>.ofV λk x=>Ak x λy nm xs=>p.S[m]?==some nm&&((nq e).E k y&&(nq es).L k xs)
 |.bi b e=>.ofV λk x=>qM x λn xs=>n==b.nm&&(nN k n&&qT xs λy=>nj y&&(nq e).E k y)
 |.bm m e es=>.ofE λk x=>Ak x λy nm xs=>nm==m.name&&((nq e).E k y&&(nq es).L k xs)
 |.new cl=>.ofE λk x=>qM x λn xs=>xs.isEmpty&&(p.G.nm.cnm[cl]?==some n&&(nN k n&&(p.G.P.init cl).isSome))
 |.sset e i=>.ofE λk x=>qM x λn xs=>n=="sorted" && (nN k n&&qT xs λz=>qM z λm ys=>m=="set" && (nN k m&&qT ys λu=>An u λzs=>xT zs λy z=>nj y&&(nj z&&((nq e).E k y&&(nq i).E k z))))
 |.fstr n es=>.ofE λk x=>xR x λparts=>decide (2<=parts.length)&&(decide (n<=10000)&&Ay parts λvals n'=>decide (n=n')&&(decide (vals.length<=50)&&(nq es).L k vals))
 |.inEach T8 _=>.ofE λk x=>Al x λy gs sc=>qT gs λg=>decide (g.is_async=0)&&(g.ifs.isEmpty&&(wq g.iter&&(decide (sc.kind=.function)&&(sk k sc.names [] []&&(nq T8).E k g.iter))))
 |.comp t T8 cond Uv=>.ofE λk x=>Al x λy gs sc=>qT gs λg=>
   decide (g.is_async=0)&&(wq g.iter&&(decide (sc.kind=.function)&&(sk k sc.names (uR k sc.names ((sL g.target).zip (oZ t))) (oZ t)&&
    (Q2 k sc.names ((sL g.target).zip (oZ t)) (uR k sc.names ((sL g.target).zip (oZ t)))&&(zE ((sL g.target).zip (oZ t)) t g.target&&((nq T8).I k g.target g.iter&&
    (((g.ifs.isEmpty&&(nq cond).isNil)||qT g.ifs λz=>(nq cond).T ⟨oK k sc.names,uR k sc.names ((sL g.target).zip (oZ t))⟩ z)&&
     (nq Uv).E ⟨oK k sc.names,uR k sc.names ((sL g.target).zip (oZ t))⟩ y)))))))
 |.rng es=>.ofI λk Z x=>qM x λn xs=>n=="range" && (nN k n&&(xs.all nj&&(nq es).L k xs))
 |.enum e=>.ofI λk t x=>r7 t λZ=>qM x λn xs=>n=="enumerate" && (nN k n&&qT xs λy=>nj y&&(nq e).E k y)
 |.zip e i=>.ofI λk t x=>r7 t λZ=>qM x λn xs=>n=="zip" && (nN k n&&xT xs λy z=>nj y&&(nj z&&((nq e).E k y&&(nq i).E k z)))
end
structure PF(p:A1)(W:Wd):Prop where
 gl:oR p.G W p.mg p.mb
 ok:ot W p.G.P
 sS:W.S=p.S
 hK:p.K.In W.base
 cf:∀c,qO p.K (W.cls c) p.attrs
 fnAt:∀f x,p.G.nm.fnm[f]?=some (some x)->∃o fd,W.base.get? (p.G.fnA f)=some o/\o.data=.func fd
 meth:∀k nm cl f,W.S[k]?=some nm->p.G.P.meth cl k=some f->(dj p.K (.ref (W.cls cl)) nm=some (some (.ref (p.G.fnA f)))/\jP p.K (.ref (p.G.fnA f))=some (.type "function"))/\∃o fd,W.base.get? (p.G.fnA f)=some o/\o.data=.func fd
 init:∀cl f,p.G.P.init cl=some f->makesIn p.K (W.cls cl)=true/\dj p.K (.ref (W.cls cl)) "__init__" = some (some (.ref (p.G.fnA f)))/\jP p.K (.ref (p.G.fnA f))=some (.type "function")
 kf:Kf W p.K p.mg p.mb
 sset:∀{d:Nat} {C:Call} {c:Cx} {q:Bool} {A:aH} {a b:MX} {x y:aa} {Wp VP VA pos U9:b8},oN A c q d->nN c.ck "sorted" = true->nN c.ck "set" = true->nj x=true->nj y=true->nc p.G.P W c q A C a x->nc p.G.P W c q A C b y->
  nc p.G.P W c q A C (.sset a b) (.Call (.Name "sorted" Wp) [.Call (.Name "set" VP) [.List [x,y] VA] [] U9] [] pos)
structure M0(p:A1)(W:Wd)(d:Nat)(C:Bool->Call):Prop extends PF p W where
 ck:uK p.G.fnA W d C
def C5(p:A1)(W:Wd)(d:Nat)(C:Bool->Call):Prop:=∀ws:List ai,(∀a∈ws,W.base.get? a=none)->M0 p (W.hides ws) d C
section
variable {p:A1}{W:Wd}{d:Nat}{C:Bool->Call}{c:Cx}{q:Bool}{A:aH}
theorem C5.now(h:C5 p W d C):M0 p W d C:=h [] λZ hm=>nomatch hm
theorem BA(W:Wd)(ws vs:List ai):(W.hides ws).hides vs=W.hides (vs++ws):=
 congrArg (λl=>{W with hid:=l}) (aP vs ws W.hid).symm
theorem C5.hides(h:C5 p W d C)(hw:∀a∈ws,W.base.get? a=none):C5 p (W.hides ws) d C:=λvs hv=>by
 rw[BA];exact h _ λa ha=>(aG.mp ha).elim (hv a) (hw a)
structure wC(p:A1)(d:Nat)(C:Bool->Call)(W:Wd)(c:Cx)(q:Bool)(A:aH):Prop where
 env:C5 p W d C
 ar:oN A c q d
 kind:c.env.scope.kind=.function
theorem wC.now(a:wC p d C W c q A):M0 p W d C:=a.env.now
theorem EM{c:Cx}{vs:List (aI×Nat)}(hk:c.env.scope.kind=.function):(c.comp scope vs L).ck=⟨oK c.ck scope.names,vs⟩:=
 congrArg (Ck.mk · vs) (tN (vars:=c.vars) hk)
theorem wC.comp(a:wC p d C W c q A){vs:List (aI×Nat)}(hw:∀a∈ws,W.base.get? a=none)(hk:scope.kind=.function):wC p d C (W.hides ws) (c.comp scope vs L) q A:=⟨a.env.hides hw,a.ar.comp,hk⟩
section
variable (p:A1)(d:Nat)(C:Bool->Call)
def Ky(e:MX)(f:Ck->aa->Bool):Prop:=∀{W:Wd} {c:Cx} {q:Bool} {A:aH},wC p d C W c q A->∀{y:aa},f c.ck y=true->nc p.G.P W c q A (C q) e y
def PT(e:MX)(f:Ck->aa->Bool):Prop:=∀{W:Wd} {c:Cx} {q:Bool} {A:aH},wC p d C W c q A->∀{y:aa},f c.ck y=true->pM p.G.P W c q A (C q) e y
def R4(e:MX)(f:Ck->List aa->Bool):Prop:=∀{W:Wd} {c:Cx} {q:Bool} {A:aH},wC p d C W c q A->∀{y:List aa},f c.ck y=true->nV p.G.P W c q A (C q) e y
def PS(e:MX)(f:Ck->List aa->Bool):Prop:=∀{W:Wd} {c:Cx} {q:Bool} {A:aH},wC p d C W c q A->∀{y:List aa},f c.ck y=true->qQ p.G.P W c q A (C q) e y
def PR(e:MX)(f:Ck->aa->aa->Bool):Prop:=∀{W:Wd} {c:Cx} {q:Bool} {A:aH},wC p d C W c q A->q=false->∀{t y:aa},f c.ck t y=true->wh p.G.P W c q A (C q) t e y
structure F1(e:MX)(x:A3):Prop where
 E:Ky p d C e x.E
 T:PT p d C e x.T
 L:R4 p d C e x.L
 LT:PS p d C e x.LT
 I:PR p d C e x.I
 nil:x.isNil=true->e=.nil
end
theorem F1.ofET{f g:Ck->aa->Bool}(hp:∀q ρ σ,dI p.G.P q (C q) e ρ σ=(dE p.G.P q (C q) e ρ σ).bind xp)(h:Ky p d C e f)(k:PT p d C e g):F1 p d C e (.ofET f g):=
 ⟨h,k,λZ Z=>mP,λZ Z=>mP,λa hq Z Z x=>K8 (a.ar.handled hq) (hp _) (h a x),mP⟩
theorem F1.ofE{f:Ck->aa->Bool}(hp:∀q ρ σ,dI p.G.P q (C q) e ρ σ=(dE p.G.P q (C q) e ρ σ).bind xp)(h:Ky p d C e f):F1 p d C e (.ofE f):=.ofET hp h λZ Z=>mP
theorem F1.ofV{f:Ck->aa->Bool}(hp:∀q ρ σ,dI p.G.P q (C q) e ρ σ=(dE p.G.P q (C q) e ρ σ).bind xp)(hv:∀q ρ σ,dT p.G.P q (C q) e ρ σ=(dE p.G.P q (C q) e ρ σ).bind λv σ=>R.of (pp v) σ)(h:Ky p d C e f):
  F1 p d C e (.ofV f):=.ofET hp h λa Z x=>Rz (b2 x).1 (h a (b2 x).2) (hv _)
theorem F1.ofI{f:Ck->aa->aa->Bool}(h:PR p d C e f):F1 p d C e (.ofI f):=⟨λZ Z=>mP,λZ Z=>mP,λZ Z=>mP,λZ Z=>mP,h,mP⟩
end
section
variable {p:A1}{d:Nat}{C:Bool->Call}
theorem IA{P:Pg}{c:Cx}{q:Bool}{Cq:Call}{v:V}{x:aa}(h:Q0 W.S v x=true):nc P W c q A Cq (.lit v) x:=by
 refine (Bm h).elim (λh=>?_) λh=>(Bm h).elim (λh=>?_) λh=>(Bm h).elim (λh=>?_) λh=>?_
 .refine rB h λh1 h=>sI h λcc k p h=>?_;refine m4 (aV.mp h1) λu e1=>?_;rw[rF e1,HE h];exact NP
 .refine mO (pX h) λb e1 h=>?_;rw[pP e1];refine sI h λcc k p h=>?_;rw[HD (eq_of_beq h)];exact NH
 .refine mO (pX h) λi e1 h=>?_;rw[nS e1];refine (Bm h).elim (λh=>sI h λcc k p h=>?_) λh=>DW h λo y p h=>rB h λh1 h=>?_
  .rw[EI (eq_of_beq h)];exact Qk
  .rw[of_decide_eq_true h1];apply sI h;intro cc k p' h';rw[EI (eq_of_beq h')];have:=Qo (P:=P) (W:=W) (c:=c) (q:=q) (A:=A) (C:=Cq) (i:=-i) (k:=k) (p:=p') (pos:=p);rw[Int.neg_neg] at this;exact this
 .refine mO (pX h) λk e1 h=>?_;rw[oF e1];exact Aq h λs kd p h=>Qr (eq_of_beq h)
theorem HK{g:eU}(h:g.is_async=0):g=⟨g.target,g.iter,g.ifs,0⟩:=by
 obtain ⟨t,i,f,a⟩:=g;exact congrArg (mN t i f) h
theorem GU{x:A3}(s:F1 p d C cond x){c:Cx}{q:Bool}(a:wC p d C W c q A){k:Ck}(hk:c.ck=k)(h:((ifs.isEmpty&&x.isNil)||qT ifs λz=>x.T k z)=true):rY p.G.P W c q A (C q) cond ifs:=
 (Bm h).elim (λh=>rB h λh1 h2=>tH h1 (s.nil h2▸.nil)) λh=>pj h λz h=>.one (s.T a (hk▸h))
structure RY(p:A1)(d:Nat)(C:Bool->Call)(W:Wd)(c:Cx)(q:Bool)(A:aH)(t T8 cond Uv:MX)(x y:aa)(g:eU)(sc:fD)(pos:b8):Prop where
 eq:x=.ListComp y [⟨g.target,g.iter,g.ifs,0⟩] sc pos
 ok:q=false->zy p.G.P W c A C t T8 cond Uv g.target g.iter y g.ifs sc
theorem EN{t Uv:MX}(s1:F1 p d C T8 (nq p.toLg T8))(s2:F1 p d C cond (nq p.toLg cond))(s3:F1 p d C Uv (nq p.toLg Uv)){c:Cx}{q:Bool}(a:wC p d C W c q A){P:aa->Prop}{x:aa}(h:(nq p.toLg (.comp t T8 cond Uv)).E c.ck x=true)(k:∀y t' it ifs sc pos,(q=false->zy p.G.P W c A C t T8 cond Uv t' it y ifs sc)->P (.ListComp y [⟨t',it,ifs,0⟩] sc pos)):P x:=
 Cj h λy gs sc pos h=>pj (P:=λgs=>P (.ListComp y gs sc pos)) h λ⟨t',it,ifs,as⟩ h=>RN h λh1 h2 h3 h4 h=>He h λh5 h6 h7 h=>rB h λh8 h9=>
  tx (P:=λas=>P (.ListComp y [⟨t',it,ifs,as⟩] sc pos)) h1 (k y t' it ifs sc pos λhq=>by
   subst hq;have hk:sc.kind=.function:=of_decide_eq_true h3
   exact⟨h2,hk,⟨_,_,h4,Lf h5,h6,λws L hw=>GU s2 (a.comp hw hk) (EM a.kind) h8,λws L hw=>s3.E (a.comp hw hk) (by rw[EM a.kind];exact h9)⟩,s1.I a rfl h7⟩)
theorem snd:∀e:MX,F1 p d C e (nq p.toLg e):=by
 intro e
 induction e with
 |nil=>exact⟨λZ Z=>mP,λZ Z=>mP,λZ Z h=>tH h .nil,λZ Z h=>tH h .nil,λZ Z Z Z=>mP,λZ=>rfl⟩
 |cons e es T7 T4=>
  exact⟨λZ Z=>mP,λZ Z=>mP,λa Z h=>o6 h λx xs h=>rB h λh1 h2=>.cons (T7.E a h1) (T4.L a h2),λa Z h=>o6 h λx xs h=>rB h λh1 h2=>.cons (T7.T a h1) (T4.LT a h2),λZ Z Z Z=>mP,mP⟩
 |lit v=>exact .ofV (λZ Z Z=>rfl) (λZ Z Z=>rfl) λa Z h=>IA (a.now.sS▸h)
 |glob g=>exact .ofE (λZ Z Z=>rfl) λa y h=>oJ h λn p h=>rB h λh1 h2=>NM a.now.gl (eq_of_beq h1) h2
 |var i=>exact .ofV (λZ Z Z=>rfl) (λZ Z Z=>rfl) λa y h=>oJ h λn p h=>Qu h
 |tup es ih=>exact .ofE (λZ Z Z=>rfl) λa y h=>rG h λxs k p h=>rB h λh1 h2=>Qt h1 (ih.L a h2)
 |lst m es ih=>exact .ofE (λZ Z Z=>rfl) λa y h=>Co h λxs p h=>rB h λh1 h2=>Qm h1 (ih.L a h2)
 |dict ks es ih=>
  exact .ofE (λZ Z Z=>rfl) λa y h=>I6 h λkeys xs p h=>He h λh1 h2 h3 h4=>NJ a.now.ok (ih.L a h4) (of_decide_eq_true h1) (of_decide_eq_true h2) (a.now.sS▸Gp h3)
 |attr e n ih=>
  exact .ofV (λZ Z Z=>rfl) (λZ Z Z=>rfl) λa y h=>tK h λy nm p h=>He h λh1 h2 h3 h4=>NG a.now.ok a.now.hK a.now.cf h1 (a.now.sS▸eq_of_beq h2) (cV.mp h3) (ih.E a h4)
 |idx e i T7 T4=>
  exact .ofV (λZ Z Z=>rfl) (λZ Z Z=>rfl) λa y h=>At h λy z p h=>wi h λh1 h2 h3=>Qj a.now.ok h1 (T7.E a h2) (T4.E a h3)
 |upto e i T7 T4=>
  exact .ofE (λZ Z Z=>rfl) λa y h=>At h λy z p h=>GG (P:=λz=>nc _ _ _ _ _ _ _ (.Subscript y z p)) h λlo up st p' h=>wi h λh1 h2 h3=>Ag (P:=λlo=>nc _ _ _ _ _ _ _ (.Subscript y (.Slice lo up st p') p)) h1
   (Ag (P:=λst=>nc _ _ _ _ _ _ _ (.Subscript y (.Slice none up st p') p)) h2 (Bd (P:=λup=>nc _ _ _ _ _ _ _ (.Subscript y (.Slice none up none p') p)) h3 λw h=>rB h λh1 h2=>NQ _ _ (T7.E a h1) (T4.E a h2)))
 |bin op e i T7 T4=>
  exact .ofE (λZ Z Z=>rfl) λa y h=>Ls h λy o z p h=>wi h λh1 h2 h3=>tx (P:=λo=>nc _ _ _ _ _ _ _ (.BinOp y o z p)) h1 (Qh a.now.ok (T7.E a h2) (T4.E a h3))
 |cmp op e i T7 T4=>
  exact .ofET (λZ Z Z=>rfl) (λa y h=>Fu h λy os zs p h=>rB h λh1 h=>pj (P:=λzs=>nc _ _ _ _ _ _ _ (.Compare y os zs p)) h λz h=>wi h λh2 h3 h4=>tx (P:=λos=>nc _ _ _ _ _ _ _ (.Compare y os [z] p)) h1 (Qi a.now.ok a.ar h2 (T7.E a h3) (T4.E a h4)))
   λa y h=>Fu h λy os zs p h=>rB h λh1 h=>pj (P:=λzs=>pM _ _ _ _ _ _ _ (.Compare y os zs p)) h λz h=>wi h λh2 h3 h4=>tx (P:=λos=>pM _ _ _ _ _ _ _ (.Compare y os [z] p)) h1 (Rw a.now.ok a.ar h2 (T7.E a h3) (T4.E a h4))
 |not e ih=>
  exact .ofET (λZ Z Z=>rfl) (λa y h=>DW h λo y p h=>rB h λh1 h2=>tx (P:=λo=>nc _ _ _ _ _ _ _ (.UnaryOp o y p)) h1 (Qq (ih.E a h2)))
   λa y h=>DW h λo y p h=>rB h λh1 h2=>tx (P:=λo=>pM _ _ _ _ _ _ _ (.UnaryOp o y p)) h1 (Ry (ih.T a h2))
 |and es ih=>
  exact .ofET (λZ Z Z=>rfl) (λa y h=>vh h λo xs p h=>rB h λh1 h2=>tx (P:=λo=>nc _ _ _ _ _ _ _ (.BoolOp o xs p)) h1 (Qg (ih.L a h2)))
   λa y h=>vh h λo xs p h=>rB h λh1 h2=>tx (P:=λo=>pM _ _ _ _ _ _ _ (.BoolOp o xs p)) h1 (Ru (ih.LT a h2))
 |or es ih=>
  exact .ofET (λZ Z Z=>rfl) (λa y h=>vh h λo xs p h=>rB h λh1 h2=>tx (P:=λo=>nc _ _ _ _ _ _ _ (.BoolOp o xs p)) h1 (Sn (ih.L a h2)))
   λa y h=>vh h λo xs p h=>rB h λh1 h2=>tx (P:=λo=>pM _ _ _ _ _ _ _ (.BoolOp o xs p)) h1 (SS (ih.LT a h2))
 |ite t e i VT T7 T4=>
  exact .ofET (λZ Z Z=>rfl) (λa y h=>Jb h λy z w p h=>wi h λh1 h2 h3=>Ql (VT.T a h1) (T7.E a h2) (T4.E a h3))
   λa y h=>Jb h λy z w p h=>wi h λh1 h2 h3=>Rx (VT.T a h1) (T7.T a h2) (T4.T a h3)
 |call f es ih=>
  exact .ofV (λZ Z Z=>rfl) (λZ Z Z=>rfl) λa y h=>pG h λn p xs pos h=>He h λh1 h2 h3 h4=>NI a.now.gl a.now.ck a.ar (eq_of_beq h1) h2 (a.now.fnAt _ _ (eq_of_beq h1)) h3 (ih.L a h4)
 |meth e m es T7 T4=>
  refine .ofV (λZ Z Z=>rfl) (λZ Z Z=>rfl) λa y h=>y7 h λy nm ap xs pos l pb ns len h=>wi h λh1 h2 h3=>?_;have hS:=a.now.sS▸eq_of_beq h1;exact NN (C:=C) (fnA:=p.G.fnA) a.now.ok a.now.hK a.now.cf a.now.ck a.ar hS (λcl f hm=>a.now.meth m _ cl f hS hm) pb ns len l (T7.E a h2) (T4.L a h3)
 |bi bb e ih=>
  refine .ofV (λZ Z Z=>rfl) (λZ Z Z=>rfl) λa y h=>pG h λn p xs pos h=>wi h λh1 h2 h=>?_;rw[eq_of_beq h1] at h2 ⊢;apply pj h;exact λy h=>rB h λh3 h4=>Sk a.now.gl a.now.ok a.ar (EH bb).2 (EH bb).1 h2 h3 (ih.E a h4)
 |bm m e es T7 T4=>
  refine .ofE (λZ Z Z=>rfl) λa y h=>y7 h λy nm ap xs pos l pb ns len h=>wi h λh1 h2 h3=>?_;rw[eq_of_beq h1];exact Sl a.now.ok pb ns len l (T7.E a h2) (T4.L a h3)
 |new cl=>
  refine .ofE (λZ Z Z=>rfl) λa y h=>pG h λn p' xs pos h=>He h λh1 h2 h3 h4=>?_;refine m4 (aV.mp h4) λf hf=>?_;have m:=a.now.init cl f hf;rw[ny h1];exact Qp (C:=C) (fnA:=p.G.fnA) a.now.gl a.now.hK a.now.ck a.ar (eq_of_beq h2) h3 hf m.1 m.2.1 m.2.2
 |sset e i T7 T4=>
  refine .ofE (λZ Z Z=>rfl) λa y h=>pG h λn p xs pos h=>wi h λh1 h2 h=>?_;rw[eq_of_beq h1] at h2 ⊢;apply pj h;intro z h;apply pG h;refine λm p2 ys ZC h=>wi h λh1 h3 h=>?_;rw[eq_of_beq h1] at h3 ⊢;apply pj h;intro u h;apply Co h;intro zs p3 h;apply wV h;exact λy z h=>He h λh4 h5 h6 h7=>a.now.sset a.ar h2 h3 h4 h5 (T7.E a h6) (T4.E a h7)
 |fstr n es ih=>
  exact .ofE (λZ Z Z=>rfl) λa y h=>DT h λparts p h=>wi h λh1 h2 h=>D4 h λvals n' pa h=>wi h λh3 h4 h5=>NK a.now.ok (of_decide_eq_true h3▸pa) (of_decide_eq_true h1) (of_decide_eq_true h2) (of_decide_eq_true h4) (ih.L a h5)
 |inEach T8 j ih=>
  refine .ofE (λZ Z Z=>rfl) λa y h=>Cj h λy gs sc pos h=>?_;apply pj h;refine λg h=>RN h λh1 h2 h3 h4 h=>rB h λh5 h6=>?_;rw[HK (of_decide_eq_true h1),ny h2];exact HT a.now.ok a.ar h3 (of_decide_eq_true h4) h5 (ih.E a h6)
 |comp t T8 cond Uv VT T7 T4 Xo=>
  exact .ofE (λZ Z Z=>rfl) λa y h=>EN T7 T4 Xo a h λy t' it ifs sc pos k=>HS a.ar k
 |rng es ih=>
  refine .ofI λa hq t y h=>pG h λn p xs pos h=>He h λh1 h2 h3 h4=>?_;rw[eq_of_beq h1] at h2 ⊢;exact QI (a.ar.handled hq) a.now.gl h2 h3 (ih.L a h4)
 |enum e ih=>
  refine .ofI λa hq t y h=>?_;apply rG h;refine λts k tp h=>pG h λn p xs pos h=>wi h λh1 h2 h=>?_;rw[eq_of_beq h1] at h2 ⊢;apply pj h;exact λy h=>rB h λh3 h4=>N7 (a.ar.handled hq) a.now.gl h2 h3 (ih.E a h4)
 |zip e i T7 T4=>
  refine .ofI λa hq t y h=>?_;apply rG h;refine λts k tp h=>pG h λn p xs pos h=>wi h λh1 h2 h=>?_;rw[eq_of_beq h1] at h2 ⊢;apply wV h;exact λy z h=>He h λh3 h4 h5 h6=>QJ (a.ar.handled hq) a.now.gl h2 h3 h4 (T7.E a h5) (T4.E a h6)
end
noncomputable def EE:MX->Option (MX×Nat)
 |.attr e m=>some (e,m)
 |_=>none
theorem Dc{t:MX}{r:MX×Nat}:EE t=some r->t=.attr r.1 r.2:=by cases t<;>first | exact mV | exact λh=>congrArg (λr:MX×Nat=>MX.attr r.1 r.2) (ae h)
noncomputable def H9:MX->Option (MX×MX)
 |.idx e m=>some (e,m)
 |_=>none
theorem Gm{t:MX}{r:MX×MX}:H9 t=some r->t=.idx r.1 r.2:=by cases t<;>first | exact mV | exact λh=>congrArg (λr:MX×MX=>MX.idx r.1 r.2) (ae h)
noncomputable def EK:MX->Bool
 |.comp ..=>true
 |_=>false
theorem Di{t:MX}:EK t=true->∃a b c e,t=.comp a b c e:=by cases t<;>first | exact mP | exact λZ=>⟨_,_,_,_,rfl⟩
noncomputable def EX:MX->Bool
 |.lit v=>(pJ v).isSome
 |_=>false
theorem Dw{t:MX}:EX t=true->t=.lit .none:=by cases t<;>first | exact mP | exact λh=>congrArg MX.lit ((aV.mp h).elim λZ h=>rF h)
section
variable (p:Lg)
noncomputable def Nz(k:Ck)(t:MX)(x:aa):Bool:=
 ((EE t).any λr=>uz x λy nm Z=>p.S[r.2]?==some nm&&(p.attrs.contains nm&&(nq p r.1).E k y))||(H9 t).any λr=>Cp x λy z=>(nq p r.1).E k y&&(nq p r.2).E k z
noncomputable def P7(k:Ck)(t:MX)(x:aa):Bool:=((CT t).any λi=>qw x λn=>k.vars.lookup n==some i)||Nz p k t x
noncomputable def Bn(k:Ck):List MX->List aa->Bool
 |[],xs=>xs.isEmpty
 |t::ts,xs=>oW xs λx xs=>P7 p k t x&&Bn k ts xs
noncomputable def uC:MX->Option (List MX)
 |.nil=>some []
 |.cons t ts=>(uC ts).map (t::·)
 |_=>none
noncomputable def O2(k:Ck)(tt:MX)(ns:List aI):Bool:=(sY tt).any λis=>decide (is.map some=ns.map λn=>k.vars.lookup n)&&decide is.Nodup
noncomputable def Mt(k:Ck)(t e:MX)(z x:aa):Bool:=
 (nq p e).E k x&&(((CT t).any λi=>qw z λn=>k.vars.lookup n==some i&&(Ae x||EK e))||(((Eg t).any λtt=>r7 z λxs=>
  (IR x&&(uC tt).any λts=>Bn p k ts xs)||r7 x λvs=>(MQ k.kinds xs vs).any λo=>(o.isNone&&(uC tt).any λts=>Bn p k ts xs)||o.any λns=>O2 k tt ns)||Nz p k t z))
structure Ku where
 X:Ck->Stmt->Bool
 S:Ck->List Stmt->Bool
noncomputable def Ku.ofX(f:Ck->Stmt->Bool):Ku:=⟨f,λZ Z=>false⟩
noncomputable def y9(h:ExceptHandler)(f:Option aa->Option aI->List Stmt->Bool):Bool:=mC (motive_4:=λZ=>Bool) h λt n b Z=>f t n b
theorem Cn{h:ExceptHandler}{f:Option aa->Option aI->List Stmt->Bool}{P:ExceptHandler->Prop}(e:y9 h f=true)(k:∀t n b p,f t n b=true->P (.ExceptHandler t n b p)):P h:=by
 cases h with
 |ExceptHandler t n b p=>exact k t n b p e
noncomputable def uO:MS->Ku
 |.hole=>⟨λZ Z=>true,λZ Z=>true⟩
 |.skip=>⟨λZ st=>DU st λZ=>true,λZ l=>l.isEmpty⟩
 |.seq a b=>⟨λZ Z=>false,λk l=>oW l λst r=>(uO a).X k st&&(uO b).S k r⟩
 |.expr e=>.ofX λk st=>Am st λx=>Ae x&&(nq p e).E k x
 |.asg t e=>.ofX λk st=>vg st λzs x=>qT zs λz=>Mt p k t e z x
 |.ret e=>.ofX λk st=>xS st λo=>(o.any λx=>(nq p e).E k x)||(o.isNone&&EX e)
 |.iff c a b=>.ofX λk st=>Ja st λz l r=>(nq p c).T k z&&((uO a).S k l&&(uO b).S k r)
 |.whl c b=>.ofX λk st=>Av st λz l r=>r.isEmpty&&((nq p c).T k z&&(uO b).S k l)
 |.for t it b=>.ofX λk st=>I8 st λtarget iter l r=>r.isEmpty&&(wq iter&&(zE k.vars t target&&((nq p it).I k target iter&&(uO b).S k l)))
 |.raise a b=>.ofX λk st=>onRaise st λo c=>c.isNone&&o.any λx=>qM x λn xs=>n=="KindFault" && (nN k n&&xT xs λx z=>nj x&&(nj z&&((nq p a).E k x&&(nq p b).E k z)))
 |.tryf a b=>.ofX λk st=>Fv st λl hs o f=>hs.isEmpty&&(o.isEmpty&&((uO a).S k l&&(oW f λZ Z=>true)&&(uO b).S k f))
 |.tryx a b=>.ofX λk st=>Fv st λl hs o f=>o.isEmpty&&(f.isEmpty&&((uO a).S k l&&qT hs λh=>y9 h λt n g=>n.isNone&&((oW g λZ Z=>true)&&((uO b).S k g&&t.any λx=>qw x λm=>m=="KindFault" && nN k m))))
end
section
variable {p:A1}{d:Nat}{C:Bool->Call}{W:Wd}{c:Cx}{q:Bool}{A:aH}
theorem Kf.ok(x:Kf W K mg mb):PK W:=x.facts.cls.elim λcp y=>⟨cp,_,y.1,y.2.1⟩
structure Tl(p:A1)(d:Nat)(C:Bool->Call)(W:Wd)(c:Cx)(q:Bool)(A:aH)(t:MX)(z:aa):Prop where
 spec:wg p.G.P W c q A (C q) t z
 plain:zz z
 swaps:∀x l,dU x (some z) l c.env=pure false
 stores:∀x,dR [z] x c.env=pure none
theorem O1(a:wC p d C W c q A){t:MX}{z:aa}(h:Nz p.toLg c.ck t z=true):Tl p d C W c q A t z:=by
 refine (Bm h).elim (λh=>?_) λh=>?_
 .refine mO (pX h) λr e h=>?_;rw[Dc e];exact tK h λy nm pos h=>wi h λh1 h2 h3=>⟨Nb a.now.ok a.now.hK a.now.cf (a.now.sS▸eq_of_beq h1) (cV.mp h2) ((snd _).E a h3),λZ Z=>rfl,λZ l=>Ef l _,λZ=>rfl⟩
 .refine mO (pX h) λr e h=>?_;rw[Gm e];exact At h λy z pos h=>rB h λh1 h2=>⟨PU a.now.ok ((snd _).E a h1) ((snd _).E a h2),λZ Z=>rfl,λZ l=>GX l _,λZ=>rfl⟩
theorem Rp(a:wC p d C W c q A){t:MX}{z:aa}(h:P7 p.toLg c.ck t z=true):wg p.G.P W c q A (C q) t z/\zz z:=by
 refine (Bm h).elim (λh=>?_) λh=>⟨(O1 a h).spec,(O1 a h).plain⟩;refine mO (pX h) λi e h=>?_;rw[vB e];apply oJ h;exact λn pos h=>⟨PW (eq_of_beq h),λZ Z=>rfl⟩
theorem xX{tt:MX}{ts:List MX}:uC tt=some ts->(tt=.nil/\ts=[])\/∃e es r,tt=.cons e es/\ts=e::r/\uC es=some r:=by
 cases tt with
 |nil=>exact λh=>.inl ⟨rfl,(ae h).symm⟩
 |cons e es=>exact λh=>(ms h).elim λr h=>.inr ⟨e,es,r,rfl,h.2.symm,h.1⟩
 |_=>exact mV
theorem Rq(a:wC p d C W c q A){ts:List MX}:∀{tt:MX} {xs:List aa},uC tt=some ts->Bn p.toLg c.ck ts xs=true->si p.G.P W c q A (C q) tt xs:=by
 induction ts with
 |nil=>
  intro tt xs e h;refine (xX e).elim (λe=>?_) λ⟨_,_,_,_,e,_⟩=>nomatch e;rw[e.1];exact tH h .nil
 |cons t ts ih=>
  intro tt xs e h
  rcases xX e with ⟨_,e⟩ | ⟨e1,es,r,e2,e3,e4⟩
  .exact nomatch e
  .have e5:=dP e3;rw[e2,<-e5.1];exact o6 h λx xs' h=>rB h λh1 h2=>.cons (Rp a h1).2 (Rp a h1).1 (ih (e4.trans (congrArg some e5.2.symm)) h2)
theorem LS(a:wC p d C W c q A){t:MX}{z x:aa}(h:Mt p.toLg c.ck t e z x=true):pe p.G.P W c q A C (.asg t e) (.Assign [z] x pos):=by
 refine rB h λhe h=>?_;have hE:nc p.G.P W c q A (C q) e x:=(snd _).E a he;refine (Bm h).elim (λh=>?_) λh=>(Bm h).elim (λh=>?_) λh=>?_
 .refine mO (pX h) λi e1 h=>?_;rw[vB e1];apply oJ h;refine λn pn h=>rB h λh1 h2=>(Bm h2).elim (λhc=>zg (eq_of_beq h1) (ye hc ..) hE) λhc=>?_;refine Lr (Di hc) λt T8 cond Uv e3=>?_;rw[e3] at he ⊢;apply EN (snd _) (snd _) (snd _) a he;exact λy t' it ifs sc U9 k=>GP a.ar (eq_of_beq h1) k
 .refine mO (pX h) λtt e1 h=>?_;rw[zr e1];apply rG h;intro xs k pz h;have plain:∀{ts},uC tt=some ts->Bn p.toLg c.ck ts xs=true->dR [.Tuple xs k pz] x c.env=pure none->pe p.G.P W c q A C (.asg (.tup tt) e) (.Assign [.Tuple xs k pz] x pos):=λe3 h3 hw=>
   MN (zn _ _) (λZ Z=>rfl) hw (PV a.ar.handled (Rq a e3 h3)) hE
  refine (Bm h).elim (λh=>rB h λh1 h=>(pX h).elim λts h3=>plain h3.1 h3.2 (Ee h1)) λh=>?_;have hs:swapsWithSole [.Tuple xs k pz] x pos.line c.env=pure false:=zn (k:=k) (p:=pz) (ts:=xs) pos.line c.env
  revert hE plain hs
  apply rG h;intro vs k' px h hE plain hs;refine mO (pX h) λo e5 h=>?_;refine (Bm h).elim (λh=>rB h λh1 h=>(pX h).elim λts h3=>plain h3.1 h3.2 (CM a.kind (rE h1▸e5))) λh=>?_;refine mO (pX h) λns e6 h=>?_;refine mO (pX h) λis e7 h=>?_;rw[e6] at e5;exact rB h λh1 h2=>OU a.ar.handled e7 (of_decide_eq_true h1) (of_decide_eq_true h2) hs (CM a.kind e5) hE
 .have T:=O1 a h;exact MN (T.swaps _ _) T.plain (T.stores _) T.spec hE
structure M9(p:A1)(d:Nat)(C:Bool->Call)(b:MS)(x:Ku):Prop where
 X:∀{W:Wd} {c:Cx} {q:Bool} {A:aH},wC p d C W c q A->∀{st:Stmt},x.X c.ck st=true->pe p.G.P W c q A C b st
 S:∀{W:Wd} {c:Cx} {q:Bool} {A:aH},wC p d C W c q A->∀{l:List Stmt},x.S c.ck l=true->rJ p.G.P W c q A C b l
theorem M9.ofX{b:MS}{f:Ck->Stmt->Bool}(h:∀{W:Wd} {c:Cx} {q:Bool} {A:aH},wC p d C W c q A->∀{st:Stmt},f c.ck st=true->pe p.G.P W c q A C b st):M9 p d C b (.ofX f):=⟨h,λZ Z=>mP⟩
theorem wC.hides(a:wC p d C W c q A)(hw:∀a∈ws,W.base.get? a=none):wC p d C (W.hides ws) c q A:=⟨a.env.hides hw,a.ar,a.kind⟩
theorem wC.mark(a:wC p d C W c q A)(e:af):wC p d C W c true (A.mark (some e)):=⟨a.env,a.ar.mark e,a.kind⟩
theorem SR:∀b:MS,M9 p d C b (uO p.toLg b):=by
 intro b
 induction b with
 |hole=>exact⟨λa st h ρ φ σ s Q E H h=>h.elim,λa l h ρ φ σ s Q E H h=>h.elim⟩
 |skip=>exact⟨λa st h=>Jc h λpos Z=>OS,λa l h=>tH h OT⟩
 |seq x y T7 T4=>exact⟨λZ Z=>mP,λa l h=>o6 h λst r h=>rB h λh1 h2=>Rk (T7.X a h1) (T4.S a h2)⟩
 |expr e=>exact .ofX λa st h=>Cm h λx pos h=>rB h λh1 h2=>OQ h1 ((snd _).E a h2)
 |asg t e=>exact .ofX λa st h=>xP h λzs x pos h=>pj (P:=λzs=>pe _ _ _ _ _ _ _ (.Assign zs x pos)) h λz h=>LS a h
 |ret e=>
  refine .ofX λa st h=>DV h λo pos h=>(Bm h).elim (λh=>Bd (P:=λo=>pe _ _ _ _ _ _ _ (.Return o pos)) h λx h=>Rj ((snd _).E a h)) λh=>rB h λh1 h2=>Ag (P:=λo=>pe _ _ _ _ _ _ _ (.Return o pos)) h1 ?_;rw[Dw h2];exact GQ
 |iff c x y T7 T4=>exact .ofX λa st h=>Lx h λz l r pos h=>wi h λh1 h2 h3=>SN ((snd _).T a h1) (T7.S a h2) (T4.S a h3)
 |whl c y ih=>exact .ofX λa st h=>GI h λz l r pos h=>wi h λh1 h2 h3=>tH (P:=λr=>pe _ _ _ _ _ _ _ (.While z l r pos)) h1 (LI a.ar (λZ=>(snd _).T a h2) λZ=>ih.S a h3)
 | «for» t it y ih=>
  exact .ofX λa st h=>Lv h λtarget iter l r pos h=>RN h λh1 h2 h3 h4 h5=>tH (P:=λr=>pe _ _ _ _ _ _ _ (.For target iter l r pos)) h1 (Ri a.ar h2 h3 (λhq=>(snd _).I a hq h4) λws hw=>ih.S (a.hides hw) h5)
 |raise x y=>
  refine .ofX λa st h=>GE h λo c pos h=>rB h λh1 h=>?_;rw[rE h1];apply Bd h;intro x h;apply pG h;refine λn pn xs XR h=>wi h λh2 h3 h=>?_;rw[eq_of_beq h2] at h3 ⊢;apply wV h;exact λu v h=>He h λh4 h5 h6 h7=>LH a.now.gl a.now.kf a.ar h3 h4 h5 ((snd _).E a h6) ((snd _).E a h7)
 |tryf x y T7 T4=>
  refine .ofX λa st h=>Fw h λl hs o f pos h=>wi h λh1 h2 h=>rB h λh h5=>rB h λh3 h4=>?_;rw[ny h1,ny h2]
  revert h5
  apply o6 h4;exact λf0 fs Z h5=>OV a.ar (λZ=>T7.S a h3) (λZ=>T4.S a h5) λe=>T4.S (a.mark e) h5
 |tryx x y T7 T4=>
  refine .ofX λa st h=>Fw h λl hs o f pos h=>He h λh1 h2 h3 h=>?_;rw[ny h1,ny h2];apply pj h;intro hd h;apply Cn h;refine λt n g ph h=>He h λh4 h5 h6 h=>?_;rw[rE h4]
  revert h6
  apply o6 h5;intro g0 gs _ h6;apply Bd h;intro u h;apply oJ h;refine λm pm h=>rB h λh7 h8=>?_;rw[eq_of_beq h7] at h8 ⊢;exact OW a.now.gl a.now.kf.ok a.ar h8 (λZ=>T7.S a h3) λe=>T4.S (a.mark e) h6
end
def Hp(p:A1)(W:Wd):Prop:=∀f F,p.G.P.fn f=some F->∃kinds vars stmts,Kv W (p.G.fnA f) F kinds vars stmts/\(uO p.toLg F.body).S ⟨kinds,vars⟩ stmts=true
def Mo(p:A1)(W:Wd):Prop:=∀ws:List ai,(∀a∈ws,W.base.get? a=none)->PF p (W.hides ws)
theorem s5.opt{s:ag}{o:Option α}{f:α->R Unit V}(h:s5 W φ s (R.opt o f) R'):∃a,o=some a/\s5 W φ s (f a) R':=by
 cases o with
 |none=>exact h.elim
 |some a=>exact⟨a,rfl,h⟩
theorem KQ{p:A1}(h:Mo p W)(hp:Hp p W):∀d:Nat,C5 p W d (oP p.G.P d):=by
 intro d
 induction d with
 |zero=>exact λws hw=>⟨h ws hw,λZ Z Z Z hr=>hr.elim⟩
 |succ d ih=>
  refine λws hw=>⟨h ws hw,λpre frs inv r hr=>?_⟩;refine mO (s5.opt hr) λF hf hr=>?_;refine oI (hp _ F hf) λkinds vars stmts Zk hc=>?_;have YO:Kv (W.hides ws) (p.G.fnA _) F kinds vars stmts:=⟨Zk.ex.elim λd I=>⟨d,I.hf,I.hd,I.body,I.names,I.kind,I.co,I.gen,I.clo,I.gl,I.bu,I.cr,I.bind,I.chk⟩,Zk.nolimit⟩;exact Pa (W:=W.hides ws) (P:=p.G.P) (C:=oP p.G.P d) (d:=d) YO pre frs inv r (λ{c A} YG hk ar=>(SR F.body).S ⟨ih.hides hw,ar,hk⟩ (by rw[YG];exact hc)) hr
noncomputable def O3:List String:=["", "!=", "*", "+", "++", ", ", "-", "->", "..", "/\\", "<", "<-", "<->", "<=", "=", "==", ">", ">=", "\\/", "^", "a", "abs", "all_different", "alldifferent", "an array is no element", "append", "array", "array1d", "array2", "array2d", "array_intersect", "array_union", "asked", "asked_within", "asks", "assert", "assign", "assigned", "at_least", "at_most", "b", "bin", "bool", "bool2int", "call", "called", "calls", "card", "cells", "chain", "check", "check_item", "check_predicate", "chosen", "circuit", "comp", "compared", "concat", "constraint", "count", "cumulative", "d", "d0", "d1", "d2", "d3", "d4", "d5", "decl", "declared", "decreasing", "diff", "disjunctive", "div", "domain", "element", "else", "exactly", "exists", "extend", "extreme", "fix", "forall", "gathered", "gen", "generated", "get", "global_cardinality", "global_cardinality_low_up", "goes_through", "i", "if", "if without else", "iffall", "in", "increasing", "index", "index range", "index_set", "index_set_1of2", "index_set_2of2", "indexed", "insert", "int", "int_any", "intersect", "inverse", "is_shown", "j", "join", "joined", "kind", "kind_of", "known_set", "length", "let", "lex_greater", "lex_greatereq", "lex_less", "lex_lesseq", "listing_call", "m", "max", "maximum", "min", "minimize", "minimum", "mod", "name", "names", "none", "note_assigned", "note_predicate", "nothing", "nvalue", "of_all", "open_call", "ordered", "output", "p", "p0", "p1", "p2", "par", "place", "plain_kind", "pop", "pow", "predicate", "predicates", "product", "push", "put", "put_names", "put_together", "r", "range", "regular", "reverse", "rows of unlike lengths", "s", "satisfy", "scopes", "set", "set2array", "show", "solve", "sort", "sorts", "source", "str", "subset", "sum", "superset", "symdiff", "t", "table", "there are two solve items", "ts", "turned", "type_kind", "un", "union", "update", "v", "value_precede", "var", "var ", "w", "want_each", "where", "within", "x", "xor", "xorall", "y", "yb"]
noncomputable abbrev MX.i(n:Int):MX:=.lit (.int n)
noncomputable abbrev MX.s(n:Nat):MX:=.lit (.sym n)
noncomputable abbrev MX.v(n:Nat):MX:=.var n
noncomputable abbrev MX.c1(a:MX):MX:=.cons a .nil
noncomputable abbrev MX.c2(a b:MX):MX:=.cons a (.cons b .nil)
noncomputable abbrev MX.c3(a b c:MX):MX:=.cons a (.cons b (.cons c .nil))
noncomputable abbrev MX.c4(a b c d:MX):MX:=.cons a (.cons b (.cons c (.cons d .nil)))
noncomputable abbrev MX.x(a:MX)(n:Int):MX:=.idx a (.lit (.int n))
noncomputable abbrev MX.u(k:Nat)(a:MX):MX:=.meth (.var 0) k a
noncomputable abbrev MS.r(a:MX):MS:=.seq (.ret a) .skip
noncomputable abbrev MS.f(a:MX)(b c:MS):MS:=.seq (.iff a b .skip) c
noncomputable abbrev MS.a(a b:MX)(c:MS):MS:=.seq (.asg a b) c
noncomputable abbrev MS.z(a b:MX):MS:=.seq (.raise a b) .skip
noncomputable abbrev MS.q(a b:MS):MS:=.seq a b
namespace L2
noncomputable abbrev QC:V:=.tup [.sym 103,.bool true,.int 0]
noncomputable abbrev NW:V:=.tup [.sym 42,.bool true,.int 0]
noncomputable abbrev NX:V:=.tup [.sym 103,.bool true,.int 1]
noncomputable abbrev K3:V:=.tup [.sym 42,.bool true,.int 1]
noncomputable abbrev K4:V:=.tup [.sym 103,.bool false,.int 0]
noncomputable abbrev H6:V:=.tup [.sym 103,.bool false,.int 1]
noncomputable abbrev NY:V:=.tup [.sym 103,.bool false,.int 2]
noncomputable abbrev QD:V:=.tup [.sym 163,.bool false,.int 0]
noncomputable abbrev N4:V:=.tup [.sym 170,.bool false,.int 0]
noncomputable abbrev K5:V:=.tup [.sym 170,.bool false,.int 1]
noncomputable abbrev NZ:V:=.tup [.sym 163,.bool false,.int 1]
noncomputable abbrev H7:V:=.tup [.sym 42,.bool false,.int 1]
noncomputable abbrev g_CALLS:V:=.dct [(21,.tup [.tup [.tup [.sym 103,.bool true,.int 0]],.sym 103]),(43,.tup [.tup [.tup [.sym 42,.bool true,.int 0]],.sym 103]),(147,.tup [.tup [.tup [.sym 103,.bool true,.int 0],.tup [.sym 103,.bool false,.int 0]],.sym 103]),(172,.tup [.tup [.tup [.sym 103,.bool true,.int 1]],.sym 103]),(150,.tup [.tup [.tup [.sym 103,.bool true,.int 1]],.sym 103]),(82,.tup [.tup [.tup [.sym 42,.bool true,.int 1]],.sym 42]),(78,.tup [.tup [.tup [.sym 42,.bool true,.int 1]],.sym 42]),(59,.tup [.tup [.tup [.sym 103,.bool true,.int 1],.tup [.sym 103,.bool true,.int 0]],.sym 103]),(47,.tup [.tup [.tup [.sym 163,.bool false,.int 0]],.sym 103]),(31,.tup [.tup [.tup [.sym 163,.bool false,.int 1]],.sym 163]),(30,.tup [.tup [.tup [.sym 163,.bool false,.int 1]],.sym 163]),(194,.tup [.tup [.tup [.sym 42,.bool false,.int 1]],.sym 42]),(93,.tup [.tup [.tup [.sym 42,.bool false,.int 1]],.sym 42]),(57,.tup [.tup [.tup [.sym 170,.bool false,.int 1]],.sym 170]),(109,.tup [.tup [.tup [.sym 170,.bool false,.int 0],.tup [.sym 170,.bool false,.int 1]],.sym 170]),(22,.tup [.tup [.tup [.sym 103,.bool true,.int 1]],.sym 42]),(23,.tup [.tup [.tup [.sym 103,.bool true,.int 1]],.sym 42]),(54,.tup [.tup [.tup [.sym 103,.bool true,.int 1]],.sym 42]),(95,.tup [.tup [.tup [.sym 103,.bool true,.int 1]],.sym 42]),(70,.tup [.tup [.tup [.sym 103,.bool true,.int 1]],.sym 42]),(106,.tup [.tup [.tup [.sym 103,.bool true,.int 1],.tup [.sym 103,.bool true,.int 1]],.sym 42]),(118,.tup [.tup [.tup [.sym 103,.bool true,.int 1],.tup [.sym 103,.bool true,.int 1]],.sym 42]),(119,.tup [.tup [.tup [.sym 103,.bool true,.int 1],.tup [.sym 103,.bool true,.int 1]],.sym 42]),(116,.tup [.tup [.tup [.sym 103,.bool true,.int 1],.tup [.sym 103,.bool true,.int 1]],.sym 42]),(117,.tup [.tup [.tup [.sym 103,.bool true,.int 1],.tup [.sym 103,.bool true,.int 1]],.sym 42]),(75,.tup [.tup [.tup [.sym 103,.bool true,.int 0],.tup [.sym 103,.bool true,.int 1],.tup [.sym 103,.bool true,.int 0]],.sym 42]),(176,.tup [.tup [.tup [.sym 103,.bool true,.int 1],.tup [.sym 103,.bool false,.int 2]],.sym 42]),(60,.tup [.tup [.tup [.sym 103,.bool true,.int 1],.tup [.sym 103,.bool false,.int 1],.tup [.sym 103,.bool false,.int 1],.tup [.sym 103,.bool false,.int 0]],.sym 42]),(72,.tup [.tup [.tup [.sym 103,.bool true,.int 1],.tup [.sym 103,.bool false,.int 1]],.sym 42]),(157,.tup [.tup [.tup [.sym 103,.bool true,.int 1],.tup [.sym 103,.bool false,.int 0],.tup [.sym 103,.bool false,.int 0],.tup [.sym 103,.bool false,.int 2],.tup [.sym 103,.bool false,.int 0],.tup [.sym 163,.bool false,.int 0]],.sym 42]),(185,.tup [.tup [.tup [.sym 103,.bool false,.int 0],.tup [.sym 103,.bool false,.int 0],.tup [.sym 103,.bool true,.int 1]],.sym 42]),(87,.tup [.tup [.tup [.sym 103,.bool true,.int 1],.tup [.sym 103,.bool false,.int 1],.tup [.sym 103,.bool true,.int 1]],.sym 42]),(88,.tup [.tup [.tup [.sym 103,.bool true,.int 1],.tup [.sym 103,.bool false,.int 1],.tup [.sym 103,.bool false,.int 1],.tup [.sym 103,.bool false,.int 1]],.sym 42]),(134,.tup [.tup [.tup [.sym 103,.bool true,.int 0],.tup [.sym 103,.bool true,.int 1]],.sym 42]),(38,.tup [.tup [.tup [.sym 103,.bool false,.int 0],.tup [.sym 103,.bool true,.int 1],.tup [.sym 103,.bool false,.int 0]],.sym 42]),(39,.tup [.tup [.tup [.sym 103,.bool false,.int 0],.tup [.sym 103,.bool true,.int 1],.tup [.sym 103,.bool false,.int 0]],.sym 42]),(77,.tup [.tup [.tup [.sym 103,.bool false,.int 0],.tup [.sym 103,.bool true,.int 1],.tup [.sym 103,.bool false,.int 0]],.sym 42]),(123,.tup [.tup [.tup [.sym 103,.bool true,.int 0],.tup [.sym 103,.bool true,.int 1]],.sym 42]),(126,.tup [.tup [.tup [.sym 103,.bool true,.int 0],.tup [.sym 103,.bool true,.int 1]],.sym 42])]
noncomputable abbrev zO:V:=.tup [.sym 124,.sym 122,.sym 165,.sym 81,.sym 114,.sym 98,.sym 99,.sym 100,.sym 27,.sym 29,.sym 164,.sym 158,.sym 167,.sym 35]
noncomputable abbrev g__law_world:V:=.dct [(90,.tup [.sym 103,.bool false,.int 0]),(192,.tup [.sym 103,.bool true,.int 0]),(40,.tup [.sym 42,.bool false,.int 0]),(195,.tup [.sym 42,.bool true,.int 0]),(160,.tup [.sym 163,.bool false,.int 0]),(20,.tup [.sym 103,.bool false,.int 1]),(184,.tup [.sym 103,.bool true,.int 1]),(155,.tup [.sym 103,.bool false,.int 2]),(188,.tup [.sym 42,.bool true,.int 2]),(175,.tup [.sym 170,.bool false,.int 0]),(178,.tup [.sym 170,.bool false,.int 1])]
noncomputable def cnames:List String:=["INT", "BOOL", "INTS", "BOOLS", "KNOWN", "KNOWNS", "ROWS", "SET", "TEXT", "TEXTS", "SETS", "TRUTHS", "CALLS", "OPEN_CALLS", "_law_world"]
noncomputable def consts:List V:=[QC,NW,NX,K3,K4,H6,NY,QD,N4,K5,NZ,H7,g_CALLS,zO,g__law_world]
noncomputable def BY:MS:=.a (.tup (.c3 (.v 1) (.v 2) (.v 3))) (.v 0) (.a (.v 4) (.bin .add (.ite (.v 2) (.s 187) (.s 0)) (.ite (.cmp .eq (.v 1) (.s 130)) (.s 133) (.v 1))) (.r (.ite (.cmp .eq (.v 3) (.i 0)) (.v 4) (.fstr 24 (.c2 (.v 3) (.v 4))))))
noncomputable def Os:MS:=.f (.or (.c2 (.cmp .ne (.x (.v 0) 2) (.x (.v 1) 2)) (.and (.c2 (.x (.v 0) 1) (.not (.x (.v 1) 1)))))) (.r (.lit (.bool false))) (.r (.or (.c2 (.cmp .isin (.x (.v 0) 0) (.tup (.c2 (.x (.v 1) 0) (.s 130)))) (.and (.c2 (.cmp .eq (.x (.v 1) 0) (.s 103)) (.cmp .eq (.x (.v 0) 0) (.s 42)))))))
noncomputable def Ox:MS:=.f (.not (.call 1 (.c2 (.v 0) (.v 1)))) (.z (.fstr 18 (.c3 (.v 3) (.call 0 (.c1 (.v 1))) (.call 0 (.c1 (.v 0))))) (.v 2)) .skip
noncomputable def ID:MS:=.a (.v 4) (.tup (.c2 (.x (.v 0) 0) (.x (.v 1) 0))) (.f (.or (.c2 (.cmp .ne (.x (.v 0) 2) (.x (.v 1) 2)) (.and (.c3 (.cmp .ne (.x (.v 0) 0) (.x (.v 1) 0)) (.cmp .notin (.s 130) (.v 4)) (.cmp .ne (.bi (.sorted false) (.v 4)) (.lst false (.c2 (.s 42) (.s 103)))))))) (.z (.fstr 10 (.c3 (.v 3) (.call 0 (.c1 (.v 0))) (.call 0 (.c1 (.v 1))))) (.v 2)) (.a (.v 5) (.ite (.or (.c2 (.cmp .eq (.x (.v 0) 0) (.x (.v 1) 0)) (.cmp .eq (.x (.v 1) 0) (.s 130)))) (.x (.v 0) 0) (.ite (.cmp .eq (.x (.v 0) 0) (.s 130)) (.x (.v 1) 0) (.s 103))) (.r (.tup (.c3 (.v 5) (.or (.c2 (.x (.v 0) 1) (.x (.v 1) 1))) (.x (.v 0) 2))))))
noncomputable def vV:MS:=.a (.attr (.v 0) 162) (.lst true (.c1 (.dict [] .nil))) (.a (.attr (.v 0) 32) (.dict [] .nil) .skip)
noncomputable def z7:MS:=.q (.expr (.bm .append (.attr (.v 0) 162) (.c1 (.dict [] .nil)))) .skip
noncomputable def BQ:MS:=.q (.expr (.bm .pop0 (.attr (.v 0) 162) .nil)) .skip
noncomputable def BR:MS:=.f (.cmp .isin (.v 1) (.idx (.attr (.v 0) 162) (.i (-1)))) .hole (.a (.idx (.idx (.attr (.v 0) 162) (.i (-1))) (.v 1)) (.v 2) .skip)
noncomputable def wI:MS:=.q (.for (.v 3) (.rng (.c3 (.bin .sub (.bi .len (.attr (.v 0) 162)) (.i 1)) (.i (-1)) (.i (-1)))) (.f (.cmp .isin (.v 1) (.idx (.attr (.v 0) 162) (.v 3))) (.f (.cmp .eq (.v 3) (.i 0)) (.a (.idx (.attr (.v 0) 32) (.v 1)) (.lit (.bool true)) .skip) (.r (.idx (.idx (.attr (.v 0) 162) (.v 3)) (.v 1)))) .skip)) (.z (.fstr 16 (.c1 (.v 1))) (.v 2))
noncomputable def vR:MS:=.a (.attr (.v 0) 129) (.new 0) (.a (.attr (.v 0) 149) (.dict [] .nil) (.a (.attr (.v 0) 34) (.dict [] .nil) (.a (.attr (.v 0) 37) (.dict [] .nil) (.a (.attr (.v 0) 107) (.lit (.bool false)) (.a (.attr (.v 0) 45) (.dict [] .nil) .skip)))))
noncomputable def wG:MS:=.f (.cmp .is (.v 2) (.lit .none)) (.r (.u 111 (.c1 (.v 1)))) (.q (.expr (.meth (.attr (.v 0) 129) 151 .nil)) (.q (.tryf (.q (.for (.v 3) (.bi (.sorted false) (.v 2)) (.q (.expr (.meth (.attr (.v 0) 129) 152 (.c3 (.v 3) (.idx (.v 2) (.v 3)) (.x (.v 1) 1)))) .skip)) (.r (.u 111 (.c1 (.v 1))))) (.q (.expr (.meth (.attr (.v 0) 129) 146 .nil)) .skip)) .skip))
noncomputable def z6:MS:=.a (.tup (.c2 (.v 2) (.v 3))) (.tup (.c2 (.x (.v 1) 0) (.x (.v 1) 1))) (.f (.cmp .isin (.v 2) (.tup (.c3 (.s 103) (.s 42) (.s 170)))) (.r (.tup (.c3 (.v 2) (.lit (.bool false)) (.i 0)))) (.f (.cmp .eq (.v 2) (.s 128)) (.r (.meth (.attr (.v 0) 129) 112 (.c2 (.x (.v 1) 2) (.v 3)))) (.f (.cmp .eq (.v 2) (.s 41)) (.r (.u 49 (.c1 (.v 1)))) (.f (.cmp .eq (.v 2) (.s 181)) .hole (.f (.cmp .eq (.v 2) (.s 96)) .hole (.f (.cmp .eq (.v 2) (.s 44)) (.r (.u 44 (.c3 (.x (.v 1) 2) (.comp (.v 4) (.x (.v 1) 3) .nil (.u 111 (.c1 (.v 4)))) (.v 3)))) (.f (.cmp .isin (.v 2) (.tup (.c4 (.s 26) (.s 28) (.s 163) (.s 156)))) (.r (.u 83 (.c2 (.v 2) (.v 1)))) (.f (.cmp .isin (.v 2) (.tup (.c2 (.s 84) (.s 55)))) (.r (.u 85 (.c2 (.v 2) (.v 1)))) (.f (.cmp .eq (.v 2) (.s 91)) (.r (.u 53 (.c1 (.v 1)))) .hole)))))))))
noncomputable def u5:MS:=.q (.expr (.call 2 (.c4 (.u 111 (.c1 (.v 1))) (.glob 7) (.x (.v 1) 1) (.v 2)))) .skip
noncomputable def yw:MS:=.a (.v 2) (.lst true .nil) (.q (.whl (.cmp .eq (.x (.v 1) 0) (.s 41)) (.q (.expr (.bm .append (.v 2) (.c1 (.v 1)))) (.a (.v 1) (.x (.v 1) 3) .skip))) (.a (.v 3) (.u 111 (.c1 (.v 1))) (.q (.whl (.cmp .gt (.bi .len (.v 2)) (.i 0)) (.a (.v 1) (.bm .pop0 (.v 2) .nil) (.a (.v 3) (.u 110 (.c4 (.x (.v 1) 2) (.v 3) (.u 111 (.c1 (.x (.v 1) 4))) (.x (.v 1) 1))) .skip))) (.r (.v 3)))))
noncomputable def xx:MS:=.a (.v 5) (.or (.c2 (.x (.v 2) 1) (.x (.v 3) 1))) (.f (.cmp .isin (.v 1) (.tup (.cons (.s 3) (.c4 (.s 6) (.s 2) (.s 73) (.s 127))))) .hole (.f (.cmp .eq (.v 1) (.s 19)) .hole (.f (.cmp .isin (.v 1) (.tup (.cons (.s 9) (.cons (.s 18) (.c4 (.s 7) (.s 11) (.s 12) (.s 193)))))) .hole (.f (.cmp .isin (.v 1) (.tup (.cons (.s 182) (.cons (.s 71) (.c4 (.s 174) (.s 105) (.s 171) (.s 173)))))) .hole (.f (.cmp .eq (.v 1) (.s 94)) .hole (.f (.cmp .eq (.v 1) (.s 4)) (.r (.u 154 (.c3 (.v 2) (.v 3) (.v 4)))) (.r (.u 56 (.c4 (.v 1) (.v 2) (.v 3) (.v 4))))))))))
noncomputable def tE:MS:=.a (.v 4) (.call 3 (.c4 (.v 1) (.v 2) (.v 3) (.s 4))) (.f (.and (.c2 (.cmp .ne (.x (.v 4) 2) (.i 1)) (.cmp .ne (.v 4) (.glob 8)))) (.z (.fstr 36 (.c1 (.call 0 (.c1 (.v 4))))) (.v 3)) (.r (.v 4)))
noncomputable def vS:MS:=.f (.cmp .notin (.v 1) (.tup (.cons (.s 10) (.cons (.s 13) (.cons (.s 16) (.c4 (.s 17) (.s 14) (.s 15) (.s 1))))))) .hole (.a (.v 5) (.call 3 (.c4 (.v 2) (.v 3) (.v 4) (.v 1))) (.f (.cmp .ne (.x (.v 5) 2) (.i 0)) .hole (.r (.tup (.c3 (.s 42) (.x (.v 5) 1) (.i 0))))))
noncomputable def xy:MS:=.a (.v 3) (.tup (.c3 (.s 130) (.lit (.bool false)) (.i 0))) (.q (.for (.v 4) (.v 1) (.a (.v 5) (.u 111 (.c1 (.v 4))) (.f (.cmp .ne (.x (.v 5) 2) (.i 0)) (.z (.fstr 36 (.c1 (.v 2))) (.x (.v 4) 1)) (.a (.v 3) (.call 3 (.c4 (.v 3) (.v 5) (.x (.v 4) 1) (.v 2))) .skip)))) (.r (.v 3)))
noncomputable def vU:MS:=.f (.cmp .eq (.v 1) (.s 156)) (.q (.expr (.call 2 (.c4 (.u 111 (.c1 (.x (.v 2) 2))) (.glob 4) (.x (.v 2) 1) (.s 8)))) (.q (.expr (.call 2 (.c4 (.u 111 (.c1 (.x (.v 2) 3))) (.glob 4) (.x (.v 2) 1) (.s 8)))) (.r (.glob 7)))) (.f (.cmp .eq (.v 1) (.s 163)) .hole (.f (.cmp .eq (.v 1) (.s 26)) (.a (.v 3) (.u 135 (.c2 (.x (.v 2) 2) (.s 26))) (.r (.tup (.c3 (.x (.v 3) 0) (.x (.v 3) 1) (.i 1))))) (.a (.v 3) (.tup (.c3 (.s 130) (.lit (.bool false)) (.i 0))) (.q (.for (.v 4) (.x (.v 2) 2) (.f (.cmp .ne (.bi .len (.v 4)) (.bi .len (.x (.x (.v 2) 2) 0))) .hole (.a (.v 3) (.call 3 (.c4 (.v 3) (.u 135 (.c2 (.v 4) (.s 26))) (.x (.v 2) 1) (.s 26))) .skip))) (.r (.tup (.c3 (.x (.v 3) 0) (.x (.v 3) 1) (.i 2))))))))
noncomputable def u4:MS:=.a (.tup (.c2 (.v 3) (.v 4))) (.tup (.c2 (.x (.v 2) 1) (.x (.v 2) 2))) (.f (.and (.c2 (.cmp .eq (.v 1) (.s 84)) (.not (.u 89 (.c1 (.v 4)))))) .hole (.q (.expr (.meth (.attr (.v 0) 129) 151 .nil)) (.q (.tryf (.q (.for (.tup (.c2 (.v 5) (.v 6))) (.x (.v 2) 3) (.q (.expr (.u 153 (.c3 (.v 5) (.u 169 (.c1 (.v 6))) (.v 3)))) .skip)) (.f (.cmp .isnt (.x (.v 2) 4) (.lit .none)) .hole (.a (.v 7) (.u 111 (.c1 (.x (.v 2) 5))) .skip))) (.q (.expr (.meth (.attr (.v 0) 129) 146 .nil)) .skip)) (.f (.cmp .ne (.x (.v 7) 2) (.i 0)) (.z (.s 24) (.v 3)) (.f (.and (.c2 (.cmp .eq (.v 1) (.s 55)) (.cmp .eq (.v 4) (.s 163)))) .hole (.a (.v 8) (.tup (.c3 (.x (.v 7) 0) (.x (.v 7) 1) (.i 1))) (.r (.ite (.cmp .eq (.v 1) (.s 55)) (.v 8) (.u 44 (.c3 (.v 4) (.lst false (.c1 (.v 8))) (.v 3)))))))))))
noncomputable def xz:MS:=.a (.v 2) (.u 111 (.c1 (.v 1))) (.f (.cmp .eq (.v 2) (.glob 7)) (.r (.glob 4)) (.f (.cmp .ne (.x (.v 2) 2) (.i 1)) (.z (.fstr 41 (.c1 (.call 0 (.c1 (.v 2))))) (.x (.v 1) 1)) (.r (.tup (.c3 (.x (.v 2) 0) (.x (.v 2) 1) (.i 0))))))
noncomputable def u7:MS:=.q (.for (.tup (.c2 (.v 4) (.v 5))) (.enum (.v 1)) (.f (.cmp .isin (.v 5) (.upto (.v 1) (.v 4))) .hole (.a (.idx (.idx (.attr (.attr (.v 0) 129) 162) (.i (-1))) (.v 5)) (.v 2) .skip))) .skip
noncomputable def xw:MS:=.a (.tup (.c2 (.v 2) (.v 3))) (.tup (.c2 (.lit .none) (.lit (.bool false)))) (.q (.for (.tup (.c2 (.v 4) (.v 5))) (.x (.v 1) 2) (.a (.v 6) (.u 111 (.c1 (.v 4))) (.q (.expr (.call 2 (.c4 (.v 6) (.glob 1) (.x (.v 4) 1) (.s 91)))) (.a (.tup (.c2 (.v 3) (.v 7))) (.tup (.c2 (.or (.c2 (.v 3) (.x (.v 6) 1))) (.u 111 (.c1 (.v 5))))) (.a (.v 2) (.ite (.cmp .is (.v 2) (.lit .none)) (.v 7) (.call 3 (.c4 (.v 2) (.v 7) (.x (.v 5) 1) (.s 91)))) .skip))))) (.f (.cmp .eq (.x (.v 1) 3) (.tup (.c3 (.s 42) (.x (.v 1) 1) (.lit (.bool true))))) .hole (.a (.v 2) (.call 3 (.c4 (.v 2) (.u 111 (.c1 (.x (.v 1) 3))) (.x (.x (.v 1) 3) 1) (.s 76))) (.a (.v 8) (.and (.c2 (.attr (.v 0) 107) (.cmp .isin (.v 2) (.tup (.c2 (.glob 8) (.glob 9)))))) (.f (.and (.c3 (.v 3) (.not (.v 8)) (.or (.c2 (.cmp .gt (.x (.v 2) 2) (.i 0)) (.cmp .isin (.x (.v 2) 0) (.tup (.c2 (.s 170) (.s 163)))))))) (.z (.fstr 44 (.c1 (.call 0 (.c1 (.v 2))))) (.x (.v 1) 1)) (.r (.ite (.v 8) (.v 2) (.tup (.c3 (.x (.v 2) 0) (.or (.c2 (.x (.v 2) 1) (.v 3))) (.x (.v 2) 2))))))))))
noncomputable def z0:MS:=.a (.v 4) (.cmp .gt (.bi .len (.comp (.v 7) (.v 2) (.x (.v 7) 1) (.v 7))) (.i 0)) (.f (.cmp .isin (.v 1) (.attr (.v 0) 149)) .hole (.f (.cmp .isin (.v 1) (.glob 12)) (.a (.tup (.c2 (.v 5) (.v 6))) (.idx (.glob 12) (.v 1)) (.q (.expr (.u 189 (.c4 (.v 1) (.v 2) (.v 5) (.v 3)))) (.r (.tup (.c3 (.v 6) (.v 4) (.i 0)))))) (.f (.and (.c2 (.cmp .isin (.v 1) (.glob 13)) (.cmp .gt (.bi .len (.v 2)) (.i 0)))) (.r (.u 136 (.c3 (.v 1) (.v 2) (.v 3)))) .hole)))
noncomputable def u9:MS:=.f (.cmp .ne (.bi .len (.v 2)) (.bi .len (.v 3))) .hole (.q (.for (.tup (.c2 (.v 5) (.v 6))) (.zip (.v 2) (.v 3)) (.q (.expr (.call 2 (.c4 (.v 5) (.v 6) (.v 4) (.v 1)))) .skip)) .skip)
noncomputable def u6:MS:=.a (.tup (.c2 (.v 4) (.v 5))) (.tup (.c2 (.x (.v 2) 0) (.bi .len (.v 2)))) (.f (.cmp .isin (.v 1) (.tup (.c2 (.s 124) (.s 122)))) .hole (.f (.and (.c3 (.cmp .eq (.v 1) (.s 165)) (.cmp .eq (.v 5) (.i 1)) (.or (.c2 (.attr (.v 0) 107) (.not (.x (.v 4) 1)))))) (.r (.glob 8)) (.f (.and (.c3 (.cmp .eq (.v 1) (.s 81)) (.cmp .eq (.v 5) (.i 1)) (.or (.c2 (.attr (.v 0) 107) (.not (.x (.v 4) 1)))))) (.r (.v 4)) (.f (.and (.c3 (.cmp .eq (.v 1) (.s 114)) (.cmp .eq (.v 5) (.i 1)) (.cmp .eq (.x (.v 4) 2) (.i 1)))) .hole (.f (.and (.c3 (.cmp .eq (.v 1) (.s 98)) (.cmp .eq (.v 5) (.i 1)) (.cmp .eq (.x (.v 4) 2) (.i 1)))) .hole (.f (.and (.c3 (.cmp .isin (.v 1) (.tup (.c2 (.s 99) (.s 100)))) (.cmp .eq (.v 5) (.i 1)) (.cmp .eq (.x (.v 4) 2) (.i 2)))) .hole (.f (.and (.c3 (.cmp .eq (.v 1) (.s 27)) (.cmp .eq (.v 5) (.i 1)) (.cmp .gt (.x (.v 4) 2) (.i 0)))) (.r (.tup (.c3 (.x (.v 4) 0) (.x (.v 4) 1) (.i 1)))) (.a (.v 6) (.bm .get2 (.dict ([27,29]) (.c2 (.i 1) (.i 2))) (.c2 (.v 1) (.i 0))) (.f (.and (.c3 (.cmp .gt (.v 6) (.i 0)) (.cmp .eq (.v 5) (.bin .add (.v 6) (.i 1))) (.cmp .gt (.x (.idx (.v 2) (.i (-1))) 2) (.i 0)))) (.q (.expr (.u 189 (.c4 (.v 1) (.upto (.v 2) (.i (-1))) (.bin .mul (.tup (.c1 (.glob 7))) (.v 6)) (.v 3)))) (.r (.tup (.c3 (.x (.idx (.v 2) (.i (-1))) 0) (.x (.idx (.v 2) (.i (-1))) 1) (.v 6))))) (.r (.u 120 (.c3 (.v 1) (.v 2) (.v 3)))))))))))))
noncomputable def tD:MS:=.a (.tup (.c2 (.v 4) (.v 5))) (.tup (.c2 (.x (.v 2) 0) (.bi .len (.v 2)))) (.f (.or (.c2 (.and (.c2 (.cmp .eq (.v 1) (.s 164)) (.cmp .eq (.v 2) (.lst false (.c1 (.glob 7)))))) (.and (.c3 (.cmp .eq (.v 1) (.s 167)) (.cmp .eq (.v 5) (.i 1)) (.call 1 (.c2 (.v 4) (.glob 5))))))) .hole (.f (.and (.c4 (.cmp .eq (.v 1) (.s 158)) (.cmp .eq (.v 5) (.i 1)) (.cmp .eq (.x (.v 4) 2) (.i 1)) (.not (.x (.v 4) 1)))) .hole (.f (.and (.c3 (.cmp .eq (.v 1) (.s 35)) (.cmp .isin (.v 5) (.tup (.c2 (.i 2) (.i 3)))) (.not (.x (.idx (.v 2) (.i (-1))) 1)))) .hole (.z (.fstr 22 (.c1 (.v 1))) (.v 3)))))
noncomputable def u8:MS:=.a (.tup (.c4 (.v 3) (.v 4) (.v 5) (.v 6))) (.v 1) (.f (.and (.c2 (.v 4) (.cmp .isin (.v 3) (.tup (.c2 (.s 170) (.s 163)))))) .hole (.f (.cmp .isnt (.v 6) (.lit .none)) .hole (.q (.for (.v 7) (.v 5) (.f (.cmp .ne (.x (.v 7) 0) (.s 104)) (.q (.expr (.u 113 (.c2 (.v 7) (.s 97)))) .skip) .skip)) (.r (.tup (.c3 (.v 3) (.v 4) (.bi .len (.v 5))))))))
noncomputable def vT:MS:=.a (.v 3) (.u 180 (.c2 (.x (.v 1) 2) (.x (.v 1) 1))) (.q (.iff (.cmp .isnt (.x (.v 1) 4) (.lit .none)) .hole (.f (.cmp .gt (.bi .len (.comp (.v 4) (.x (.x (.v 1) 2) 2) (.cmp .eq (.x (.v 4) 0) (.s 104)) (.v 4))) (.i 0)) .hole .skip)) (.r (.v 3)))
noncomputable def yx:MS:=.q (.for (.v 2) (.v 1) (.q (.iff (.cmp .eq (.x (.v 2) 0) (.s 68)) (.q (.expr (.meth (.attr (.v 0) 129) 152 (.c3 (.x (.v 2) 3) (.u 145 (.c1 (.x (.v 2) 2))) (.x (.v 2) 1)))) .skip) (.q (.iff (.cmp .eq (.x (.v 2) 0) (.s 148)) .hole (.f (.cmp .eq (.x (.v 2) 0) (.s 36)) .hole .skip)) .skip)) .skip)) (.q (.for (.v 2) (.v 1) (.f (.and (.c3 (.cmp .eq (.x (.v 2) 0) (.s 68)) (.cmp .isnt (.x (.v 2) 4) (.lit .none)) (.cmp .isin (.x (.v 2) 3) (.attr (.v 0) 37)))) .hole .skip)) (.a (.v 3) (.u 137 (.c2 (.comp (.v 9) (.v 1) (.cmp .eq (.x (.v 9) 0) (.s 148)) (.v 9)) (.i 2))) (.a (.v 3) (.bin .add (.v 3) (.u 137 (.c2 (.comp (.v 8) (.v 1) (.cmp .eq (.x (.v 8) 0) (.s 68)) (.v 8)) (.i 3)))) (.a (.v 4) (.comp (.v 7) (.v 1) (.cmp .notin (.x (.v 7) 0) (.tup (.c2 (.s 148) (.s 68)))) (.v 7)) (.q (.for (.v 2) (.v 4) (.q (.expr (.u 51 (.c1 (.v 2)))) .skip)) (.a (.v 5) (.comp (.v 6) (.v 4) (.cmp .eq (.x (.v 6) 0) (.s 166)) (.v 6)) (.f (.cmp .gt (.bi .len (.v 5)) (.i 1)) .hole (.r (.bin .add (.v 3) (.v 4))))))))))
noncomputable def ut:MS:=.r (.tup (.c3 (.x (.v 1) 0) (.x (.v 1) 1) (.bi .len (.x (.v 1) 2))))
noncomputable def sR:MS:=.hole
noncomputable def td:MS:=.hole
noncomputable def wH:MS:=.a (.v 3) (.dict [] .nil) (.q (.for (.v 4) (.v 1) (.a (.tup (.c2 (.attr (.attr (.v 0) 129) 32) (.attr (.v 0) 45))) (.tup (.c2 (.dict [] .nil) (.dict [] .nil))) (.q (.expr (.u 51 (.c1 (.v 4)))) (.f (.and (.c2 (.cmp .eq (.v 2) (.i 3)) (.cmp .isin (.x (.v 4) 3) (.attr (.v 0) 37)))) .hole (.q (.iff (.cmp .eq (.v 2) (.i 2)) .hole (.a (.idx (.v 3) (.x (.v 4) 3)) (.u 33 .nil) .skip)) .skip))))) (.a (.tup (.c2 (.v 5) (.v 6))) (.tup (.c2 (.lst true .nil) (.bi (.list true) (.v 1)))) (.q (.whl (.cmp .gt (.bi .len (.v 6)) (.i 0)) (.a (.v 7) (.dict [] .nil) (.q (.for (.v 4) (.v 6) (.a (.idx (.v 7) (.idx (.v 4) (.v 2))) (.lit (.bool true)) .skip)) (.a (.v 8) (.i 0) (.q (.whl (.and (.c2 (.cmp .lt (.v 8) (.bi .len (.v 6))) (.bi .any (.inEach (.idx (.v 3) (.idx (.idx (.v 6) (.v 8)) (.v 2))) 7)))) .hole) (.f (.cmp .eq (.v 8) (.bi .len (.v 6))) .hole (.q (.expr (.bm .append (.v 5) (.c1 (.bm .pop1 (.v 6) (.c1 (.v 8)))))) .skip))))))) (.r (.v 5)))))
noncomputable def tC:MS:=.a (.tup (.c3 (.v 1) (.v 2) (.v 3))) (.tup (.c3 (.bi .dict (.attr (.attr (.v 0) 129) 32)) (.bi (.sorted true) (.attr (.v 0) 45)) (.dict [] .nil))) (.q (.whl (.cmp .gt (.bi .len (.v 2)) (.i 0)) .hole) (.r (.v 1)))
noncomputable def us:MS:=.a (.tup (.c2 (.v 2) (.v 3))) (.tup (.c2 (.x (.v 1) 0) (.x (.v 1) 1))) (.q (.iff (.cmp .eq (.v 2) (.s 68)) (.q (.expr (.u 69 (.c2 (.v 1) (.cmp .isin (.x (.v 1) 3) (.attr (.v 0) 37))))) .skip) (.q (.iff (.cmp .eq (.v 2) (.s 148)) .hole (.q (.iff (.cmp .eq (.v 2) (.s 58)) .hole (.q (.iff (.cmp .eq (.v 2) (.s 166)) (.f (.cmp .isnt (.x (.v 1) 3) (.lit .none)) .hole .skip) (.q (.iff (.cmp .eq (.v 2) (.s 138)) (.a (.attr (.v 0) 107) (.lit (.bool true)) (.q (.tryf (.q (.expr (.call 2 (.c4 (.u 111 (.c1 (.x (.v 1) 2))) (.glob 9) (.v 3) (.v 2)))) .skip) (.a (.attr (.v 0) 107) (.lit (.bool false)) .skip)) .skip)) .hole) .skip)) .skip)) .skip)) .skip)) .skip)
noncomputable def sF:MS:=.hole
noncomputable def DC:MS:=.a (.tup (.c2 (.v 2) (.v 3))) (.tup (.c2 (.idx (.v 0) (.s 48)) (.idx (.v 0) (.s 144)))) (.a (.idx (.v 0) (.s 144)) (.bin .add (.v 3) (.i 1)) (.f (.cmp .lt (.v 3) (.bi .len (.v 2))) (.r (.bin .mod (.idx (.v 2) (.v 3)) (.v 1))) (.r (.bin .mod (.bin .mod (.bin .add (.bin .add (.bin .add (.bin .mul (.bin .mul (.i 5) (.v 3)) (.v 3)) (.bin .mul (.i 11) (.v 3))) (.bin .mul (.i 3) (.bi .len (.v 2)))) (.i 4)) (.i 89)) (.v 1)))))
noncomputable def BV:MS:=.f (.cmp .eq (.call 37 (.c2 (.v 0) (.i 12))) (.i 11)) (.r (.tup (.c3 (.s 128) (.i 1) (.idx (.tup (.cons (.s 192) (.cons (.s 160) (.c4 (.s 175) (.s 178) (.s 188) (.s 108))))) (.call 37 (.c2 (.v 0) (.i 6))))))) (.r (.tup (.c3 (.s 128) (.i 1) (.idx (.v 1) (.call 37 (.c2 (.v 0) (.bi .len (.v 1))))))))
noncomputable def BW:MS:=.r (.tup (.cons (.s 55) (.cons (.i 2) (.c4 (.s 26) (.tup (.c1 (.tup (.c2 (.tup (.c1 (.s 108))) (.call 38 (.c2 (.v 0) (.tup (.c3 (.s 160) (.s 184) (.s 178))))))))) (.lit .none) (.v 1)))))
noncomputable def z8:MS:=.a (.v 2) (.ite (.cmp .gt (.v 1) (.i 0)) (.call 37 (.c2 (.v 0) (.i 8))) (.i 0)) (.f (.cmp .eq (.v 2) (.i 1)) (.r (.call 38 (.c2 (.v 0) (.tup (.c3 (.s 155) (.s 188) (.s 178)))))) (.f (.cmp .eq (.v 2) (.i 2)) (.a (.v 3) (.bi .tuple (.comp (.v 6) (.rng (.c1 (.call 37 (.c2 (.v 0) (.i 3))))) .nil (.call 38 (.c2 (.v 0) (.tup (.c3 (.s 90) (.s 192) (.s 40))))))) (.r (.ite (.cmp .eq (.call 37 (.c2 (.v 0) (.i 2))) (.i 0)) (.tup (.c3 (.s 26) (.i 3) (.v 3))) (.tup (.c3 (.s 28) (.i 3) (.tup (.c2 (.v 3) (.v 3)))))))) (.f (.cmp .eq (.v 2) (.i 3)) (.a (.v 4) (.call 40 (.c2 (.v 0) (.bin .sub (.v 1) (.i 1)))) (.r (.tup (.cons (.s 41) (.c4 (.i 4) (.s 4) (.v 4) (.call 40 (.c2 (.v 0) (.bin .sub (.v 1) (.i 1))))))))) (.f (.cmp .isin (.v 2) (.tup (.c2 (.i 4) (.i 5)))) (.r (.tup (.c4 (.s 44) (.i 5) (.s 27) (.tup (.c1 (.call 40 (.c2 (.v 0) (.bin .sub (.v 1) (.i 1))))))))) (.f (.cmp .eq (.v 2) (.i 6)) (.a (.v 3) (.comp (.v 5) (.rng (.c1 (.idx (.tup (.c4 (.i 1) (.i 1) (.i 0) (.i 2))) (.call 37 (.c2 (.v 0) (.i 4)))))) .nil (.call 38 (.c2 (.v 0) (.tup (.c3 (.s 160) (.s 160) (.s 20)))))) (.r (.tup (.c4 (.s 44) (.i 6) (.s 27) (.bi .tuple (.bin .add (.v 3) (.lst false (.c1 (.call 40 (.c2 (.v 0) (.bin .sub (.v 1) (.i 1)))))))))))) (.f (.cmp .eq (.v 2) (.i 7)) (.r (.call 39 (.c2 (.v 0) (.call 38 (.c2 (.v 0) (.tup (.c3 (.s 108) (.s 192) (.s 90)))))))) (.r (.call 38 (.c2 (.v 0) (.tup (.c4 (.s 20) (.s 184) (.s 155) (.s 188))))))))))))
noncomputable def BX:MS:=.a (.v 1) (.call 37 (.c2 (.v 0) (.i 5))) (.f (.cmp .eq (.v 1) (.i 2)) (.r (.tup (.c4 (.s 44) (.i 7) (.s 81) (.tup (.c1 (.tup (.c3 (.s 128) (.i 7) (.s 195)))))))) (.f (.cmp .eq (.v 1) (.i 3)) (.r (.tup (.cons (.s 41) (.c4 (.i 8) (.s 10) (.call 38 (.c2 (.v 0) (.tup (.c2 (.s 192) (.s 90))))) (.tup (.c3 (.s 103) (.i 8) (.i 2))))))) (.r (.ite (.and (.c2 (.cmp .eq (.v 1) (.i 4)) (.cmp .eq (.call 37 (.c2 (.v 0) (.i 3))) (.i 2)))) (.call 38 (.c2 (.v 0) (.tup (.c2 (.s 192) (.s 160))))) (.tup (.c3 (.s 128) (.i 9) (.idx (.s 196) (.bin .mod (.v 1) (.i 2)))))))))
noncomputable def Gu:MS:=.a (.v 3) (.lst true .nil) (.q (.for (.v 4) (.rng (.c1 (.bin .add (.i 1) (.call 37 (.c2 (.v 0) (.i 2)))))) (.a (.v 5) (.call 41 (.c1 (.v 0))) (.q (.expr (.bm .append (.v 3) (.c1 (.tup (.c2 (.v 5) (.call 43 (.c3 (.v 0) (.v 1) (.v 2)))))))) .skip))) (.r (.tup (.c4 (.s 91) (.i 10) (.bi .tuple (.v 3)) (.call 43 (.c3 (.v 0) (.v 1) (.v 2)))))))
noncomputable def Aa:MS:=.a (.v 3) (.ite (.cmp .gt (.v 1) (.i 0)) (.call 37 (.c2 (.v 0) (.i 8))) (.call 37 (.c2 (.v 0) (.i 2)))) (.f (.cmp .eq (.v 3) (.i 0)) (.r (.tup (.c3 (.s 128) (.i 11) (.ite (.v 2) (.s 178) (.s 175))))) (.f (.and (.c2 (.cmp .eq (.v 3) (.i 1)) (.v 2))) (.r (.call 39 (.c2 (.v 0) (.tup (.c4 (.s 44) (.i 12) (.s 165) (.tup (.c1 (.call 38 (.c2 (.v 0) (.tup (.c3 (.s 108) (.s 192) (.s 195)))))))))))) (.f (.cmp .eq (.v 3) (.i 1)) (.r (.tup (.c4 (.s 44) (.i 12) (.s 165) (.tup (.c1 (.ite (.cmp .eq (.call 37 (.c2 (.v 0) (.i 2))) (.i 0)) (.call 40 (.c2 (.v 0) (.i 1))) (.call 38 (.c2 (.v 0) (.tup (.c3 (.s 192) (.s 90) (.s 195))))))))))) (.f (.cmp .isin (.v 3) (.tup (.c2 (.i 2) (.i 3)))) (.r (.call 42 (.c3 (.v 0) (.bin .sub (.v 1) (.i 1)) (.v 2)))) (.f (.cmp .eq (.v 3) (.i 4)) (.a (.v 4) (.call 43 (.c3 (.v 0) (.bin .sub (.v 1) (.i 1)) (.v 2))) (.r (.tup (.cons (.s 41) (.c4 (.i 13) (.s 4) (.v 4) (.call 43 (.c3 (.v 0) (.bin .sub (.v 1) (.i 1)) (.v 2)))))))) (.f (.and (.c2 (.cmp .eq (.v 3) (.i 5)) (.v 2))) (.r (.tup (.c3 (.s 26) (.i 14) (.bi .tuple (.comp (.v 5) (.rng (.c1 (.call 37 (.c2 (.v 0) (.i 3))))) .nil (.call 43 (.c3 (.v 0) (.bin .sub (.v 1) (.i 1)) (.lit (.bool false))))))))) (.f (.cmp .eq (.v 3) (.i 5)) (.r (.tup (.c4 (.s 44) (.i 15) (.s 109) (.tup (.c2 (.tup (.c3 (.s 170) (.i 15) (.s 5))) (.call 43 (.c3 (.v 0) (.bin .sub (.v 1) (.i 1)) (.lit (.bool true))))))))) (.f (.cmp .eq (.v 3) (.i 6)) (.r (.tup (.c4 (.s 44) (.i 16) (.ite (.v 2) (.s 27) (.s 57)) (.tup (.c1 (.call 43 (.c3 (.v 0) (.bin .sub (.v 1) (.i 1)) (.lit (.bool true))))))))) (.r (.ite (.cmp .eq (.call 37 (.c2 (.v 0) (.i 3))) (.i 2)) (.call 40 (.c2 (.v 0) (.i 1))) (.tup (.c3 (.s 128) (.i 17) (.ite (.v 2) (.s 178) (.s 175))))))))))))))
noncomputable def DF:MS:=.f (.or (.c3 (.cmp .is (.v 0) (.lit .none)) (.cmp .is (.v 1) (.lit .none)) (.cmp .ne (.x (.v 0) 2) (.x (.v 1) 2)))) (.r (.lit .none)) (.a (.v 2) (.comp (.v 3) (.sset (.x (.v 0) 0) (.x (.v 1) 0)) (.cmp .ne (.v 3) (.s 130)) (.v 3)) (.f (.and (.c2 (.cmp .gt (.bi .len (.v 2)) (.i 1)) (.cmp .ne (.v 2) (.lst false (.c2 (.s 42) (.s 103)))))) (.r (.lit .none)) (.r (.tup (.c3 (.ite (.cmp .lt (.bi .len (.v 2)) (.i 2)) (.x (.bin .add (.v 2) (.lst false (.c1 (.s 130)))) 0) (.s 103)) (.or (.c2 (.x (.v 0) 1) (.x (.v 1) 1))) (.x (.v 0) 2))))))
noncomputable def xB:MS:=.a (.v 1) (.tup (.c3 (.s 130) (.lit (.bool false)) (.i 0))) (.q (.for (.v 2) (.v 0) (.a (.v 1) (.ite (.and (.c2 (.cmp .isnt (.v 2) (.lit .none)) (.cmp .eq (.x (.v 2) 2) (.i 0)))) (.call 44 (.c2 (.v 1) (.v 2))) (.lit .none)) .skip)) (.r (.v 1)))
noncomputable def xA:MS:=.r (.and (.c4 (.cmp .isnt (.v 0) (.lit .none)) (.cmp .isin (.x (.v 0) 0) (.tup (.c2 (.v 1) (.s 130)))) (.not (.x (.v 0) 1)) (.cmp .eq (.x (.v 0) 2) (.v 2))))
noncomputable def BS:MS:=.f (.cmp .isin (.lit .none) (.v 1)) (.r (.lit .none)) (.f (.cmp .isin (.v 0) (.tup (.c2 (.s 165) (.s 81)))) (.a (.v 3) (.or (.c2 (.v 2) (.not (.x (.x (.v 1) 0) 1)))) (.r (.ite (.not (.v 3)) (.lit .none) (.ite (.cmp .eq (.v 0) (.s 165)) (.tup (.c3 (.s 170) (.lit (.bool false)) (.i 0))) (.x (.v 1) 0))))) (.f (.cmp .eq (.v 0) (.s 57)) (.r (.ite (.call 46 (.c3 (.x (.v 1) 0) (.s 170) (.i 1))) (.tup (.c3 (.s 170) (.lit (.bool false)) (.i 0))) (.lit .none))) (.f (.cmp .eq (.v 0) (.s 109)) (.r (.ite (.call 46 (.c3 (.x (.v 1) 1) (.s 170) (.i 1))) (.tup (.c3 (.s 170) (.lit (.bool false)) (.i 0))) (.lit .none))) (.a (.v 4) (.comp (.v 5) (.upto (.v 1) (.i (-1))) (.not (.call 46 (.c3 (.v 5) (.s 163) (.i 0)))) (.v 5)) (.r (.ite (.and (.c3 (.cmp .lt (.bi .len (.v 1)) (.i 3)) (.cmp .eq (.v 4) (.lst false .nil)) (.cmp .gt (.x (.idx (.v 1) (.i (-1))) 2) (.i 0)))) (.tup (.c3 (.x (.idx (.v 1) (.i (-1))) 0) (.x (.idx (.v 1) (.i (-1))) 1) (.i 1))) (.lit .none)))))))
noncomputable def yy:MS:=.a (.v 3) (.comp (.tup (.c2 (.v 10) (.v 11))) (.x (.v 0) 2) .nil (.call 49 (.c3 (.v 10) (.v 1) (.v 2)))) (.a (.v 4) (.call 49 (.c3 (.x (.v 0) 3) (.v 1) (.v 2))) (.q (.for (.tup (.c2 (.v 5) (.v 6))) (.x (.v 0) 2) (.a (.v 4) (.call 44 (.c2 (.call 49 (.c3 (.v 6) (.v 1) (.v 2))) (.v 4))) .skip)) (.f (.or (.c2 (.cmp .is (.v 4) (.lit .none)) (.cmp .ne (.comp (.v 9) (.v 3) (.or (.c3 (.cmp .is (.v 9) (.lit .none)) (.cmp .ne (.x (.v 9) 0) (.s 42)) (.cmp .ne (.x (.v 9) 2) (.i 0)))) (.v 9)) (.lst false .nil)))) (.r (.lit .none)) (.a (.v 7) (.cmp .ne (.comp (.v 8) (.v 3) (.x (.v 8) 1) (.v 8)) (.lst false .nil)) (.f (.or (.c2 (.and (.c2 (.cmp .isin (.v 4) (.tup (.c2 (.tup (.c3 (.s 170) (.lit (.bool false)) (.i 0))) (.tup (.c3 (.s 170) (.lit (.bool false)) (.i 1)))))) (.v 2))) (.not (.v 7)))) (.r (.v 4)) (.r (.ite (.and (.c2 (.cmp .isin (.x (.v 4) 0) (.tup (.c2 (.s 103) (.s 42)))) (.cmp .eq (.x (.v 4) 2) (.i 0)))) (.tup (.c3 (.x (.v 4) 0) (.lit (.bool true)) (.i 0))) (.lit .none))))))))
noncomputable def BU:MS:=.a (.v 3) (.x (.v 0) 0) (.f (.cmp .isin (.v 3) (.tup (.c2 (.s 103) (.s 170)))) (.r (.tup (.c3 (.v 3) (.lit (.bool false)) (.i 0)))) (.f (.cmp .eq (.v 3) (.s 128)) (.r (.bm .get1 (.v 1) (.c1 (.x (.v 0) 2)))) (.f (.cmp .eq (.v 3) (.s 44)) (.r (.call 47 (.c3 (.x (.v 0) 2) (.comp (.v 10) (.x (.v 0) 3) .nil (.call 49 (.c3 (.v 10) (.v 1) (.v 2)))) (.v 2)))) (.f (.cmp .eq (.v 3) (.s 91)) (.r (.call 48 (.c3 (.v 0) (.v 1) (.v 2)))) (.f (.cmp .eq (.v 3) (.s 41)) (.a (.v 4) (.call 44 (.c2 (.call 49 (.c3 (.x (.v 0) 3) (.v 1) (.v 2))) (.call 49 (.c3 (.x (.v 0) 4) (.v 1) (.v 2))))) (.f (.or (.c2 (.cmp .is (.v 4) (.lit .none)) (.cmp .eq (.x (.v 0) 2) (.s 10)))) (.r (.ite (.or (.c2 (.cmp .is (.v 4) (.lit .none)) (.cmp .ne (.x (.v 4) 2) (.i 0)))) (.lit .none) (.tup (.c3 (.s 42) (.x (.v 4) 1) (.i 0))))) (.r (.ite (.or (.c2 (.cmp .eq (.x (.v 4) 2) (.i 1)) (.cmp .eq (.v 4) (.tup (.c3 (.s 170) (.lit (.bool false)) (.i 0)))))) (.v 4) (.lit .none))))) (.f (.cmp .eq (.v 3) (.s 55)) (.a (.tup (.c2 (.v 5) (.v 6))) (.tup (.c2 (.bi .dict (.v 1)) (.call 49 (.c3 (.x (.x (.x (.v 0) 3) 0) 1) (.v 1) (.v 2))))) (.f (.or (.c2 (.cmp .is (.v 6) (.lit .none)) (.and (.c2 (.cmp .ne (.x (.v 6) 2) (.i 1)) (.cmp .ne (.v 6) (.tup (.c3 (.s 163) (.lit (.bool false)) (.i 0)))))))) (.r (.lit .none)) (.a (.idx (.v 5) (.s 108)) (.ite (.cmp .eq (.x (.v 6) 2) (.i 0)) (.tup (.c3 (.s 103) (.lit (.bool false)) (.i 0))) (.tup (.c3 (.x (.v 6) 0) (.x (.v 6) 1) (.i 0)))) (.a (.v 7) (.call 49 (.c3 (.x (.v 0) 5) (.v 5) (.v 2))) (.r (.ite (.and (.c2 (.cmp .isnt (.v 7) (.lit .none)) (.cmp .eq (.x (.v 7) 2) (.i 0)))) (.tup (.c3 (.x (.v 7) 0) (.x (.v 7) 1) (.i 1))) (.lit .none))))))) (.a (.v 8) (.ite (.cmp .eq (.v 3) (.s 26)) (.x (.v 0) 2) (.bin .add (.x (.x (.v 0) 2) 0) (.x (.x (.v 0) 2) 1))) (.a (.v 4) (.call 45 (.c1 (.comp (.v 9) (.v 8) .nil (.call 49 (.c3 (.v 9) (.v 1) (.v 2)))))) (.r (.ite (.cmp .is (.v 4) (.lit .none)) (.lit .none) (.tup (.c3 (.x (.v 4) 0) (.x (.v 4) 1) (.ite (.cmp .eq (.v 3) (.s 26)) (.i 1) (.i 2))))))))))))))
noncomputable def z9:MS:=.q (.tryx (.r (.u 112 (.c2 (.v 1) (.v 2)))) (.r (.lit .none))) .skip
noncomputable def DE:MS:=.q (.tryx (.r (.u 50 (.c1 (.v 1)))) (.r (.lit .none))) .skip
noncomputable def pi:MS:=.a (.tup (.c3 (.v 1) (.v 2) (.v 3))) (.tup (.c3 (.dict ([48,144]) (.c2 (.bi (.list false) (.upto (.v 0) (.i 60))) (.i 0))) (.new 1) (.lst true .nil))) (.a (.tup (.c2 (.v 4) (.v 5))) (.tup (.c2 (.call 40 (.c2 (.v 1) (.i 3))) (.call 43 (.c3 (.v 1) (.i 3) (.lit (.bool true)))))) (.q (.for (.v 6) (.bi (.sorted false) (.glob 14)) (.a (.tup (.c3 (.v 7) (.v 8) (.v 9))) (.idx (.glob 14) (.v 6)) (.a (.v 10) (.bi .tuple (.comp (.v 18) (.rng (.c1 (.v 9))) .nil (.tup (.c4 (.s 156) (.i 0) (.tup (.c3 (.s 103) (.i 0) (.i 1))) (.tup (.c3 (.s 103) (.i 0) (.i 2))))))) (.q (.expr (.bm .append (.v 3) (.c1 (.tup (.cons (.s 68) (.c4 (.i 0) (.tup (.c4 (.v 7) (.v 8) (.v 10) (.lit .none))) (.v 6) (.lit .none))))))) .skip)))) (.a (.v 3) (.bin .add (.v 3) (.lst false (.c2 (.tup (.c3 (.s 138) (.i 90) (.v 5))) (.tup (.c4 (.s 166) (.i 91) (.s 161) (.lit .none)))))) (.a (.v 11) (.call 46 (.c3 (.call 49 (.c3 (.v 5) (.glob 14) (.lit (.bool true)))) (.s 170) (.i 1))) (.f (.cmp .ne (.call 51 (.c2 (.v 2) (.v 3))) (.ite (.v 11) (.v 3) (.lit .none))) .hole (.a (.v 12) (.dict ([192,195]) (.c2 (.tup (.c3 (.s 103) (.lit (.bool false)) (.i 0))) (.tup (.c3 (.s 42) (.lit (.bool false)) (.i 0))))) (.q (.for (.v 13) (.tup (.c4 (.v 4) (.v 5) (.tup (.c4 (.s 44) (.i 92) (.s 165) (.tup (.c1 (.tup (.c3 (.s 128) (.i 92) (.s 195))))))) (.tup (.c4 (.s 44) (.i 93) (.s 27) (.tup (.c1 (.v 4))))))) (.q (.for (.v 14) (.tup (.c2 (.lit .none) (.v 12))) (.a (.v 15) (.bi .dict (.glob 14)) (.f (.cmp .isnt (.v 14) (.lit .none)) (.q (.expr (.bm .update (.v 15) (.c1 (.v 14)))) .skip) (.a (.tup (.c2 (.v 16) (.v 17))) (.tup (.c2 (.call 49 (.c3 (.v 13) (.v 15) (.lit (.bool false)))) (.call 50 (.c3 (.v 2) (.v 13) (.v 14))))) (.f (.or (.c2 (.cmp .ne (.v 17) (.v 16)) (.and (.c2 (.cmp .isnt (.v 17) (.lit .none)) (.cmp .isnt (.x (.v 17) 1) (.x (.v 16) 1)))))) .hole .skip))))) .skip)) (.r (.lit (.bool true))))))))))
noncomputable def fns:List C6:=[⟨1,5,BY⟩,⟨2,2,Os⟩,⟨4,4,Ox⟩,⟨4,6,ID⟩,⟨1,1,vV⟩,⟨1,1,z7⟩,⟨1,1,BQ⟩,⟨4,4,BR⟩,⟨3,4,wI⟩,⟨1,1,vR⟩,⟨3,4,wG⟩,⟨2,5,z6⟩,⟨3,3,u5⟩,⟨2,4,yw⟩,⟨5,6,xx⟩,⟨4,5,tE⟩,⟨5,6,vS⟩,⟨3,6,xy⟩,⟨3,5,vU⟩,⟨3,9,u4⟩,⟨2,3,xz⟩,⟨4,6,u7⟩,⟨2,9,xw⟩,⟨4,8,z0⟩,⟨5,7,u9⟩,⟨4,7,u6⟩,⟨4,6,tD⟩,⟨3,8,u8⟩,⟨3,5,vT⟩,⟨2,10,yx⟩,⟨2,2,ut⟩,⟨2,3,sR⟩,⟨2,2,td⟩,⟨3,9,wH⟩,⟨1,5,tC⟩,⟨2,4,us⟩,⟨2,4,sF⟩,⟨2,4,DC⟩,⟨2,2,BV⟩,⟨2,2,BW⟩,⟨2,7,z8⟩,⟨1,2,BX⟩,⟨3,6,Gu⟩,⟨3,6,Aa⟩,⟨2,4,DF⟩,⟨1,3,xB⟩,⟨3,3,xA⟩,⟨3,6,BS⟩,⟨3,12,yy⟩,⟨3,11,BU⟩,⟨3,3,z9⟩,⟨2,2,DE⟩,⟨1,19,pi⟩]
noncomputable def meths:List ((Nat×Nat)×Nat):=[((0,151),5),((0,146),6),((0,152),7),((0,112),8),((1,112),10),((1,111),11),((1,113),12),((1,49),13),((1,110),14),((1,154),15),((1,56),16),((1,135),17),((1,83),18),((1,85),19),((1,169),20),((1,153),21),((1,53),22),((1,44),23),((1,189),24),((1,136),25),((1,120),26),((1,180),27),((1,69),28),((1,50),29),((1,145),30),((1,132),31),((1,131),32),((1,137),33),((1,33),34),((1,51),35),((1,52),36)]
noncomputable def inits:List (Nat×Nat):=[(0,4),(1,9)]
noncomputable def slens:List Nat:=[0,2,1,1,2,2,1,2,2,2,1,2,3,2,1,2,1,2,2,1,1,3,13,12,22,6,5,7,6,7,15,11,5,12,4,6,6,8,8,7,1,3,4,8,4,6,5,4,5,5,5,10,15,6,7,4,8,6,10,5,10,1,2,2,2,2,2,2,4,8,10,4,11,3,6,7,4,7,6,6,7,3,6,8,3,9,3,18,25,12,1,2,15,6,2,10,5,11,9,14,14,7,6,3,7,9,7,8,1,4,6,4,7,9,6,3,11,13,8,10,12,1,3,7,3,8,7,3,4,5,4,13,14,7,6,6,9,7,6,1,2,2,2,3,5,10,3,3,9,10,7,4,3,9,12,1,5,7,7,22,1,7,6,3,9,4,5,4,5,6,3,6,3,8,7,1,5,25,2,6,9,2,5,6,1,13,3,4,1,9,5,6,1,3,6,1,2]
noncomputable def picks:List ((Nat×Int)×Nat):=[((196,0),195),((196,1),40)]
noncomputable def varss:List (List (String×Nat)):=[[("kind",0),("base",1),("is_var",2),("dims",3),("text",4)],[("kind",0),("wanted",1)],[("kind",0),("wanted",1),("spot",2),("what",3)],[("one",0),("other",1),("spot",2),("what",3),("bases",4),("base",5)],[("self",0)],[("self",0)],[("self",0)],[("self",0),("name",1),("kind",2),("spot",3)],[("self",0),("name",1),("spot",2),("place",3)],[("self",0)],[("self",0),("node",1),("scope",2),("name",3)],[("self",0),("node",1),("op",2),("spot",3)],[("self",0),("node",1),("what",2)],[("self",0),("node",1),("waiting",2),("found",3)],[("self",0),("sign",1),("one",2),("other",3),("spot",4),("is_var",5)],[("self",0),("one",1),("other",2),("spot",3),("found",4)],[("self",0),("sign",1),("one",2),("other",3),("spot",4),("found",5)],[("self",0),("nodes",1),("what",2),("found",3),("node",4),("late",5)],[("self",0),("op",1),("node",2),("found",3),("row",4)],[("self",0),("op",1),("node",2),("spot",3),("what",4),("names",5),("source",6),("body",7),("found",8)],[("self",0),("node",1),("found",2)],[("self",0),("names",1),("kind",2),("spot",3),("place",4),("name",5)],[("self",0),("node",1),("found",2),("is_var",3),("condition",4),("value",5),("late",6),("kind",7),("is_text",8)],[("self",0),("name",1),("kinds",2),("spot",3),("is_var",4),("wanted",5),("base",6)],[("self",0),("name",1),("kinds",2),("wanted",3),("spot",4),("kind",5),("one",6)],[("self",0),("name",1),("kinds",2),("spot",3),("first",4),("many",5),("sides",6)],[("self",0),("name",1),("kinds",2),("spot",3),("first",4),("many",5)],[("self",0),("kind_type",1),("spot",2),("base",3),("is_var",4),("dims",5),("domain",6),("part",7)],[("self",0),("item",1),("is_assigned",2),("kind",3)],[("self",0),("items",1),("item",2),("found",3),("late",4),("solves",5)],[("self",0),("kind_type",1)],[("self",0),("item",1),("name",2)],[("self",0),("item",1)],[("self",0),("items",1),("place",2),("needs",3),("item",4),("found",5),("waiting",6),("left",7),("spot",8)],[("self",0),("found",1),("waiting",2),("seen",3),("name",4)],[("self",0),("item",1),("op",2),("spot",3)],[("self",0),("item",1),("kind_type",2),("param",3)],[("feed",0),("many",1),("cells",2),("place",3)],[("feed",0),("some",1)],[("feed",0),("body",1)],[("feed",0),("deep",1),("way",2),("some",3),("one",4)],[("feed",0),("way",1)],[("feed",0),("deep",1),("is_row",2),("arms",3),("lap",4),("test",5)],[("feed",0),("deep",1),("is_row",2),("way",3),("one",4)],[("one",0),("other",1),("bases",2)],[("some",0),("found",1),("kind",2)],[("kind",0),("base",1),("sides",2)],[("name",0),("kinds",1),("is_shown",2),("is_let",3),("sides",4)],[("node",0),("env",1),("is_shown",2),("tests",3),("found",4),("test",5),("value",6),("varies",7)],[("node",0),("env",1),("is_shown",2),("op",3),("found",4),("late",5),("kind",6),("body",7),("some",8)],[("maker",0),("node",1),("late",2)],[("maker",0),("items",1)],[("script",0),("feed",1),("maker",2),("items",3),("array",4),("texts",5),("name",6),("base",7),("varies",8),("sides",9),("dims",10),("is_output",11),("calm",12),("node",13),("late",14),("env",15),("due",16),("told",17)]]
noncomputable def fnms:List (Option String):=[some "kind_text",some "fits",some "want",some "common",none,none,none,none,none,none,none,none,none,none,none,none,none,none,none,none,none,none,none,none,none,none,none,none,none,none,none,none,none,none,none,none,none,some "_law_dip",some "_law_name",some "_law_over",some "_law_array",some "_law_test",some "_law_if",some "_law_texts",some "_law_met",some "_law_met_all",some "_law_is_like",some "_law_call",some "_law_chosen",some "_law_kind",some "_law_heard",some "_law_let",some "law"]
noncomputable def Sq:List String:=["kind_text", "fits", "want", "common", "Names.__init__", "Names.push", "Names.pop", "Names.put", "Names.kind_of", "Kinds.__init__", "Kinds.kind_of", "Kinds.kind", "Kinds.known_set", "Kinds.chain", "Kinds.joined", "Kinds.put_together", "Kinds.compared", "Kinds.of_all", "Kinds.gathered", "Kinds.generated", "Kinds.source", "Kinds.put_names", "Kinds.chosen", "Kinds.call", "Kinds.want_each", "Kinds.open_call", "Kinds.listing_call", "Kinds.type_kind", "Kinds.declared", "Kinds.check", "Kinds.plain_kind", "Kinds.note_predicate", "Kinds.note_assigned", "Kinds.ordered", "Kinds.asked_within", "Kinds.check_item", "Kinds.check_predicate", "_law_dip", "_law_name", "_law_over", "_law_array", "_law_test", "_law_if", "_law_texts", "_law_met", "_law_met_all", "_law_is_like", "_law_call", "_law_chosen", "_law_kind", "_law_heard", "_law_let", "law"]
noncomputable def pg:Pg:={fn:=λi=>fns[i]?,const:=λk=>(consts[k]?).getD .none,meth:=λc k=>meths.lookup (c,k),init:=λc=>inits.lookup c,pick:=λk i=>picks.lookup (k,i),slen:=λk=>(slens[k]?).getD 0}
noncomputable def TH:Nat:=52
end L2
def WR{ε α:Type}(r:R ε α)(Q:α->St->Prop)(E:ε->St->Prop):Prop:=match r with
 |.ok a σ=>Q a σ
 |.exc e σ=>E e σ
 |.bad=>False
section
variable {Us:Type}{Q:α->St->Prop}{E:ε->St->Prop}
theorem WR.bind{r:R ε β}{f:β->St->R ε α}(h:WR r (λb σ=>WR (f b σ) Q E) E):WR (r.bind f) Q E:=by cases r<;>exact h
theorem WR.lift{r:R Unit α}{e:ε}(h:WR r Q λZ σ=>E e σ):WR (r.lift e) Q E:=by cases r<;>exact h
theorem WR.fin{r:R Us β}{f:β->St->R ε α}{g:Us->St->R ε α}(h:WR r (λb σ=>WR (f b σ) Q E) λe σ=>WR (g e σ) Q E):WR (r.fin f g) Q E:=by cases r<;>exact h
theorem WR.ok{a:α}(h:Q a σ):WR (.ok a σ) Q E:=h
theorem WR.of{o:Option α}{a:α}(e:o=some a)(h:Q a σ):WR (.of o σ) Q E:=by rw[e];exact h
theorem WR.opt{o:Option β}{f:β->R ε α}{a:β}(e:o=some a)(h:WR (f a) Q E):WR (.opt o f) Q E:=by rw[e];exact h
theorem WR.gd{p:Prop}[Decidable p]{r:R ε α}(e:decide p=true)(h:WR r Q E):WR (Mine.Internal.gd p r) Q E:=by unfold Mine.Internal.gd;rw[if_pos (of_decide_eq_true e)];exact h
theorem WR.gdp{p:Prop}[Decidable p]{r:R ε α}(e:p)(h:WR r Q E):WR (Mine.Internal.gd p r) Q E:=by unfold Mine.Internal.gd;rw[if_pos e];exact h
theorem WR.val{r:R ε α}{a:α}(e:r=.ok a σ)(h:Q a σ):WR r Q E:=by rw[e];exact h
theorem WR.mono{r:R ε α}{Q':α->St->Prop}{E':ε->St->Prop}(h:WR r Q E)(hq:∀a σ,Q a σ->Q' a σ)(he:∀e σ,E e σ->E' e σ):WR r Q' E':=by
 cases r with
 |ok a σ=>exact hq a σ h
 |exc e σ=>exact he e σ h
 |bad=>exact h
end
noncomputable def Jr:Fl->V
 |.ret v=>v
 |.next=>.none
theorem WR.ended{r:R mQ (Fl×mQ)}{Q:V->St->Prop}{E:Unit->St->Prop}(h:WR r (λp σ=>Q (Jr p.1) σ) λZ σ=>E () σ):WR (ended r) Q E:=by
 cases r with
 |ok p σ=>
  obtain ⟨fl,ρ⟩:=p
  cases fl<;>exact h
 |exc e σ=>exact h
 |bad=>exact h
theorem WR.call{P:Pg}{q:Bool}{f:Nat}{args:List V}{F:C6}{Q:V->St->Prop}{E:Unit->St->Prop}(hF:P.fn f=some F)(hl:args.length=F.params)(h:WR (dS P (oP P d) q F.body (qX F args) σ) (λp σ=>Q (Jr p.1) σ) λZ σ=>E () σ):WR (oP P (d+1) q f args σ) Q E:=
 WR.opt hF (WR.gdp hl (WR.ended h))
section
variable {a b:R ε α}{t:Bool}{Q:α->St->Prop}{E:ε->St->Prop}
theorem WR.iteT(e:t=true)(h:WR a Q E):WR (if t=true then a else b) Q E:=by rw[if_pos e];exact h
theorem WR.iteF(e:t=false)(h:WR b Q E):WR (if t=true then a else b) Q E:=by rw[if_neg (by rw[e];exact cy)];exact h
end
section
variable {P:Pg}{C:Bool->Call}{q:Bool}{Q:Fl×mQ->St->Prop}{E:mQ->St->Prop}
theorem ug{a b:MS}(h:WR (dS P C q a ρ σ) (λp σ=>WR (after (dS P C q b) p σ) Q E) E):WR (dS P C q (.seq a b) ρ σ) Q E:=WR.bind h
theorem tj{g:mQ->St->R mQ (Fl×mQ)}(h:WR (g ρ σ) Q E):WR (after g (.next,ρ) σ) Q E:=h
theorem EB{g:mQ->St->R mQ (Fl×mQ)}{v:V}(h:Q (.ret v,ρ) σ):WR (after g (.ret v,ρ) σ) Q E:=h
theorem PQ{c:MX}{a b:MS}(h:WR (dT P q (C q) c ρ σ) (λt σ=>WR (if t=true then dS P C q a ρ σ else dS P C q b ρ σ) Q E) λZ σ=>E ρ σ):WR (dS P C q (.iff c a b) ρ σ) Q E:=WR.bind (WR.lift h)
theorem Hr(h:WR (dE P q (C q) e ρ σ) (λv σ=>Q (.ret v,ρ) σ) λZ σ=>E ρ σ):WR (dS P C q (.ret e) ρ σ) Q E:=WR.bind (WR.lift h)
theorem EA{t:MX}(h:WR (dE P q (C q) e ρ σ) (λv σ=>WR (dA P q (C q) t v ρ σ) (λρ σ=>Q (.next,ρ) σ) E) λZ σ=>E ρ σ):WR (dS P C q (.asg t e) ρ σ) Q E:=WR.bind (WR.lift (h.mono (λZ Z h=>WR.bind h) λZ Z h=>h))
theorem M8(h:Q (.next,ρ) σ):WR (dS P C q .skip ρ σ) Q E:=h
theorem PP{t it:MX}{b:MS}(hq:q=false)(h:WR (dI P q (C q) it ρ σ) (λi σ=>WR (loopS i (λv ρ σ=>R.opt (qo t v ρ) λρ'=>dS P C q b ρ' σ) (i.fuel σ) 0 ρ σ) Q E) λZ σ=>E ρ σ):WR (dS P C q (.for t it b) ρ σ) Q E:=WR.gdp hq (WR.bind (WR.lift h))
theorem M5{f:V->mQ->St->R mQ (Fl×mQ)}{k i:Nat}{v:V}(e:it.at i σ=some (some v))(h:WR (f v ρ σ) (λp σ=>WR (after (loopS it f k (i+1)) p σ) Q E) E):WR (loopS it f (k+1) i ρ σ) Q E:=by
 refine WR.opt e ?_;exact WR.bind h
theorem PL{f:V->mQ->St->R mQ (Fl×mQ)}{k i:Nat}(e:it.at i σ=some none)(h:Q (.next,ρ) σ):WR (loopS it f (k+1) i ρ σ) Q E:=by
 refine WR.opt e ?_;exact h
end
section
variable {P:Pg}{C:Call}{q:Bool}{E:Unit->St->Prop}
theorem Hn{f:Nat}{Q:V->St->Prop}(h:WR (dL P q C es ρ σ) (λl σ=>WR (C f l σ) Q E) E):WR (dE P q C (.call f es) ρ σ) Q E:=WR.bind h
theorem yG{Q:V->St->Prop}(h:WR (dL P q C es ρ σ) (λl σ=>decide (l.length<=ni)=true/\Q (.tup l) σ) E):WR (dE P q C (.tup es) ρ σ) Q E:=WR.bind (h.mono (λZ Z h=>WR.gd h.1 h.2) λZ Z h=>h)
theorem PD{a b:MX}{Q:V->St->Prop}(h:WR (dE P q C a ρ σ) (λc σ=>WR (dE P q C b ρ σ) (λi σ=>WR (R.of (tL P σ c i) σ) Q E) E) E):WR (dE P q C (.idx a b) ρ σ) Q E:=WR.bind (h.mono (λZ Z h=>WR.bind h) λZ Z h=>h)
theorem qC{Q:List V->St->Prop}(h:WR (dE P q C e ρ σ) (λv σ=>WR (dL P q C es ρ σ) (λl σ=>Q (v::l) σ) E) E):WR (dL P q C (.cons e es) ρ σ) Q E:=WR.bind (h.mono (λZ Z h=>WR.bind h) λZ Z h=>h)
theorem w1{Q:List V->St->Prop}(h:Q [] σ):WR (dL P q C .nil ρ σ) Q E:=h
theorem RZ{b:BI}{Q:V->St->Prop}(hq:(q&&b.loud)=false)(h:WR (dE P q C e ρ σ) (λv σ=>WR (DX σ b v) Q E) E):WR (dE P q C (.bi b e) ρ σ) Q E:=WR.gdp hq (WR.bind h)
end
section
variable {f:V->mQ->St->R mQ (Fl×mQ)}{k i:Nat}{Q:Fl×mQ->St->Prop}{E:mQ->St->Prop}
theorem RW{o:Option mQ}{g:mQ->R mQ (Fl×mQ)}{ρ':mQ}(e:o=some ρ')(h:WR (g ρ') Q E):WR (R.opt o g) Q E:=WR.opt e h
end
noncomputable def fragOf(as:List ai)(h:aB):cX:=as.map λa=>(a,(h.get? a).getD {cls:=.none})
theorem K2{as:List ai}(k:as.all (λa=>(h.get? a).isSome)=true):(fragOf as h).In h:=by
 induction as with
 |nil=>exact λa o e=>mV e
 |cons b as ih=>
  have k:=b2 k;intro a o e;have e:((b,(h.get? b).getD {cls:=.none})::fragOf as h).lookup a=some o:=e;rw[cA] at e
  by_cases q:(a==b)=true
  .rw[q] at e;refine m4 (aV.mp k.1) λo' e'=>?_;rw[e'] at e;rw[eq_of_beq q,e'];exact e
  .rw[b9.mpr q] at e;exact ih k.2 a o e
noncomputable def Lu(d:kZ)(f:eV->Bool):Bool:=match d with
 |.func fd=>f fd
 |_=>false
theorem xQ{d:kZ}{f:eV->Bool}:Lu d f=true->∃fd,d=.func fd/\f fd=true:=by
 cases d<;>first | exact mP | exact λh=>⟨_,rfl,h⟩
noncomputable def onSeq(d:kZ)(f:List af->Bool):Bool:=match d with
 |.seq xs _=>f xs.toList
 |_=>false
theorem GF{d:kZ}{f:List af->Bool}:onSeq d f=true->∃xs n,d=.seq xs n/\f xs.toList=true:=by
 cases d<;>first | exact mP | exact λh=>⟨_,_,rfl,h⟩
noncomputable def MK(d:kZ)(f:List fg->Bool):Bool:=match d with
 |.dict es _=>f es.toList
 |_=>false
theorem GC{d:kZ}{f:List fg->Bool}:MK d f=true->∃es n,d=.dict es n/\f es.toList=true:=by
 cases d<;>first | exact mP | exact λh=>⟨_,_,rfl,h⟩
noncomputable def I5(d:kZ)(f:ki->Bool):Bool:=match d with
 |.cls c=>f c
 |_=>false
theorem y8{d:kZ}{f:ki->Bool}:I5 d f=true->∃c,d=.cls c/\f c=true:=by
 cases d<;>first | exact mP | exact λh=>⟨_,rfl,h⟩
noncomputable def I7(d:kZ)(f:Array af->Bool):Bool:=match d with
 |.fields c=>f c
 |_=>false
theorem DR{d:kZ}{f:Array af->Bool}:I7 d f=true->∃c,d=.fields c/\f c=true:=by
 cases d<;>first | exact mP | exact λh=>⟨_,rfl,h⟩
noncomputable def I4(d:kZ)(f:Option af->Bool):Bool:=match d with
 |.cell c=>f c
 |_=>false
theorem DP{d:kZ}{f:Option af->Bool}:I4 d f=true->∃c,d=.cell c/\f c=true:=by
 cases d<;>first | exact mP | exact λh=>⟨_,rfl,h⟩
noncomputable def Ap(b:FuncBody)(f:List Stmt->Bool):Bool:=match b with
 |.stmts l=>f l
 |_=>false
theorem wu{b:FuncBody}{f:List Stmt->Bool}:Ap b f=true->∃l,b=.stmts l/\f l=true:=by
 cases b<;>first | exact mP | exact λh=>⟨_,rfl,h⟩
noncomputable def Jd(v:af)(f:ai->Bool):Bool:=match v with
 |.ref a=>f a
 |_=>false
theorem za{v:af}{f:ai->Bool}:Jd v f=true->∃a,v=.ref a/\f a=true:=by
 cases v<;>first | exact mP | exact λh=>⟨_,rfl,h⟩
noncomputable def Au(v:af)(f:aI->Bool):Bool:=match v with
 |.str s _=>f s
 |_=>false
theorem uA{v:af}{f:aI->Bool}:Au v f=true->∃a t,v=.str a t/\f a=true:=by
 cases v<;>first | exact mP | exact λh=>⟨_,_,rfl,h⟩
theorem Kl{names:List aI}:∀{vals:List af},vals.length=names.length->∀n∈names,((names.zip vals).lookup n).isSome=true:=by
 induction names with
 |nil=>exact λZ Z h=>nomatch h
 |cons x names ih=>
  intro vals hl n hn
  cases vals with
  |nil=>exact nomatch hl
  |cons v vals=>
   rw[gL,cA]
   by_cases q:(n==x)=true
   .rw[q];rfl
   .rw[b9.mpr q];exact ih (c0 hl) n ((aA.mp hn).resolve_left λe=>q (by rw[e];exact beq_self_eq_true x))
theorem Mn{names:List aI}:∀{vals:List af},vals.length=names.length->names.Nodup->names.filterMap (λn=>((names.zip vals).lookup n).map (n,·))=names.zip vals:=by
 induction names with
 |nil=>exact λZ Z=>rfl
 |cons x names ih=>
  intro vals hl nd
  cases vals with
  |nil=>exact nomatch hl
  |cons v vals=>
   have nd:=bM.mp nd;rw[gL,da,cA,beq_self_eq_true];show (x,v)::_=_
   congr 1
   have e:∀(l:List aI),(∀n∈l,n≠x)->l.filterMap (λn=>(((x,v)::names.zip vals).lookup n).map (n,·))=l.filterMap λn=>((names.zip vals).lookup n).map (n,·):=by
    intro l
    induction l with
    |nil=>exact λZ=>rfl
    |cons n l ih=>
     intro h;rw[da,da,ih λm hm=>h m (ao _ hm),cA,b9.mpr λq=>h n ah (eq_of_beq q)]
   exact (e names λn hn q=>nd.1 (q▸hn)).trans (ih (c0 hl) nd.2)
structure w3(fd:eV):Prop where
 pos:fd.params.posonlyargs=[]
 va:fd.params.vararg=none
 ko:fd.params.kwonlyargs=[]
 kw:fd.params.kwarg=none
 df:fd.defaults=.none
theorem xd{fd:eV}(k:w3 fd)(nd:(fd.params.args.map (·.arg)).Nodup)(hl:vals.length=(fd.params.args.map (·.arg)).length):bindArgs fd ⟨vals,[]⟩=pure ((fd.params.args.map (·.arg)).zip vals):=by
 have hm:((fd.params.args.map (·.arg)).filter λn=>(((fd.params.args.map (·.arg)).zip vals).lookup n).isNone)=[]:=by
  rw[List.filter_eq_nil_iff];intro n hn h;have:=Kl hl n hn;rw[Option.isNone_iff_eq_none] at h;rw[h] at this;exact mP this
 have hlt:¬(vals.length > (fd.params.args.map (·.arg)).length):=by rw[hl];exact fP _
 obtain ⟨nm,q,⟨po,ar,va,ko,kd,kw,pd⟩,body,sc,gl,cl,df,kwd⟩:=fd;obtain ⟨e1,e2,e3,e4,e5⟩:=k;dsimp only at e1 e2 e3 e4 e5 nd hl hm hlt;subst e1 e2 e3 e4 e5;have hd:∀(k:Nat),List.drop k ((none:Option (Array af)).getD #[]).toList=[]:=λk=>List.drop_nil;refine lw (if_neg ?h1) ?_
 case h1=>
  show ¬(decide (vals.length > (ar.map (·.arg)).length)&&true)=true;rw[decide_eq_false hlt];exact mP
 rw[hd,List.zip_nil_right];refine lw (if_neg (λe=>?h2)) ?_
 case h2=>
  have e:(!(((ar.map (·.arg)).take (ar.map (·.arg)).length).filter λn=>(((ar.map (·.arg)).zip vals).lookup n).isNone).isEmpty)=true:=e;rw[List.take_length,hm] at e;exact mP e
 have z:(ar.map (λx:Arg=>x.arg)++[]).filterMap (λn=>(((ar.map (λx:Arg=>x.arg)).zip vals).lookup n).map (n,·))=(ar.map (λx:Arg=>x.arg)).zip vals:=by rw[ba];exact Mn hl nd
 exact congrArg (pure (f:=jM)) z
noncomputable def Jk(fd:eV):Bool:=fd.params.posonlyargs.isEmpty&&(fd.params.vararg.isNone&&(fd.params.kwonlyargs.isEmpty&&(fd.params.kwarg.isNone&&(fd.defaults==.none)&&decide (fd.params.args.map (·.arg)).Nodup)))
theorem D6{fd:eV}(h:Jk fd=true):w3 fd/\(fd.params.args.map (·.arg)).Nodup:=
 have h1:=b2 h;have h2:=b2 h1.2;have h3:=b2 h2.2;have h4:=b2 h3.2;have h5:=b2 h4.1
 ⟨⟨ny h1.1,rE h2.1,ny h3.1,rE h5.1,eq_of_beq h5.2⟩,of_decide_eq_true h4.2⟩
noncomputable def zF(K:cX)(fd:eV):Bool:=decide (fd.scope.kind=.function)&&(!fd.scope.isCoroutine&&(!fd.scope.isGenerator&&(decide (fd.globals=b6)&&(decide (fd.builtins=dG)&&(codeIn K fd.code fd.qualname&&Jk fd)))))
structure Hm(h:aB)(fd:eV):Prop where
 kind:fd.scope.kind=.function
 co:fd.scope.isCoroutine=false
 gen:fd.scope.isGenerator=false
 gl:fd.globals=b6
 bu:fd.builtins=dG
 cr:h.CodeRec fd.code fd.qualname
 plain:w3 fd
 nodup:(fd.params.args.map (·.arg)).Nodup
theorem xE{b:Bool}(h:(!b)=true):b=false:=by cases b<;>first | rfl | exact mP h
theorem wj(X:K.In h){fd:eV}(e:zF K fd=true):Hm h fd:=
 have h1:=b2 e;have h2:=b2 h1.2;have h3:=b2 h2.2;have h4:=b2 h3.2;have h5:=b2 h4.2;have h6:=b2 h5.2;have h7:=D6 h6.2
 ⟨of_decide_eq_true h1.1,xE h2.1,xE h3.1,of_decide_eq_true h4.1,of_decide_eq_true h5.1,codeRec_of X h6.1,h7.1,h7.2⟩
noncomputable def Ta(p:A1)(vars:List (aI×Nat))(f:Nat)(F:C6):Bool:=(p.K.lookup (p.G.fnA f)).any λo=>Lu o.data λfd=>fd.closure.isEmpty&&(zF p.K fd&&Ap fd.body λl=>
 H3 fd.scope.names vars (fd.params.args.map (·.arg)) F&&(uO p.toLg F.body).S ⟨fd.scope.names,vars⟩ l)
theorem K1{p:A1}(X:p.K.In W.base)(nl:W.base.NoLimit){f:Nat}{F:C6}(e:Ta p vars f F=true):∃kinds vars stmts,Kv W (p.G.fnA f) F kinds vars stmts/\(uO p.toLg F.body).S ⟨kinds,vars⟩ stmts=true:=by
 refine mO (pX e) λo e1 e=>?_;refine mO (xQ e) λfd e2 e=>?_;have h1:=b2 e;have h2:=b2 h1.2;have C:=wj X h2.1;refine mO (wu h2.2) λl e3 e=>?_;have h3:=b2 e;exact⟨fd.scope.names,vars,l,⟨⟨⟨o,fd,fd.params.args.map (·.arg)⟩,X _ _ e1,e2,e3,rfl,C.kind,C.co,C.gen,ny h1.1,C.gl,C.bu,C.cr,λvals hl=>xd C.plain C.nodup hl,h3.1⟩,nl⟩,h3.2⟩
noncomputable def Eb(l:List Stmt)(attr:aI):Bool:=xT l λst Xd=>
 (Am st λx=>v6 x λg xs ks p=>ks.isEmpty&&((qT xs λy=>qw y λn=>n==("what" : aI))&&uz g λy n ap=>n==("__init__" : aI)&&(ap.endLine==p.line&&v6 y λg' xs' UX Z=>xs'.isEmpty&&(UX.isEmpty&&qw g' λn=>n==("super" : aI)))))&&
 vg Xd λzs x=>(qT zs λz=>uz z λy n Z=>n==attr&&qw y λn=>n==("self" : aI))&&qw x λn=>n==attr
structure w7 where
 p1:b8
 p2:b8
 p3:b8
 p4:b8
 p5:b8
 p6:b8
 p7:b8
 p8:b8
 p9:b8
 p10:b8
theorem JP{l:List Stmt}{P:List Stmt->Prop}(h:Eb l attr=true)(k:∀d:w7,(d.p3.endLine==d.p5.line)=true->P [.Expr (.Call (.Attribute (.Call (.Name "super" d.p1) [] [] d.p2) "__init__" d.p3) [.Name "what" d.p4] [] d.p5) d.p6,.Assign [.Attribute (.Name "self" d.p7) attr d.p8] (.Name attr d.p9) d.p10]):P l:=by
 apply wV h;refine λst Xd h=>rB h λh h'=>?_;apply Cm h;intro x p6 h;apply vj h;refine λg xs ks p5 h=>wi h λh1 h2 h3=>?_;rw[ny h1];apply pj h2;intro y h2;apply oJ h2;intro n p4 h2;rw[eq_of_beq h2];apply tK h3;refine λy n p3 h=>wi h λh1 hl h=>?_;rw[eq_of_beq h1];apply vj h;refine λg xs ks p2 h=>wi h λh1 h2 h=>?_;rw[ny h1,ny h2];apply oJ h;intro n p1 h;rw[eq_of_beq h];apply xP h';refine λzs x p10 h=>rB h λh h'=>?_;apply pj h;intro z h;apply tK h;refine λy n p8 h=>rB h λh1 h=>?_;rw[eq_of_beq h1];apply oJ h;intro m p7 h;rw[eq_of_beq h];apply oJ h';intro m p9 h;rw[eq_of_beq h];exact k ⟨p1,p2,p3,p4,p5,p6,p7,p8,p9,p10⟩ hl
theorem Ec{l:List Stmt}(h:Eb l attr=true):∃d:w7,l=[.Expr (.Call (.Attribute (.Call (.Name "super" d.p1) [] [] d.p2) "__init__" d.p3) [.Name "what" d.p4] [] d.p5) d.p6,.Assign [.Attribute (.Name "self" d.p7) attr d.p8] (.Name attr d.p9) d.p10]/\(d.p3.endLine==d.p5.line)=true:=
 JP (P:=λl=>∃d:w7,l=[.Expr (.Call (.Attribute (.Call (.Name "super" d.p1) [] [] d.p2) "__init__" d.p3) [.Name "what" d.p4] [] d.p5) d.p6,.Assign [.Attribute (.Name "self" d.p7) attr d.p8] (.Name attr d.p9) d.p10]/\(d.p3.endLine==d.p5.line)=true) h λd h=>⟨d,rfl,h⟩
noncomputable def Ih(K:cX)(file:aI)(f D:ai)(attr:aI)(params:List aI):Bool:=((K.lookup f).any λo=>decide (o.cls=.type "function")&&Lu o.data λfd=>(zF K fd&&(decide (fd.params.args.map (·.arg)=params)&&(fd.scope.names.all λx=>decide (x.2≠.cell))))&&(((params.all λx=>decide (fd.scope.names.lookup x=some .local))&&
 (decide (fd.scope.names.lookup ("super" : aI)=some .globalImplicit)&&decide (fd.scope.names.lookup ("__class__" : aI)=some .free)))&&((Ap fd.body λl=>Eb l attr)&&(((fd.closure.lookup ("__class__" : aI)).any λcc=>(K.lookup cc).any λoc=>I4 oc.data λv=>decide (v=some (.ref D)))&&
  (Jd fd.code λc=>(K.lookup c).any λoc=>I7 oc.data λvs=>(vs[2]?).any λv=>Au v λs=>file==s)))))&&
 ((K.lookup D).any λo=>I5 o.data λZ=>true)
theorem yR{base:aB}(X:K.In base){f D:ai}(e:Ih K prog.main.file f D attr params=true)(hs:params.head?=some "self")(hn:params.Nodup)(hw:("what" : aI)∈params)(ha:attr∈params)(hd:∀x∈params,(x==("__debug__" : aI))=false):
  uk prog base f D attr params:=by
 have e:=b2 e;refine mO (pX e.2) λoD eD hD=>?_;refine mO (y8 hD) λcD eD2 Z=>?_;refine mO (pX e.1) λo e1 h=>?_;have h:=b2 h;refine mO (xQ h.2) λfd e2 h'=>?_;have h1:=b2 h';have h2:=b2 h1.1;have h3:=b2 h2.2;have h4:=b2 h1.2;have h5:=b2 h4.1;have h6:=b2 h5.2;have h7:=b2 h4.2;have h8:=b2 h7.2;have C:=wj X h2.1;refine mO (wu h7.1) λl e3 hl=>?_;refine mO (Ec hl) λd hb UM=>?_;refine mO (pX h8.1) λcc e4 hc=>?_;refine mO (pX hc) λoc e5 hc=>?_;refine mO (DP hc) λv e6 hc=>?_;refine mO (za h8.2) λcda e7 hf=>?_;refine mO (pX hf) λZD e8 hf=>?_;refine mO (DR hf) λvs e9 hf=>?_;refine mO (pX hf) λv2 e10 hf=>?_;refine nr (uA hf) λfl tf e11 hf=>?_;have hp:fd.params.args.map (·.arg)=params:=of_decide_eq_true h3.1
 obtain ⟨ar,hh,har⟩:∃ar,(fd.params.posonlyargs++fd.params.args).head?=some ar/\ar.arg = "self" := by
  rw[C.plain.pos,List.nil_append];rw[<-hp,List.head?_map] at hs;exact (ms hs).elim λar x=>⟨ar,x.1,x.2⟩
 exact⟨⟨⟨o,fd,d.p1,d.p2,d.p3,d.p4,d.p5,d.p6,d.p7,d.p8,d.p9,d.p10,cc,cda,ZD,vs,fl,tf,ar⟩,X _ _ e1,e2,of_decide_eq_true h.1,by rw[e3,hb],UM,C.kind,C.co,C.gen,λx hx=>of_decide_eq_true (aJ.mp h3.2 x hx),
  λx hx=>of_decide_eq_true (aJ.mp h5.1 x hx),of_decide_eq_true h6.1,of_decide_eq_true h6.2,e4,⟨oc,X _ _ e5,by rw[e6,of_decide_eq_true hc]⟩,C.gl,C.bu,C.cr,e7,X _ _ e8,e9,by rw[e10,e11],hf,hh,har,
  λvals hl=>by rw[xd C.plain C.nodup (by rw[hl,hp]),hp]⟩,hn,List.mem_of_mem_head? (by rw[hs];exact rfl),hw,ha,hd,oD,cD,X _ _ eD,eD2⟩
noncomputable def sN{α:Type}(f:Nat->α->Bool):List α->Nat->Bool
 |[],_=>true
 |x::r,i=>f i x&&sN f r (i+1)
theorem F2{f:Nat->α->Bool}{l:List α}:∀{i:Nat},sN f l i=true->∀{k:Nat} {x:α},l[k]?=some x->f (i+k) x=true:=by
 induction l with
 |nil=>exact λZ Z Z e=>nomatch e
 |cons y r ih=>
  intro i h k x e;have h:=b2 h
  cases k with
  |zero=>rw[<-ae (show some y=some x from e)];exact h.1
  |succ k=>rw[<-cL,bT];exact ih h.2 e
theorem pu{f:Nat->α->Bool}{l:List α}(h:sN f l 0=true){k:Nat}{x:α}(e:l[k]?=some x):f k x=true:=by
 have:=F2 h e
 rwa [gu] at this
noncomputable def D9(o:eT)(n:String):Bool:=decide (o.cls=.type n)&&(o.dict.isNone&&o.slots.toList.isEmpty)
theorem yc{o:eT}{n:String}(h:D9 o n=true):o={cls:=.type n,dict:=none,data:=o.data,slots:=#[]}:=by
 have h1:=b2 h;have h2:=b2 h1.2;obtain ⟨c,d,dt,⟨sl⟩⟩:=o;have e1:c=.type n:=of_decide_eq_true h1.1;have e2:d=none:=rE h2.1;have e3:sl=[]:=ny h2.2;rw[e1,e2,e3]
section
variable (K:cX)(S:List aI)
mutual
noncomputable def LC:V->af->Bool
 |.bool b,y=>y==.bool b
 |.int i,y=>(match y with | .int j _=>i==j | _=>false)
 |.sym k,y=>Au y λs=>S[k]?==some s
 |.tup l,y=>Jd y λa=>(K.lookup a).any λo=>D9 o "tuple" && onSeq o.data λxs=>decide (xs.length<=bp)&&Jq l xs
 |_,_=>false
noncomputable def Jq:List V->List af->Bool
 |[],xs=>xs.isEmpty
 |v::l,xs=>oW xs λx r=>LC v x&&Jq l r
end
end
section
mutual
theorem xY(X:K.In W.base)(hh:∀a∈W.hid,W.base.get? a=none):∀{v:V} {y:af},LC K W.S v y=true->mT W [] W.base v y
 |.bool _,_,h=>eq_of_beq h
 |.int i,y,h=>by
  cases y with
  |int j t=>exact⟨t,by rw[eq_of_beq (show (i==j)=true from h)]⟩
  |_=>exact mP h
 |.sym _,_,h=>by
  refine nr (uA h) λs t e h=>?_;exact⟨s,t,eq_of_beq h,e⟩
 |.tup l,_,h=>by
  refine mO (za h) λa e h=>?_;refine mO (pX h) λo e1 h=>?_;have h:=b2 h;refine nr (GF h.2) λxs n e2 h'=>?_;have h':=b2 h';have e3:=yc h.1;rw[e2] at e3;have e4:=X _ _ e1;exact⟨a,xs.toList,n,e,⟨λhm=>(nomatch hm),λhm=>mV ((hh a hm).symm.trans e4)⟩,of_decide_eq_true h'.1,e4.trans (congrArg some e3),ze X hh h'.2⟩
 |.none,_,h=>mP h
 |.txt _,_,h=>mP h
 |.lst _,_,h=>mP h
 |.dct _,_,h=>mP h
 |.obj _,_,h=>mP h
theorem ze(X:K.In W.base)(hh:∀a∈W.hid,W.base.get? a=none):∀{l:List V} {ys:List af},Jq K W.S l ys=true->nf W [] W.base l ys
 |[],_,h=>ny h
 |v::l,_,h=>by
  refine nr (oX h) λx r e h=>?_;exact⟨x,r,e,xY X hh (b2 h).1,ze X hh (b2 h).2⟩
end
end
noncomputable def NR(K:cX)(S:List aI):List (Nat×V)->List fg->Bool
 |[],es=>es.isEmpty
 |(k,v)::l,es=>oW es λe r=>(Au e.key λs=>S[k]?==some s)&&(LC K S v e.val&&NR K S l r)
noncomputable def uY(K:cX)(a:ai):List Int:=match K.lookup a with
 |some o=>match o.data with
  |.dict es _=>es.toList.map (·.hash)
  |_=>[]
 |none=>[]
theorem HU(X:K.In W.base)(hh:∀a∈W.hid,W.base.get? a=none){l:List (Nat×V)}:∀{es:List fg},NR K W.S l es=true->∀{ss:List aI},(l.map λp=>W.S[p.1]?)=ss.map some->es.map (·.hash)=ss.map (lp W.w)->
  ∃kvs,(∀e∈es,∃k,(aC W.prog W.w).is k e.key=true/\e.hash=(aC W.prog W.w).hash k)/\Pairs (aC W.prog W.w) es kvs/\kvs.map (·.1)=ss/\n8 W [] W.base l kvs:=by
 induction l with
 |nil=>
  intro es h ss e1 e2;rw[ny h] at e2 ⊢
  cases ss with
  |nil=>exact⟨[],λZ hm=>(nomatch hm),.nil,rfl,rfl⟩
  |cons _ _=>exact nomatch e1
 |cons p l ih=>
  intro es h ss e1 e2;obtain ⟨k,v⟩:=p;refine nr (oX h) λe r ee h=>?_;have h:=b2 h;have h':=b2 h.2;refine nr (uA h.1) λs t Uu hs=>?_
  cases ss with
  |nil=>exact nomatch e1
  |cons s' ss=>
   have e1:=dP e1;rw[ee] at e2 ⊢;have e2:=dP e2;refine n9 (ih h'.2 e1.2 e2.2) λkvs k1 k2 k3 k4=>?_;have q:s=s':=ae ((eq_of_beq hs).symm.trans e1.1)
   have is:(aC W.prog W.w).is s' e.key=true:=by rw[Uu,q];exact beq_self_eq_true s'
   refine⟨(s',e.val)::kvs,λe' hm=>?_,.cons is rfl k2,congrArg (s'::·) k3,s',e.val,kvs,rfl,e1.1,xY X hh h'.1,k4⟩
   rcases aA.mp hm with z | z
   .rw[z];exact⟨s',is,e2.1⟩
   .exact k1 e' z
noncomputable def Qd(K:cX)(S:List aI)(l:List (Nat×V))(a:ai):Bool:=decide (a≠dJ)&&(K.lookup a).any λo=>D9 o "dict" && MK o.data λes=>NR K S l es
theorem HQ(X:K.In W.base)(hh:∀a∈W.hid,W.base.get? a=none){l:List (Nat×V)}{a:ai}(h:Qd K W.S l a=true){ss:List aI}(e1:(l.map λp=>W.S[p.1]?)=ss.map some)(nd:ss.Nodup)(e2:uY K a=ss.map (lp W.w)):mT W [] W.base (.dct l) (.ref a):=by
 have h:=b2 h;refine mO (pX h.2) λo e h'=>?_;have h':=b2 h';refine nr (GC h'.2) λes n e3 UE=>?_;have e4:=yc h'.1
 have e5:es.toList.map (·.hash)=ss.map (lp W.w):=by
  unfold uY at e2;rw[e] at e2;dsimp only at e2;rw[e3] at e2;exact e2
 refine n9 (HU X hh UE e1 e5) λkvs k1 k2 k3 k4=>?_;exact⟨a,kvs,rfl,⟨λhm=>(nomatch hm),o,X _ _ e⟩,of_decide_eq_true h.1,⟨o,es,n,X _ _ e,by rw[e4];exact⟨rfl,rfl,rfl⟩,e3,λx hx=>k1 x (i9.mpr hx),k2,by rw[k3];exact nd⟩,k4⟩
noncomputable def P8(K:cX)(C:ai)(attrs:List aI):Bool:=decide (dj K (.ref C) "__getattribute__" = some (some (.builtin "object.__getattribute__")))&&(decide (dj K (.ref C) "__getattr__" = some none)&&(decide (dj K (.ref C) "__setattr__" = some (some (.builtin "object.__setattr__")))&&
 (plainOver K C&&((mI K C).any (·.hasDict)&&attrs.all λx=>decide (dj K (.ref C) x=some none)))))
theorem HI(h:P8 K C attrs=true):qO K C attrs:=
 have h1:=b2 h;have h2:=b2 h1.2;have h3:=b2 h2.2;have h4:=b2 h3.2;have h5:=b2 h4.2
 ⟨of_decide_eq_true h1.1,of_decide_eq_true h2.1,of_decide_eq_true h3.1,h4.1,h5.1,λx hx=>of_decide_eq_true (aJ.mp h5.2 x hx)⟩
noncomputable def Qw(K:cX)(C:ai):Bool:=(K.lookup C).any λo=>decide (o.cls=.type "type")&&((I5 o.data λcd=>!cd.hasDel&&oW cd.mro λv bm=>decide (v=.ref C)&&(bm.contains (.type "BaseException")&&(bm.contains (.type "Exception")&&(!bm.contains (.type "AttributeError")&&!bm.contains (.type "NameError")))))&&
 oW o.slots.toList λZ l=>oW l λZ l=>oW l λZ l=>oW l λZ l=>xT l λx Z=>decide (x=some (.builtin "Exception.__new__")))
theorem HY{base:aB}(X:K.In base)(h:Qw K C=true):∃p,base.get? C=some (A4.obj p C "Exception.__new__")/\p.bm.contains (.type "BaseException")=true/\p.bm.contains (.type "Exception")=true/\p.bm.contains (.type "AttributeError")=false/\p.bm.contains (.type "NameError")=false:=by
 refine mO (pX h) λo e h=>?_;have h:=b2 h;have h':=b2 h.2;refine mO (y8 h'.1) λcd e1 h1=>?_;have h1:=b2 h1;refine nr (oX h1.2) λv bm e2 h2=>?_;have h2:=b2 h2;have h3:=b2 h2.2;have h4:=b2 h3.2;have h5:=b2 h4.2;refine nr (oX h'.2) λk0 l0 f0 g=>?_;refine nr (oX g) λk1 l1 f1 g=>?_;refine nr (oX g) λk2 l2 f2 g=>?_;refine nr (oX g) λk3 l3 f3 g=>?_;refine nr (GH g) λk4 k5 f4 g=>?_;obtain ⟨oc,od,Yd,⟨sl⟩⟩:=o;obtain ⟨nm,bs,mro,ns,qn,hd,sn,sub,ab,col,del⟩:=cd;have q1:oc=.type "type" := of_decide_eq_true h.1;have q2:Yd=.cls ⟨nm,bs,mro,ns,qn,hd,sn,sub,ab,col,del⟩:=e1;have q3:mro=v::bm:=e2;have q4:v=.ref C:=of_decide_eq_true h2.1;have q5:del=false:=xE h1.1
 have q6:sl=[k0,k1,k2,k3,some (.builtin "Exception.__new__"),k5]:=by
  rw[show sl=k0::l0 from f0,f1,f2,f3,f4,of_decide_eq_true g]
 rw[q1,q2,q3,q4,q5,q6] at e;exact⟨⟨nm,qn,ns,bs,bm,hd,sn,sub,ab,col,od,k0,k1,k2,k3,k5⟩,X _ _ e,h3.1,h4.1,xE h5.1,xE h5.2⟩
structure C2 extends Lg where
 as:List ai
 ml:List ((Nat×Nat)×Nat)
 il:List (Nat×Nat)
 fns:List C6
 vars:List (List (aI×Nat))
 cls:Nat->ai
 clsL:List ai
 exc:ai
 kd:S5
 file:aI
 mro:List af
 dicts:List (Nat×ai×List aI)
noncomputable def C2.P(c:C2):Pg:=c.G.P
structure yF(c:C2):Prop where
 meth:∀k cl f,c.P.meth cl k=some f->((cl,k),f)∈c.ml
 init:∀cl f,c.P.init cl=some f->(cl,f)∈c.il
 fn:∀f,c.P.fn f=c.fns[f]?
 cls:∀n,c.cls n∈c.clsL
 nodup:c.S.Nodup
 order:c.S.Pairwise λa b=>fH a.cps.toList b.cps.toList=true
 strOk:∀s∈c.S,dD s=true
 slenLe:∀k:Nat,c.P.slen k<=bp
 slen:∀(k:Nat) (s:aI),c.S[k]?=some s->s.length<=c.P.slen k
 pick:∀(a:Nat) (i:Int) (d:Nat) (s:aI),c.P.pick a i=some d->c.S[a]?=some s->0<=i/\i < 2 ^ 62/\(lC s i).isSome=true/\c.S[d]?=some (mH s i)
 pass:∀self,lM self "__setattr__" c.mro=pure ()
noncomputable def Il(K:cX)(a:ai):Bool:=(K.lookup a).any λo=>Lu o.data λZ=>true
noncomputable def SJ(K:cX)(x:aI)(v:af):Bool:=decide (nsIn K b6 x=some (some v))
noncomputable def O7(K:cX)(a:ai):Bool:=decide (jP K (.ref a)=some (.type "function"))
noncomputable def Qe(c:C2)(K:cX)(k:Nat)(y:af)(d:Nat×ai×List aI):Bool:=decide (y=.ref d.2.1)&&(Dq (c.P.const k)).any λl=>Qd K c.S l d.2.1&&(decide ((l.map λp=>c.S[p.1]?)=d.2.2.map some)&&decide d.2.2.Nodup)
noncomputable def P9(c:C2)(K:cX)(k:Nat)(x:aI):Bool:=(nsIn K b6 x).any λo=>o.any λy=>LC K c.S (c.P.const k) y||c.dicts.any (Qe c K k y)
noncomputable def MG(c:C2)(K:cX)(m:(Nat×Nat)×Nat):Bool:=(c.S[m.1.2]?).all λnm=>decide (dj K (.ref (c.cls m.1.1)) nm=some (some (.ref (c.G.fnA m.2))))&&(O7 K (c.G.fnA m.2)&&Il K (c.G.fnA m.2))
noncomputable def Q9(c:C2)(K:cX)(m:Nat×Nat):Bool:=makesIn K (c.cls m.1)&&(decide (dj K (.ref (c.cls m.1)) "__init__" = some (some (.ref (c.G.fnA m.2))))&&O7 K (c.G.fnA m.2))
noncomputable def TR(c:C2)(K:cX):Bool:=(decide (nsIn K cStatics "thirdparty.any" = some none)&&(Qw K c.exc&&(decide (dj K (.ref c.exc) "__setattr__" = some (some (.builtin "object.__setattr__")))&&((mI K c.exc).any (λcd=>cd.hasDict&&decide (cd.mro=c.mro))&&(decide (iX K c.exc (.type "object")=some true)&&decide (iX K c.exc (.type "Exception")=some true))))))&&
 ((Ih K c.file c.kd.f1 c.kd.D1 "spot" ["self", "what", "spot"]&&Ih K c.file c.kd.f0 c.kd.D0 "what" ["self", "what"])&&((decide (iX K c.exc (.ref c.kd.D1)=some true)&&(decide (iX K c.exc (.ref c.kd.D0)=some true)&&(decide (eA K c.exc c.kd.D1 "__init__" = some (some (.ref c.kd.f0)))&&(fnIn K c.kd.f0&&decide (eA K c.exc c.kd.D0 "__init__" = some (some (.builtin "Exception.__init__")))))))&&
 ((decide (fy K c.exc "spot" = some none)&&decide (fy K c.exc "what" = some none))&&(decide (dj K (.ref c.exc) "__init__" = some (some (.ref c.kd.f1)))&&O7 K c.kd.f1))))
noncomputable def Te(c:C2)(K:cX):Bool:=(sN (P9 c K) c.G.nm.cn 0&&(sN (λf (o:Option aI)=>o.all λx=>SJ K x (.ref (c.G.fnA f))&&Il K (c.G.fnA f)) c.G.nm.fnm 0&&(sN (λk x=>SJ K x (.ref (c.cls k))) c.G.nm.cnm 0&&(SJ K "KindFault" (.ref c.exc)&&qp.all λx=>decide (nsIn K b6 x=some none)))))&&
 (((c.clsL.all λa=>P8 K a c.attrs)&&(c.ml.all (MG c K)&&c.il.all (Q9 c K)))&&((TR c K&&(K.lookup dJ).isSome)&&sN (λf F=>Ta ⟨c.toLg,K,λZ=>none,λZ=>none⟩ ((c.vars[f]?).getD []) f F) c.fns 0))
structure Gives(c:C2)(w:cM)(h:aB)(K:cX):Prop where
 kin:K.In h
 ok:Te c K=true
 hash:(c.dicts.map λd=>uY K d.2.1)=c.dicts.map λd=>d.2.2.map (lp w)
noncomputable def H8(c:C2):Hook where
 α:=Bool×List (List Int)
 obs:=λs=>(c.as.all (λa=>(s.heap.get? a).isSome)&&Te c (fragOf c.as s.heap),c.dicts.map λd=>uY (fragOf c.as s.heap) d.2.1)
 val:=λw=>(true,c.dicts.map λd=>d.2.2.map (lp w))
 says:=λw h=>∃K,Gives c w h K
 of:=λw s e=>⟨fragOf c.as s.heap,K2 (b2 (congrArg Prod.fst e)).1,(b2 (congrArg Prod.fst e)).2,congrArg Prod.snd e⟩
 keeps:=λw h h' zq k=>m4 zq λK g=>⟨K,g.kin.keeps k,g.ok,g.hash⟩
theorem Gw{f g:α->β}{l:List α}:l.map f=l.map g->∀x∈l,f x=g x:=by
 induction l with
 |nil=>exact λZ Z h=>nomatch h
 |cons y l ih=>
  intro e x hx;have e:=dP e
  rcases aA.mp hx with q | q
  .rw[q];exact e.1
  .exact ih e.2 x q
noncomputable abbrev C2.wd(c:C2)(prog:bA)(w:cM)(h:aB)(ws:List ai):Wd:={prog:=prog,w:=w,S:=c.S,base:=h,cls:=c.cls,exc:=c.exc,hid:=ws}
structure Told(prog:bA)(h:aB)(mg mb:aI->Option af):Prop where
 g:h.Ns b6 mg
 b:h.Ns dG mb
 nolimit:h.NoLimit
 builtins:∀x:aI,x≠"__name__" -> mb x=gv x
 top:(prog.main.scope.names.lookup ("super" : aI)).isSome=false
section
variable {c:C2}{prog:bA}{w:cM}{h:aB}{K:cX}{mg mb:aI->Option af}
theorem KR(G:Gives c w h K)(T:Told prog h mg mb)(hh:∀a∈ws,h.get? a=none){k:Nat}{x:aI}(e:P9 c K k x=true):∃y,mg x=some y/\mT (c.wd prog w h ws) [] h (c.P.const k) y:=by
 refine mO (pX e) λo e1 e=>?_;refine mO (pX e) λy e2 e=>?_;refine⟨y,mg_of G.kin T.g (e2▸e1),?_⟩
 rcases Bm e with e | e
 .exact xY (W:=c.wd prog w h ws) G.kin hh e
 .refine mO (bU.mp e) λd hd e=>?_;have e:=b2 e;refine mO (pX e.2) λl e3 e'=>?_;have e':=b2 e';have Vc:=b2 e'.2;rw[of_decide_eq_true e.1,wQ e3];exact HQ (W:=c.wd prog w h ws) G.kin hh e'.1 (of_decide_eq_true Vc.1) (of_decide_eq_true Vc.2) (Gw G.hash d hd)
theorem yT(X:K.In h){a:ai}(e:Il K a=true):∃o fd,h.get? a=some o/\o.data=.func fd:=by
 refine mO (pX e) λo e1 e=>?_;refine mO (xQ e) λfd e2 Z=>?_;exact⟨o,fd,X _ _ e1,e2⟩
theorem B4:∀x∈qp,x≠("__name__" : aI):=by decide
theorem EU(G:Gives c w h K)(T:Told prog h mg mb)(hh:∀a∈ws,h.get? a=none):oR c.G (c.wd prog w h ws) mg mb:=by
 have h1:=b2 (b2 G.ok).1;have h2:=b2 h1.2;have h3:=b2 h2.2;have h4:=b2 h3.2
 exact⟨T.g,T.b,λk x e=>KR G T hh (pu h1.1 e),λf x e=>mg_of G.kin T.g (of_decide_eq_true (b2 (pu h2.1 e)).1),λk x e=>mg_of G.kin T.g (of_decide_eq_true (pu h3.1 e)),mg_of G.kin T.g (of_decide_eq_true h4.1),
  λx hx=>⟨ns_none_of G.kin T.g (of_decide_eq_true (aJ.mp h4.2 x hx)),T.builtins x (B4 x hx)⟩⟩
theorem Mk(C:yF c)(G:Gives c w h K):ot (c.wd prog w h ws) c.P:=by
 have h1:=b2 (b2 G.ok).2;have h2:=b2 h1.2;have h3:=b2 h2.1;refine m4 (aV.mp h3.2) λo e=>?_;exact⟨C.nodup,C.order,C.strOk,⟨o,G.kin _ _ e⟩,C.slenLe,C.slen,C.pick⟩
theorem QL(C:yF c)(G:Gives c w h K)(T:Told prog h mg mb)(hf:prog.main.file=c.file):Kf (c.wd prog w h ws) K mg mb:=by
 have h1:=b2 (b2 G.ok).2;have h2:=b2 h1.2;have h3:=b2 (b2 h2.1).1;have g1:=b2 h3.1;have g2:=b2 g1.2;have g3:=b2 g2.2;have g4:=b2 g3.2;have g5:=b2 g4.2;have f1:=b2 h3.2;have f2:=b2 f1.1;have f3:=b2 f1.2;have f4:=b2 f3.1;have f5:=b2 f4.2;have f6:=b2 f5.2;have f7:=b2 f6.2;have f8:=b2 f3.2;have f9:=b2 f8.1;have f10:=b2 f8.2;refine mO (pX g4.1) λcd e1 e2=>?_;have e2:=b2 e2;have bu:=(b2 (b2 (b2 (b2 (b2 G.ok).1).2).2).2).2
 have hs:("super" : aI)∈qp:=by decide
 refine⟨⟨G.kin,T.nolimit,T.g,T.b,⟨ns_none_of G.kin T.g (of_decide_eq_true (aJ.mp bu _ hs)),(T.builtins _ (B4 _ hs)).trans (by kernel_rfl)⟩,T.top,of_decide_eq_true g1.1,HY G.kin g2.1,⟨_,PySem.F.excBase_Exception⟩,of_decide_eq_true g3.1,
  ⟨cd,e1,e2.1,λself=>by rw[of_decide_eq_true e2.2];exact C.pass self⟩,of_decide_eq_true g5.1,of_decide_eq_true g5.2⟩,c.kd,?_,?_,of_decide_eq_true f4.1,of_decide_eq_true f5.1,of_decide_eq_true f6.1,f7.1,of_decide_eq_true f7.2,of_decide_eq_true f9.1,of_decide_eq_true f9.2,of_decide_eq_true f10.1,of_decide_eq_true f10.2⟩
 .exact yR G.kin (by rw[hf];exact f2.1) rfl (by decide) (by decide) (by decide) (by decide)
 .exact yR G.kin (by rw[hf];exact f2.2) rfl (by decide) (by decide) (by decide) (by decide)
theorem LB(C:yF c)(G:Gives c w h K)(T:Told prog h mg mb):Hp ⟨c.toLg,K,mg,mb⟩ (c.wd prog w h ws):=by
 intro f F e;have h1:=(b2 (b2 (b2 G.ok).2).2).2;exact K1 (p:=⟨c.toLg,K,mg,mb⟩) (W:=c.wd prog w h ws) G.kin T.nolimit (pu h1 ((C.fn f).symm.trans e))
def C8(p:A1)(W:Wd):Prop:=∀{d:Nat} {C:Call} {c:Cx} {q:Bool} {A:aH} {a b:MX} {x y:aa} {Wp VP VA pos U9:b8},oN A c q d->nN c.ck "sorted" = true->nN c.ck "set" = true->nj x=true->nj y=true->nc p.G.P W c q A C a x->nc p.G.P W c q A C b y->
  nc p.G.P W c q A C (.sset a b) (.Call (.Name "sorted" Wp) [.Call (.Name "set" VP) [.List [x,y] VA] [] U9] [] pos)
theorem NS(C:yF c)(G:Gives c w h K)(T:Told prog h mg mb)(hf:prog.main.file=c.file)(hs:∀W,oR c.G W mg mb->ot W c.P->C8 ⟨c.toLg,K,mg,mb⟩ W):Mo ⟨c.toLg,K,mg,mb⟩ (c.wd prog w h []):=by
 intro ws hw;have hh:∀a∈ws++[],h.get? a=none:=λa ha=>hw a ((ba ws)▸ha);have gl:=EU (prog:=prog) G T hh;have wk:=Mk (prog:=prog) (ws:=ws++[]) C G;have h1:=b2 (b2 G.ok).2;have h2:=b2 h1.1;have h3:=b2 h2.2;have f1:=b2 (b2 (b2 G.ok).1).2
 exact⟨gl,wk,rfl,G.kin,λn=>HI (aJ.mp h2.1 _ (C.cls n)),λf x e=>yT G.kin (b2 (pu f1.1 e)).2,λk nm cl f e1 e2=>(by
   have m:=aJ.mp h3.1 _ (C.meth k cl f e2);unfold MG at m;rw[show c.S[k]?=some nm from e1] at m;have m:=b2 m;have m2:=b2 m.2
   exact⟨⟨of_decide_eq_true m.1,of_decide_eq_true m2.1⟩,yT G.kin m2.2⟩),λcl f e=>(by
   have m:=b2 (aJ.mp h3.2 _ (C.init cl f e));have m2:=b2 m.2
   exact⟨m.1,of_decide_eq_true m2.1,of_decide_eq_true m2.2⟩),QL C G T hf,hs _ gl wk⟩
end
noncomputable def zL:List Nat:=[184,191,198,205,219,226,233,240,247,268,275,280,287,294,301,308,315,336,343,350,364,371,378,390,397,404,411,425,430,435,442,447,454,459,466,473,480,506,513,520,525,532,539,544,549,556,563,568,573,578,585,592,597]
noncomputable def SY:List aI:=O3.map bw
noncomputable def Iu(v:V):List aI:=((Dq v).getD []).map λp=>(SY[p.1]?).getD ""
noncomputable def c2:C2 where
 G:={P:=L2.pg,nm:={S:=SY,cn:=L2.cnames.map bw,fnm:=L2.fnms.map λn=>n.map bw,cnm:=["Names", "Kinds"].map bw},fnA:=λf=>(zL[f]?).getD 0}
 S:=SY
 attrs:=["scopes", "asked", "names", "predicates", "asks", "assigned", "is_shown", "called"].map bw
 as:=[3,2,1,81,80,69,68,40,39,250,249,483,482,18,47,59,58,30,29]++zL++zL.map (· - 1)++dn 84 94++dn 488 16
 ml:=L2.meths
 il:=L2.inits
 fns:=L2.fns
 vars:=L2.varss.map λl=>l.map λp=>(bw p.1,p.2)
 cls:=λn=>match n with | 0=>250 | _=>483
 clsL:=[250,483]
 exc:=81
 kd:=⟨59,30,69,40⟩
 file:=bD.prog.main.file
 mro:=[.ref 81,.ref 69,.ref 40,.type "Exception",.type "BaseException",.type "object"]
 dicts:=[(12,96,Iu L2.g_CALLS),(14,488,Iu L2.g__law_world)]
noncomputable def DY:List aI->Bool
 |[]=>true
 |a::l=>l.all (λb=>fH a.cps.toList b.cps.toList&&decide (a≠b))&&DY l
theorem xV{l:List aI}:DY l=true->l.Nodup/\l.Pairwise λa b=>fH a.cps.toList b.cps.toList=true:=by
 induction l with
 |nil=>exact λZ=>⟨.nil,.nil⟩
 |cons a l ih=>
  intro h;have h:=b2 h;have h':=ih h.2;exact⟨bM.mpr ⟨λhm=>of_decide_eq_true (b2 (aJ.mp h.1 a hm)).2 rfl,h'.1⟩,.cons (λb hb=>(b2 (aJ.mp h.1 b hb)).1) h'.2⟩
theorem CN:DY SY=true:=by kernel_rfl
theorem Rs:SY.all dD=true:=by kernel_rfl
theorem LX:sN (λk (s:aI)=>decide (s.length<=L2.pg.slen k)) SY 0=true:=by kernel_rfl
theorem Rn:L2.slens.all (λn=>decide (n<=bp))=true:=by kernel_rfl
theorem Lz:L2.picks.all (λm=>(SY[m.1.1]?).all λs=>decide (0<=m.1.2)&&(decide (m.1.2 < 2 ^ 62)&&((lC s m.1.2).isSome&&decide (SY[m.2]?=some (mH s m.1.2)))))=true:=by kernel_rfl
theorem xv[BEq α][LawfulBEq α]{l:List (α×β)}{a:α}{b:β}:l.lookup a=some b->(a,b)∈l:=by
 induction l with
 |nil=>exact mV
 |cons p l ih=>
  intro h;rw[show p=(p.1,p.2) from rfl,cA] at h
  by_cases q:(a==p.1)=true
  .rw[q] at h;rw[eq_of_beq q,<-ae h];exact ah
  .rw[b9.mpr q] at h;exact ao _ (ih h)
theorem Ni{o:Option α}{f:α->Bool}(h:o.all f=true):∀a,o=some a->f a=true:=by
 intro a e;rw[e] at h;exact h
theorem P4:yF c2 where
 meth:=λk cl f e=>xv (l:=L2.meths) e
 init:=λcl f e=>xv (l:=L2.inits) e
 fn:=λZ=>rfl
 cls:=λn=>by
  cases n with
  |zero=>exact ah
  |succ n=>exact ao _ ah
 nodup:=(xV CN).1
 order:=(xV CN).2
 strOk:=λs hs=>aJ.mp Rs s hs
 slenLe:=λk=>by
  show (L2.slens[k]?).getD 0<=bp
  cases e:L2.slens[k]? with
  |none=>exact bc _
  |some n=>exact of_decide_eq_true (aJ.mp Rn n (aF e))
 slen:=λk s e=>of_decide_eq_true (pu LX e)
 pick:=λa i d s e1 e2=>by
  have h0:=Ni (aJ.mp Lz _ (xv (l:=L2.picks) e1)) s e2;have h:=b2 h0;have h2:=b2 h.2;have h3:=b2 h2.2;exact⟨of_decide_eq_true h.1,of_decide_eq_true h2.1,h3.1,of_decide_eq_true h3.2⟩
 pass:=λself=>by kernel_rfl
theorem K9{P:Params}{ds:List WData}:∀{vs:List af},WellAll P h vs ds->lj [] ds .int=true->∃xs:List Int,xs.length=ds.length/\nf W [] h (xs.map .int) vs:=by
 induction ds with
 |nil=>
  intro vs w _
  cases w
  exact⟨[],rfl,rfl⟩
 |cons d ds ih=>
  intro vs w e
  cases w with
  |@cons v vs _ _ w ws=>
   have e:=b2 e;refine mO (ih ws e.2) λxs hl r=>?_
   cases w with
   |int i t=>exact⟨i::xs,congrArg (·+1) hl,_,_,rfl,⟨t,rfl⟩,r⟩
   |_=>exact mP e.1
theorem Iz{P:Params}{args:List WData}(hw:WellAll P h vals args)(hs:l5 [] args [.list .int]=true)(hid:W.hid=[])(hl:∀xs,args=[.list xs]->xs.length<=1000):∃xs:List Int,xs.length<=1000/\nf W [] h [.lst (xs.map .int)] vals:=by
 cases args with
 |nil=>exact mP hs
 |cons d r=>
  have e:=b2 hs
  cases r with
  |cons _ _=>exact mP e.2
  |nil=>
   cases hw with
   |@cons v vs _ _ w ws=>
    cases ws
    cases w with
    |@list a vs ds ho hwa=>
     have e1:lj [] ds .int=true:=(jB _).symm.trans e.1;refine mO (K9 (W:=W) hwa e1) λxs hx r=>?_;refine⟨xs,by rw[hx];exact hl ds rfl,_,_,rfl,⟨a,vs,0,rfl,⟨λhm=>(nomatch hm),by rw[hid];exact λhm=>(nomatch hm)⟩,?_,ho,r⟩,rfl⟩;rw[r.length,aU,hx];exact az (hl ds rfl) (by decide)
    |_=>exact mP e.1
theorem Ke{c:C2}(C:yF c)(T:Told prog TW.heap mg mb)(G:Gives c w TW.heap K)(hf:prog.main.file=c.file)(hs:∀W,oR c.G W mg mb->ot W c.P->C8 ⟨c.toLg,K,mg,mb⟩ W){fL:Nat}{nm:aI}(hn:c.G.nm.fnm[fL]?=some (some nm)){a:ai}(ha:mg nm=some (.ref a))(hd:d<=230){args:List WData}(hw:WellAll w.params TW.heap vals args)(ZM:l5 [] args [.list .int]=true)(hl:∀xs,args=[.list xs]->xs.length<=1000)(plain:∀xs:List Int,xs.length<=1000->∃σ',oP c.P d false fL [.lst (xs.map .int)] []=.ok (.bool true) σ')(hQ:∀s',(∀b o,TW.heap.get? b=some o->s'.heap.get? b=some o)->s'.os=TW.os->s'.gens=TW.gens->Q (.bool true) s'):an (aO prog w) callerA (call (.ref a) vals) Q E TW:=by
 have env:=KQ (p:=⟨c.toLg,K,mg,mb⟩) (NS C G T hf hs) (LB C G T) d;have gl:=EU (prog:=prog) (ws:=[]) G T (λZ hm=>nomatch hm);have e:a=c.G.fnA fL:=bJ.inj (ae (ha.symm.trans (gl.fns fL nm hn)));refine mO (Iz (W:=c.wd prog w TW.heap []) hw ZM rfl hl) λxs Yi r=>?_;refine m4 (plain xs Yi) λσ' p=>?_;have inv:Inv (c.wd prog w TW.heap []) [] [] TW.heap:=⟨λZ Z e=>e,rfl,.nil,λZ hm=>(nomatch hm),λZ hm=>(nomatch hm),λZ Z Z e Z=>(nomatch e)⟩;rw[e];refine fc (env.now.ck (W:=c.wd prog w TW.heap []) (q:=false) (A:=callerA) (l:=[]) ⟨rfl,?_,?_,λZ=>rfl⟩ trivial inv r ?_)
 .show 1+claimMargin+3 * d+3<=1000;have:claimMargin=300:=rfl;omega
 .show 4+20 * d+200<=9900;omega
 .show s5 _ _ _ (oP c.P d false fL [.lst (xs.map .int)] []) _;rw[p];intro TV y s' g rv;rw[show y=.bool true from rv];exact hQ s' g.inv.base g.os g.gens
noncomputable abbrev setO(es:Array (Int×af))(ep:Nat)(t:eX):eT:={cls:=.type "set",dict:=none,data:=.set es ep t,slots:=#[]}
theorem Cv(t:eX)(n:Nat):(t.orStandIn n).led=t.led/\(t.plain=false->(t.orStandIn n).plain=false):=by
 unfold eX.orStandIn
 split
 .exact⟨rfl,id⟩
 .exact⟨rfl,λZ=>rfl⟩
theorem DA(t:eX)(es:Array (Int×af))(h:Int)(x:af):(layNew t es h x).2.1.led=t.led/\(t.plain=false->(layNew t es h x).2.1.plain=false):=by
 unfold layNew
 split
 .exact Cv _ _
 .exact⟨rfl,λZ=>rfl⟩
set_option tactic.hygienic true in
theorem GK(t:eX)(es:Array (Int×af))(n:Nat):(iA t es n).2.1.led=t.led/\(t.plain=false->(iA t es n).2.1.plain=false):=by
 unfold iA
 split
 .rename_i t' order e
  have h:t'.led=t.led/\t'.plain=t.plain:=by
   unfold eX.relaid eX.laid at e;refine mO (bs e) λow Z e=>?_;have e:=(mG (ae e)).1;rw[<-e];exact⟨rfl,rfl⟩
  dsimp only
  split
  .exact⟨h.1,λk=>h.2.trans k⟩
  .exact⟨rfl,λZ=>rfl⟩
 .exact⟨rfl,λZ=>rfl⟩
section
variable {prog:bA}{w:cM}
structure oi(prog:bA)(w:cM)(h:aB)(S:ai)(es:Array (Int×af))(ep:Nat)(t:eX):Prop where
 obj:h.get? S=some (setO es ep t)
 els:mf (aC prog w) es.toList
 fits:t.fits es.size=true
 led:t.led=!(w.params.followText "set-order")
 plain:0 < es.size->t.plain=false
variable {A:aH}{E:af->ag->Prop}{s:ag}{S:ai}{es:Array (Int×af)}{ep:Nat}{t:eX}
theorem oi.at(x:oi prog w s.heap S es ep t)(e:∀o,s.heap.get? S=some o->h'.get? S=some o):oi prog w h' S es ep t:=⟨e _ x.obj,x.els,x.fits,x.led,x.plain⟩
theorem oi.store(x:oi prog w s.heap S es ep t){Uu:Array (Int×af)}{t':eX}(he:mf (aC prog w) Uu.toList)(hf:t'.fits Uu.size=true)(hl:t'.led=t.led)(hp:t'.plain=false):oi prog w (s.heap.update S (lA Uu t')) S Uu (ep+1) t':=by
 refine⟨?_,he,hf,hl.trans x.led,λZ=>hp⟩;have e:=aW (lA Uu t') x.obj (by rw[putSet_of Uu t' rfl];rfl);rw[putSet_of Uu t' rfl] at e;exact e
theorem Bb{g:Bool->jM Unit}(hg:∀(b:Bool) (TW:ag) (Q':Unit->ag->Prop),Q' () TW->an (aO prog w) A (g b) Q' E TW)(x:oi prog w s.heap S es ep t){Uu:Array (Int×af)}{t':eX}(he:mf (aC prog w) Uu.toList)(hf:t'.fits Uu.size=true)(hl:t'.led=t.led)(hp:t'.plain=false)(hb:Uu.size < jt){d:Bool}{R:Option Bool->ag->Prop}(h:∀h' UZ Vu Wn,bf S s.heap h'->oi prog w h' S UZ Vu Wn->UZ.toList.Perm Uu.toList->R (some true) {s with heap:=h'}):
  an (aO prog w) A (do
    storeSet S Uu t'
    if (!d&&t'.tooFull)=true then do
      g (iA t' Uu (ew Uu.size)).2.2
      storeSet S (iA t' Uu (ew Uu.size)).1 (iA t' Uu (ew Uu.size)).2.1
      pure (some true)
     else pure (some true)) R E s:=by
 refine ac (kh x.obj rfl ?_ (j8 hb));have y:=x.store he hf hl hp;have sb:=ct s.heap S (lA Uu t')
 split
 .have hr:=GK t' Uu (ew Uu.size);have Wf:=relayAll_perm t' Uu (ew Uu.size)
  have hsz:(iA t' Uu (ew Uu.size)).1.size=Uu.size:=by rw[<-bF,Wf.length_eq,bF]
  refine ac (hg _ _ _ (ac (kh y.obj rfl ?_ (j8 (by rw[hsz];exact hb)))));exact al (h _ _ _ _ (sb.trans (ct _ S _)) (oi.store (s:={s with heap:=_}) y (he.perm Wf) (relayAll_fits t' Uu _) hr.1 (hr.2 hp)) Wf)
 .exact al (h _ _ _ _ sb y (gK _))
theorem LL(x:oi prog w s.heap S es ep t){k:aI}(hb:es.size+1 < jt){Q:Bool->ag->Prop}(h0:(∃e∈es.toList,(aC prog w).is k e.2=true)->Q false {s with toks:=s.toks+1})(h1:(∀e∈es.toList,(aC prog w).is k e.2=false)->∀h' Uu Vu t',bf S s.heap h'->oi prog w h' S Uu Vu t'->Uu.toList.Perm (es.toList++[((aC prog w).hash k,.str k tk)])->Q true {s with heap:=h',toks:=s.toks+1}):
  an (aO prog w) A (setAdd S (.str k tk)) Q E s:=by
 have hkey:=dH prog w k tk;unfold setAdd;refine aK (ac ((aC prog w).pyHash hkey ?_));unfold setAddHashed setAddHashedIn;have x:oi prog w ({s with toks:=s.toks+1}:ag).heap S es ep t:=x;refine aK (ac (c6 (s:={s with toks:=s.toks+1}) x.obj rfl x.fits ?_));dsimp only;rw[byScan_of (x:=.str k tk) rfl (by omega) x.els,if_pos rfl];unfold setAddByScan;refine ac (ac (fO (ac (wpAny_setScan_of hkey x.obj rfl x.fits x.els ?_))))
 cases hr:List.findIdx? (λe=>(aC prog w).is k e.2) es.toList with
 |some j=>
  dsimp only;obtain ⟨hj,hpj,_⟩:=List.findIdx?_eq_some_iff_getElem.mp hr;exact al (al (h0 ⟨es.toList[j],kr hj,hpj⟩))
 |none=>
  dsimp only;have Xv:∀e∈es.toList,(aC prog w).is k e.2=false:=gW.mp hr;have Wf:=layNew_perm t es ((aC prog w).hash k) (.str k tk);have hf:=layNew_fits t es ((aC prog w).hash k) (.str k tk);have hl:=DA t es ((aC prog w).hash k) (.str k tk);generalize layNew t es ((aC prog w).hash k) (.str k tk)=L at Wf hf hl ⊢;obtain ⟨Wx,t1,d1,g1⟩:=L;dsimp only at Wf hf hl ⊢;rw[gY] at Wf;have Y9:mf (aC prog w) Wx.toList:=(x.els.push hkey rfl).perm Wf
  have hsz:Wx.size < jt:=by rw[<-bF,Wf.length_eq,aL,bF];exact hb
  have YB:∀(b:Bool) (TW:ag) (Q':Unit->ag->Prop),Q' () TW->an (aO prog w) A (match b with | true=>rule "set.scan.the-table-gave-way" |false=>pure ()) Q' E TW:=
   λb TW Q' hq=>by cases b<;>first | exact al hq | exact fO hq
  refine ac (YB _ _ _ ?_)
  have XC:∀h' UZ Vu Wn,bf S s.heap h'->oi prog w h' S UZ Vu Wn->UZ.toList.Perm Wx.toList->an (aO prog w) A (pure true) Q E {s with heap:=h',toks:=s.toks+1}:=
   λh' UZ Vu Wn a b c=>al (h1 Xv h' UZ Vu Wn a b (c.trans Wf))
  split
  .refine ac ?_;rw[hashByValue_scannable 8 (x:=.str k tk) rfl];refine al ?_;exact Bb YB x Y9 (eX.fits_plain_off hf) hl.1 rfl hsz λh' UZ Vu Wn a b c=>XC h' UZ Vu Wn a b c
  .rename_i hp;refine ac (al ?_);exact Bb YB x Y9 hf hl.1 (b9.mpr hp) hsz λh' UZ Vu Wn a b c=>XC h' UZ Vu Wn a b c
theorem zm(h:xs.Perm ys):∀{ss:List aI},fq ys ss->∃WN,WN.Perm ss/\fq xs WN:=by
 induction h with
 |nil=>intro ss r;cases r;exact⟨[],.nil,.nil⟩
 |cons x _ ih=>
  intro ss r
  cases r with
  |cons k t r=>
   refine mO (ih r) λWN h1 h2=>?_;exact⟨k::WN,h1.cons k,.cons k t h2⟩
 |swap x y l=>
  intro ss r
  cases r with
  |cons k t r=>cases r with
   |cons k' t' r=>exact⟨k'::k::_,.swap _ _ _,.cons k' t' (.cons k t r)⟩
 |trans _ _ T7 T4=>
  intro ss r;refine mO (T4 r) λs1 h1 h2=>?_;refine mO (T7 h2) λs2 h3 h4=>?_;exact⟨s2,h3.trans h1,h4⟩
theorem LM(a:af)(h:∀h',h'=s.heap.push (setO #[] 0 (.fresh 0 0 (!(w.params.followText "set-order"))))->Q (.ref s.heap.objs.size) {s with heap:=h'}):
  dc (aO prog w) A (.call (.builtin "set.__new__") ⟨[.type "set",a],[]⟩) (wants Q E) s:=by
 refine fS PySem.F.plain_set_new PySem.F.entry_set_new (dq (PySem.F.newCall_set_1 a) ?_);have hsub:=sub_set_self;unfold b7.«set.__new__» lr newSet iP
 repeat (first | assumption | wp_step)
 refine cO (al ?_)
 repeat (first | assumption | wp_step)
 exact h _ rfl
def Hk(prog:bA)(w:cM)(es:Array (Int×af))(k:aI)(tk:lP)(Uu:Array (Int×af)):Prop:=
 ((∃e∈es.toList,(aC prog w).is k e.2=true)/\Uu=es)\/((∀e∈es.toList,(aC prog w).is k e.2=false)/\Uu.toList.Perm (es.toList++[((aC prog w).hash k,.str k tk)]))
noncomputable abbrev AI(S I:ai):Code:=.builtin "set.update.loop" ⟨[.ref S,.ref I],[]⟩
theorem yW{R:cT->ag->Prop}(hh:A.handled=none){l:ai}{i:Nat}{k:aI}(hi:items[i]?=some (.str k tk))(st:s.heap.IsListIter I l i/\s.heap.IsList l items)(hl:l≠I)(hS:S≠I)(hSl:S≠l)(x:oi prog w s.heap S es ep t)(hb:es.size+1 < jt)(h:∀h' Wm Uu Vu t',(h'.IsListIter I l (i+1)/\h'.IsList l items)->oi prog w h' S Uu Vu t'->Hk prog w es k tk Uu->(∀b o,b≠I->b≠S->s.heap.get? b=some o->h'.get? b=some o)->dc (aO prog w) A (AI S I) R {s with heap:=h',toks:=Wm}):
  dc (aO prog w) A (AI S I) R s:=by
 refine dM eR ?_;rw[ec bW _];have hlt:i < items.size:=(bQ.mp hi).1;show an _ A.in1 (eB (.ref I) >>= _) _ _ s;refine ac ((jN (A:=A.in1) hh I l hl items).item i s _ _ hlt st λv h1 Ya hv XT k1=>?_);rw[show v=.str k tk from ae (hv.symm.trans hi)];have x1:oi prog w h1 S es ep t:=x.at λo e=>k1 S o (by simpa using hS) e;show an _ A.in1 (iM [af.str k tk] (setAdd S (.str k tk)) >>= _) _ _ _;refine ac (aK (LL (s:={s with heap:=h1,toks:=Ya}) x1 hb (λhe=>?_) λhe h2 Uu Vu t' sb x2 hp=>?_))
 .exact al ⟨ik bW _,h h1 _ es ep t XT x1 (.inl ⟨he,rfl⟩) λb o YJ Z e=>k1 b o (by simpa using YJ) e⟩
 .have k2:∀b o,b≠S->h1.get? b=some o->h2.get? b=some o:=λb o hb e=>(sb.2 b hb).trans e;refine al ⟨ik bW _,h h2 _ Uu Vu t' ((jN (prog:=prog) (w:=w) (A:=A.in1) hh I l hl items).frame (i+1) h1 h2 XT λb hb o e=>k2 b o (λq=>?_) e) x2 (.inr ⟨he,hp⟩) λb o YJ hb2 e=>k2 b o hb2 (k1 b o (by simpa using YJ) e)⟩
  rcases aA.mp hb with q' | q'
  .exact hS (q.symm.trans q')
  .exact hSl (q.symm.trans (am.mp q'))
theorem IC{R:cT->ag->Prop}(hh:A.handled=none){l:ai}{i:Nat}(hi:i=items.size)(st:s.heap.IsListIter I l i/\s.heap.IsList l items)(hl:l≠I)(h:∀h' Wm,(∀b o,b≠I->s.heap.get? b=some o->h'.get? b=some o)->R (.ok (.ret .none)) {s with heap:=h',toks:=Wm}):dc (aO prog w) A (AI S I) R s:=by
 subst hi;refine dM eR ?_;rw[ec bW _];show an _ A.in1 (eB (.ref I) >>= _) _ _ s;refine ac ((jN (A:=A.in1) hh I l hl items).done s _ _ st λh1 Ya k1=>?_);exact al (h h1 Ya λb o hb e=>k1 b o (by simpa using hb) e)
def A9(es:Array (Int×af))(a b:aI):Prop:=∃ss,ss.Perm (if a=b then [a] else [a,b])/\fq (es.toList.map (·.2)) ss
theorem Io{k k':aI}{v:af}(e:v=.str k' tk):(aC prog w).is k v=decide (k=k'):=by
 rw[e]
 cases hd:decide (k=k') with
 |true=>rw[of_decide_eq_true hd];exact dH _ _ _ _
 |false=>
  cases h:(aC prog w).is k (.str k' tk) with
  |false=>rfl
  |true=>
   have q:k=k':=by
    have h:=h;simp only[aC,ig] at h;exact (eq_of_beq h).symm
   exact absurd q (of_decide_eq_false hd)
theorem O6{Wx Ww:Array (Int×af)}{a b:aI}{ta tb:lP}(h1:Hk prog w #[] a ta Wx)(h2:Hk prog w Wx b tb Ww):A9 Ww a b:=by
 have e1:Wx.toList=[((aC prog w).hash a,.str a ta)]:=by
  rcases h1 with ⟨⟨e,he,_⟩,_⟩ | ⟨_,hp⟩
  .exact nomatch he
  .exact List.perm_singleton.mp hp
 rcases h2 with ⟨⟨e,he,hi⟩,q⟩ | ⟨hn,hp⟩
 .rw[e1] at he;rw[am.mp he,Io rfl] at hi;refine⟨[a],by rw[if_pos (of_decide_eq_true hi).symm],?_⟩;rw[q,e1];exact .cons a ta .nil
 .have hne:=hn _ (by rw[e1];exact am.mpr rfl);rw[Io rfl] at hne;rw[e1] at hp;refine mO (zm (hp.map (λe:Int×af=>e.2)) (ss:=[a,b]) (.cons a ta (.cons b tb .nil))) λss h3 h4=>?_;exact⟨ss,by rw[if_neg λq=>of_decide_eq_false hne q.symm];exact h3,h4⟩
set_option maxHeartbeats 4000000 in
theorem GS{A':aH}{H:aB}{S l:ai}{a b:aI}{ta tb:lP}{n:Nat}{R:cT->ag->Prop}(hh:A.handled=none)(hs:s.heap=H)(x:oi prog w H S #[] 0 (.fresh 0 0 (!(w.params.followText "set-order"))))(hl:H.get? l=some (pF [.str a ta,.str b tb] n))(hne:S≠l)(h:∀h' tk es ep t,oi prog w h' S es ep t->A9 es a b->(∀b o,b≠S->H.get? b=some o->h'.get? b=some o)->R (.ok (.ret .none)) {s with heap:=h',toks:=tk}):
  an (aO prog w) A (b7.«set.__init__» ⟨[.ref S,.ref l],[]⟩) (λfin s'=>match fin with | .done f=>R (.ok f) s' | .again c'=>c'.quiet=true/\dc (aO prog w) A' c' R s') (λe s'=>R (.error e) s') s:=by
 obtain ⟨h0,g0,d0,tk0,o0⟩:=s;subst hs;have hS:=x.obj;have hT:eY ⟨h0,g0,d0,tk0,o0⟩ (.ref S) "set" := ⟨_,hS,rfl⟩;have hTl:eY ⟨h0,g0,d0,tk0,o0⟩ (.ref l) "list" := ⟨_,hl,rfl⟩;have hsls:=PySem.F.sub_list_set;have hslf:=PySem.F.sub_list_frozenset
 have hne':(lD "list" == lD "dict")=false:=by decide
 unfold b7.«set.__init__» noKeywords kY;generalize hPI:fK=PI
 wp_walk
 subst hPI;have hIs:h0.IsList l #[.str a ta,.str b tb]:=⟨_,hl,rfl,n,rfl⟩;have hlS:l < h0.objs.size:=aX hl;have hSS:S < h0.objs.size:=aX hS;refine d7 hIs (ac (wpAny_runValue ?_));refine yW (A:=A) hh (i:=0) (k:=a) (tk:=ta) rfl ⟨⟨_,ax _ rfl,rfl,rfl⟩,hIs.push _⟩ (aS hlS) (aS hSS) hne (x.at λo e=>aj _ e) (by decide) λh1 t1 Wx ep1 tb1 XT x1 a1 k1=>?_
 have hz:Wx.size<=1:=by
  rcases a1 with ⟨⟨e,he,_⟩,_⟩ | ⟨_,hp⟩
  .exact nomatch he
  .rw[<-bF,hp.length_eq];exact aQ 1
 refine yW (A:=A) hh (i:=1) (k:=b) (tk:=tb) rfl XT (aS hlS) (aS hSS) hne x1 (by unfold jt;omega) λh2 t2 Ww Zl Zx Zy x2 a2 k2=>?_;refine IC (A:=A) hh (i:=2) rfl Zy (aS hlS) λh3 t3 k3=>?_;refine al (al (h h3 t3 Ww Zl Zx (oi.at (s:={heap:=h2,gens:=g0,drawn:=d0,toks:=t2,os:=o0}) x2 λo e=>k3 S o (aS hSS) e) (O6 a1 a2) λc o hc e=>?_));have hcl:c≠h0.objs.size:=aS (aX e);exact k3 c o hcl (k2 c o hcl hc (k1 c o hcl hc (aj _ e)))
set_option maxHeartbeats 4000000 in
theorem Ga{l:ai}{a b:aI}{ta tb:lP}{n:Nat}(hh:A.handled=none)(hl:s.heap.get? l=some (pF [.str a ta,.str b tb] n))(h:∀h' tk es ep t,oi prog w h' s.heap.objs.size es ep t->A9 es a b->(∀b o,s.heap.get? b=some o->h'.get? b=some o)->Q (.ref s.heap.objs.size) {s with heap:=h',toks:=tk}):
  an (aO prog w) A (call (.type "set") [.ref l]) Q E s:=by
 refine xK b4.mro λc tl ZQ=>?_;have hmade:=b4.made;have hsub:=b4.sub;refine fc (iV ?_);show an _ _ (mw (.type "set") _) _ _ _;refine al ⟨fb _ (by decide +kernel),dM PySem.F.entry_type_call ?_⟩;rw[aH.under_plain (weight_type_call_type "set" [.ref l] []) rfl];have h1:=b4.notType;have h2:=b4.canCreate;have hct:=PySem.F.typeCall_set_1 (.ref l)
 repeat (any_goals (first | assumption | wp_step))
 refine j7 (LM (.ref l) (E:=E) (Q:=λobj TW=>obj=.ref s.heap.objs.size/\TW={s with heap:=s.heap.push (setO #[] 0 (.fresh 0 0 (!(w.params.followText "set-order"))))}) λh' e=>⟨rfl,by rw[e]⟩) λr TW hr=>?_
 cases r with
 |error e=>exact hr
 |ok fl=>
  cases fl with
  |ret obj=>
   refine nE hr λWI T6=>?_;subst WI;subst T6;have hS:(s.heap.push (setO #[] 0 (.fresh 0 0 (!(w.params.followText "set-order"))))).get? s.heap.objs.size=some (setO #[] 0 (.fresh 0 0 (!(w.params.followText "set-order")))):=ax _ rfl;have kH:∀b o,s.heap.get? b=some o->(s.heap.push (setO #[] 0 (.fresh 0 0 (!(w.params.followText "set-order"))))).get? b=some o:=λb o e=>aj _ e;generalize s.heap.push (setO #[] 0 (.fresh 0 0 (!(w.params.followText "set-order"))))=H at hS kH ⊢;have x0:oi prog w H s.heap.objs.size #[] 0 (.fresh 0 0 (!(w.params.followText "set-order"))):=⟨hS,λe he=>(nomatch he),rfl,rfl,λh=>absurd h (fP 0)⟩;have hT:eY {s with heap:=H} (.ref s.heap.objs.size) "set" := ⟨_,hS,rfl⟩;have hli:=b4.init.lookup;have hbi:=b4.init.bind (.ref s.heap.objs.size)
   repeat (any_goals (first | assumption | wp_step))
   refine j7 (fS (R:=wants (λr T2=>r=.none/\Q (.ref s.heap.objs.size) T2) E) b4.init.plain PySem.F.entry_set_init (check_set_init_1 hT ?_)) λWo T2 VX=>?_
   .exact GS (R:=wants (λr T2=>r=.none/\Q (.ref s.heap.objs.size) T2) E) (s:={s with heap:=H}) hh rfl x0 (kH _ _ hl) (dz (aX hl)) λh' tk es ep t x two k=>⟨rfl,h h' tk es ep t x two λb o e=>k b o (aS (aX e)) (kH b o e)⟩
   .cases Wo with
    |error e=>exact VX
    |ok Vx=>
     cases Vx with
     |ret r=>
      refine nE VX λWI hq=>?_;subst WI
      repeat (any_goals (first | assumption | wp_step))
     |_=>exact VX.elim
  |_=>exact hr.elim
end
theorem qL:Slot "set_iterator" "__next__" "set_iterator.__next__" :=
 .of (owner:="set_iterator") (n:="__next__") (by rw[iY,fE];kernel_rfl) (by decide +kernel) (by decide +kernel) (by decide +kernel) (.inl (by decide +kernel)) (by rw[gT];kernel_rfl)
theorem uZ:lI table "set_iterator.__next__" = some b7.«set_iterator.__next__» := kE (by kernel_rfl)
theorem BF:Manifest.owners.lookup (String.ofList ['r', 'o', 't', 'a', 'r', 'e', 't', 'i', '_', 't', 'e', 's'].reverse)=some Manifest.sig_set_iterator:=by kernel_rfl
theorem wT(a:af):lF "set_iterator.__next__" ⟨[a],[]⟩:=by
 unfold lF;rw[signature?_of (id:="set_iterator.__next__") (n:=['_', '_', 't', 'x', 'e', 'n', '_', '_']) (o:=['r', 'o', 't', 'a', 'r', 'e', 't', 'i', '_', 't', 'e', 's']) (by kernel_rfl) BF];kernel_rfl
theorem Dy:lI table "set.__iter__" = some b7.«frozenset.__iter__» := entryFor_alias (id':="frozenset.__iter__") (by kernel_rfl) rfl (by decide +kernel) (by kernel_rfl)
noncomputable abbrev BE(first:af)(i:Int)(o:af)(n ep:Nat):eT:={cls:=.type "set_iterator",dict:=none,data:=.fields #[first,.int i 0,o,.int n 0,.int ep 0],slots:=#[]}
section
variable {s:ag}{S T:ai}{es:Array (Int×af)}{ep:Nat}{t:eX}
theorem vQ{first x:af}{i:Int}{n:Nat}{o':eT}(hI:s.heap.get? I=some (BE first i (.ref S) n ep))(hj:j < 5)(e:{BE first i (.ref S) n ep with data:=.fields (#[first,.int i 0,.ref S,.int n 0,.int ep 0].setIfInBounds j x)}=o'){Q:Unit->ag->Prop}(h:∀h',h'.get? I=some o'->(∀b o,b≠I->s.heap.get? b=some o->h'.get? b=some o)->Q () {s with heap:=h'}):an (aO prog w) A (setField (.ref I) j x) Q E s:=by
 refine dm hI rfl hj (h _ ?_ λb o hb q=>(bg _ _ (eZ hb)).trans q);rw[<-e];exact aW _ hI rfl
theorem zl{Q:Option af->ag->Prop}(hh:A.handled=none)(hQ:∀h',(∀b o,s.heap.get? b=some o->h'.get? b=some o)->Q none {s with heap:=h'}):
  an (aO prog w) A.in1 (newExc (.type "StopIteration") [] >>= λe=>raiseNew e) (λfin s'=>∃v,fin=Fin.done (fF.ret v)/\an (aO prog w) A (pure (some v)) Q E s')
   (λe s'=>an (aO prog w) A (do let b <-gS e (.type "StopIteration");if b=true then pure none else throw e) Q E s') s:=by
 refine ac ?_;unfold newExc lL;refine ac (aZ ?_ (by size_fits));refine ac (m:=gR _ _) (dq (a:=bX) (by first | rfl | (simp only[gR];rfl)) ?_);refine aZ ?_ (by size_fits);refine ac (wpAny_handled ?_);rw[show A.in1.handled=none from hh];refine ac (al (kW ?_));refine ac (fN (T:="StopIteration") (b:=true) ⟨_,ax _ rfl,rfl⟩ jm ?_);exact al (hQ _ λb o e=>aj _ (aj _ e))
theorem D5{sl nx i:Nat}{v:af}{Q:Option af->ag->Prop}(hI:s.heap.get? I=some (BE (.int sl 0) i (.ref S) es.size ep))(x:oi prog w s.heap S es ep t)(hn:∀{E':af->ag->Prop} (Q':Option (af×Nat)->ag->Prop),Q' (some (v,nx)) s->an (aO prog w) A.in1 (iO S sl i ep) Q' E' s)(hQ:∀h',h'.get? I=some (BE (.int nx 0) (i+1:Nat) (.ref S) es.size ep)->(∀b o,b≠I->s.heap.get? b=some o->h'.get? b=some o)->Q (some v) {s with heap:=h'}):an (aO prog w) A (eB (.ref I)) Q E s:=by
 have hT:s.TypeIs (.ref I) "set_iterator" := ⟨_,hI,rfl⟩;unfold eB;refine ac (cN (bt (name:=bw "__next__") hT qL (a9 qL hT uZ ?_ (wT _))));unfold b7.«set_iterator.__next__»;refine ac (al (ac (gV hI rfl ?_)));dsimp only;refine ac (de x.obj rfl x.fits ?_);rw[if_neg (by simp)];refine ac (hn _ ?_);dsimp only;refine ac (vQ hI (by decide) (x:=bH nx) (o':=BE (.int nx 0) i (.ref S) es.size ep) rfl λh1 e1 k1=>?_);refine ac (vQ (s:={s with heap:=h1}) e1 (by decide) (x:=bH ((i:Int)+1)) (o':=BE (.int nx 0) (i+1:Nat) (.ref S) es.size ep) rfl λh2 e2 k2=>?_);exact al ⟨_,rfl,al (hQ h2 e2 λb o hb e=>k2 b o hb (k1 b o hb e))⟩
theorem GJ{sl i:Nat}{Q:Option af->ag->Prop}(hh:A.handled=none)(hI:s.heap.get? I=some (BE (.int sl 0) i (.ref S) es.size ep))(x:oi prog w s.heap S es ep t)(hn:∀{E':af->ag->Prop} (Q':Option (af×Nat)->ag->Prop),Q' none s->an (aO prog w) A.in1 (iO S sl i ep) Q' E' s)(hQ:∀h',(∀b o,b≠I->s.heap.get? b=some o->h'.get? b=some o)->Q none {s with heap:=h'}):an (aO prog w) A (eB (.ref I)) Q E s:=by
 have hT:s.TypeIs (.ref I) "set_iterator" := ⟨_,hI,rfl⟩;unfold eB;refine ac (cN (bt (name:=bw "__next__") hT qL (a9 qL hT uZ ?_ (wT _))));unfold b7.«set_iterator.__next__»;refine ac (al (ac (gV hI rfl ?_)));dsimp only;refine ac (de x.obj rfl x.fits ?_);rw[if_neg (by simp)];refine ac (hn _ ?_);dsimp only;refine ac (vQ hI (by decide) (x:=.none) rfl λh1 e1 k1=>?_);exact zl (s:={s with heap:=h1}) hh λh2 k2=>hQ h2 λb o hb e=>k2 b o (k1 b o hb e)
theorem Dp{pl:List Nat}{i p:Nat}{h0:Int}{v:af}{Q:Option af->ag->Prop}(hI:s.heap.get? I=some (BE (.ref T) i (.ref S) es.size ep))(x:oi prog w s.heap S es ep t)(hT':s.heap.get? T=some (qY (pl.map λq:Nat=>.int q 0) 0))(hp:pl[i]?=some p)(hv:es[p]?=some (h0,v))(hQ:∀h',h'.get? I=some (BE (.ref T) (i+1:Nat) (.ref S) es.size ep)->(∀b o,b≠I->s.heap.get? b=some o->h'.get? b=some o)->Q (some v) {s with heap:=h'}):an (aO prog w) A (eB (.ref I)) Q E s:=by
 have hT:s.TypeIs (.ref I) "set_iterator" := ⟨_,hI,rfl⟩;unfold eB;refine ac (cN (bt (name:=bw "__next__") hT qL (a9 qL hT uZ ?_ (wT _))));unfold b7.«set_iterator.__next__»;refine ac (al (ac (gV hI rfl ?_)));dsimp only;refine ac (de x.obj rfl x.fits ?_);rw[if_neg (by simp)];refine ac (cF hT' rfl ?_);rw[dZ];dsimp only
 have hi:((pl.map λq:Nat=>af.int q 0).toArray)[i]?=some (.int p 0):=by simp [hp]
 rw[hi];dsimp only;refine ac ?_;unfold setNextDrawn;refine ac (c6 x.obj rfl x.fits ?_);dsimp only;rw[if_neg (by simp),dZ,hv];dsimp only;refine al (ac (vQ hI (by decide) (x:=bH ((i:Int)+1)) (o':=BE (.ref T) (i+1:Nat) (.ref S) es.size ep) rfl λh2 e2 k2=>?_));exact al ⟨_,rfl,al (hQ h2 e2 k2)⟩
theorem Ge{pl:List Nat}{i:Nat}{Q:Option af->ag->Prop}(hh:A.handled=none)(hI:s.heap.get? I=some (BE (.ref T) i (.ref S) es.size ep))(x:oi prog w s.heap S es ep t)(hT':s.heap.get? T=some (qY (pl.map λq:Nat=>.int q 0) 0))(hp:pl[i]?=none)(hQ:∀h',(∀b o,b≠I->s.heap.get? b=some o->h'.get? b=some o)->Q none {s with heap:=h'}):an (aO prog w) A (eB (.ref I)) Q E s:=by
 have hT:s.TypeIs (.ref I) "set_iterator" := ⟨_,hI,rfl⟩;unfold eB;refine ac (cN (bt (name:=bw "__next__") hT qL (a9 qL hT uZ ?_ (wT _))));unfold b7.«set_iterator.__next__»;refine ac (al (ac (gV hI rfl ?_)));dsimp only;refine ac (de x.obj rfl x.fits ?_);rw[if_neg (by simp)];refine ac (cF hT' rfl ?_);rw[dZ];dsimp only
 have hi:((pl.map λq:Nat=>af.int q 0).toArray)[i]?=none:=by simpa using hp
 rw[hi];dsimp only;refine ac (vQ hI (by decide) (x:=bH 0) (o':=BE (.int 0 0) i (.ref S) es.size ep) rfl λh1 e1 k1=>?_);refine ac (vQ (s:={s with heap:=h1}) e1 (by decide) (x:=.none) rfl λh2 e2 k2=>?_);exact zl (s:={s with heap:=h2}) hh λh3 k3=>hQ h3 λb o hb e=>k3 b o (k2 b o hb (k1 b o hb e))
theorem xq{c:Bool}{m m':jM α}{Q:α->ag->Prop}(hc:c=false)(h:an (aO prog w) A m' Q E s):an (aO prog w) A (if c=true then m else m') Q E s:=by
 rw[if_neg (by rw[hc];exact cy)];exact h
theorem v9{α:Type}:∀{l:List α} {i:Nat} (h:i < l.length),(l[i]::l.eraseIdx i).Perm l
 |a::l,0,h=>gK _
 |a::l,i+1,h=>(List.Perm.swap _ _ _).trans ((v9 (Nat.lt_of_succ_lt_succ h)).cons a)
theorem zb{α:Type}(f:Nat->Nat):∀(n k:Nat) (l:List α) (out:Array α),n=l.length->(mz f n k l out).toList.Perm (out.toList++l)
 |0,k,l,out,h=>by
  cases l with
  |nil=>rw[ba];exact gK _
  |cons _ _=>exact nomatch h
 |n+1,k,l,out,h=>by
  have hj:f k % l.length < l.length:=Nat.mod_lt _ (by omega)
  show ((match l[f k % l.length]? with
   |some x=>mz f n (k+1) (l.eraseIdx (f k % l.length)) (out.push x)
   |none=>out):Array α).toList.Perm _
  rw[au hj];refine (zb f n (k+1) (l.eraseIdx (f k % l.length)) (out.push l[f k % l.length]) (by rw[jf,if_pos hj,<-h];rfl)).trans ?_;rw[gY,aP];exact List.Perm.append_left _ (v9 hj)
theorem Dg{n:Nat}{T8:Source}{Q:Nat->ag->Prop}(hn:n≠0)(h:∀i dr,i < n->Q i {s with drawn:=dr}):an (aO prog w) A (choose T8 n) Q E s:=by
 intro Γ p Y1;show jM.wp _ _ (.choose T8 n .pure) _ _ _ _;rw[jM.wp];refine⟨hn,?_⟩;exact h _ _ (Nat.mod_lt _ (Nat.pos_of_ne_zero hn))
theorem Bu:∀(n:Nat) (l:List Nat) {s:ag} {Q:List Nat->ag->Prop},n=l.length->(∀ys dr,ys.Perm l->Q ys {s with drawn:=dr})->an (aO prog w) A (drawOrder n l) Q E s
 |0,l,s,Q,hn,h=>by
  have e:l=[]:=fh.mp hn.symm;subst e;exact al (h [] s.drawn .nil)
 |n+1,l,s,Q,hn,h=>by
  cases l with
  |nil=>exact nomatch hn
  |cons a l=>
   refine ac (Dg (by simp) λi dr hi=>?_);rw[au hi];refine ac (Bu n ((a::l).eraseIdx i) (by rw[jf,if_pos hi];simpa using c0 hn) λys dr' hp=>?_);exact al (h _ dr' ((hp.cons _).trans (v9 hi)))
theorem Nk{k:Nat}:eX.below #[j] k=if j < k then 1 else 0:=by kernel_rfl
theorem Gz(x:oi prog w s.heap S es ep t)(hb:w.params.followText "set-order" = true){sl i:Nat}{Q:Option (af×Nat)->ag->Prop}(h:Q (((pickOrder (w.params.setOrder S ep) es)[i]?).map λe=>(e.2,sl)) s):an (aO prog w) A (iO S sl i ep) Q E s:=by
 unfold iO;refine ac (c6 x.obj rfl x.fits ?_);dsimp only;refine ac ?_;unfold iP;refine ac (cO (al ?_));rw[if_pos (show (aO prog w).w.params.followText "set-order" = true from hb),if_neg (by simp)];refine ac ?_;unfold setWalk iP;refine ac (c6 x.obj rfl x.fits ?_);dsimp only;refine ac (ac (cO (al ?_)));rw[if_pos (show (aO prog w).w.params.followText "set-order" = true from hb)];refine ac (cO (al ?_));exact al h
theorem IP(x:oi prog w s.heap S es ep t)(hb:w.params.followText "set-order" = false){h0:Int}{v:af}(he:es=#[(h0,v)])(hj:t.place=#[j]){sl i:Nat}{Q:Option (af×Nat)->ag->Prop}(h:Q (if j < sl then none else some (v,j+1)) s):an (aO prog w) A (iO S sl i ep) Q E s:=by
 unfold iO;refine ac (c6 x.obj rfl x.fits ?_);dsimp only;refine ac ?_;unfold iP;refine ac (cO (al ?_));rw[if_neg (show ¬((aO prog w).w.params.followText "set-order" = true) by rw[show (aO prog w).w.params.followText "set-order" = false from hb];exact cy)];subst he;refine xq (show (!t.plain&&decide (#[(h0,v)].size > 1))=false by rw[show decide (#[(h0,v)].size > 1)=false from rfl,cC]) ?_
 have hl:t.led=true:=by rw[x.led,hb];rfl
 refine ac (m:=(if (!t.led&&!(#[(h0,v)]:Array (Int×af)).isEmpty)=true then unsupported "set:maker-not-led" else pure ())) (xq (by rw[hl];rfl) ?_);refine al ?_;rw[hj,Nk]
 by_cases c:j < sl
 .rw[if_pos c] at h ⊢;exact al h
 .rw[if_neg c] at h ⊢;exact al h
end
theorem BG:Slot "set_iterator" "__iter__" "set_iterator.__iter__" :=
 .of (owner:="set_iterator") (n:="__iter__") (by rw[iY,fE];kernel_rfl) (by decide +kernel) (by decide +kernel) (by decide +kernel) (.inl (by decide +kernel)) (by rw[gT];kernel_rfl)
theorem Gn:lI table "set_iterator.__iter__" = some b7.«dict_keyiterator.__iter__» := entryFor_alias (id':="dict_keyiterator.__iter__") (by kernel_rfl) rfl (by decide +kernel) (by kernel_rfl)
theorem Iq(a:af):lF "set_iterator.__iter__" ⟨[a],[]⟩:=by
 unfold lF;rw[signature?_of (id:="set_iterator.__iter__") (n:=['_', '_', 'r', 'e', 't', 'i', '_', '_']) (o:=['r', 'o', 't', 'a', 'r', 'e', 't', 'i', '_', 't', 'e', 's']) (by kernel_rfl) BF];kernel_rfl
section
variable {s:ag}{S T:ai}{es:Array (Int×af)}{ep:Nat}{t:eX}
theorem EZ{first:af}{i:Int}{n:Nat}{o:af}(hI:s.heap.get? I=some (BE first i o n ep))(h:Q (.ref I) s):an (aO prog w) A (fK (.ref I)) Q E s:=by
 have hT:s.TypeIs (.ref I) "set_iterator" := ⟨_,hI,rfl⟩;refine fA hT BG (a9 BG hT Gn ?_ (Iq _));show an _ _ (ret (.ref I)) _ _ s;exact al ⟨_,rfl, "set_iterator",_,hT,qL.lookup,h⟩
theorem Er(hh:A.handled=none)(hne:S≠I){out:List af}(slot:Nat->Nat)(hn:∀{A':aH} {E':af->ag->Prop} {s:ag} (i:Nat) (Q':Option (af×Nat)->ag->Prop),oi prog w s.heap S es ep t->i<=es.size->Q' (out[i]?.map λv=>(v,slot (i+1))) s->an (aO prog w) A' (iO S (slot i) i ep) Q' E' s)(hl:out.length=es.size):WalksS prog w A I [I,S] [I] (λa b=>b=a) es.size (λi v=>out[i]?=some v) (λi s=>s.heap.get? I=some (BE (.int (slot i) 0) i (.ref S) es.size ep)/\oi prog w s.heap S es ep t) where
 sub:=λb hb=>by rw[am.mp hb];exact ah
 grefl:=λZ=>rfl
 gtrans:=λZ Z Z h1 h2=>h2.trans h1
 frame:=λi s h' tk st Z hk=>⟨hk I (by simp) _ st.1,st.2.at λo e=>hk S (by simp) o e⟩
 item:=λi s Q E hi st hQ=>by
  have e:out[i]?=some out[i]:=au (by omega);refine D5 (nx:=slot (i+1)) st.1 st.2 (λQ' h=>hn i Q' st.2 (gr hi) (by rw[e];exact h)) λh' e' k=>?_;exact hQ out[i] {s with heap:=h'} e ⟨e',st.2.at λo e=>k S o hne e⟩ ⟨λb o hb e=>k b o (by simpa using hb) e,rfl,rfl,rfl,aQ _⟩
 done:=λs Q E st hQ=>by
  have e:out[es.size]?=none:=bx (by omega);exact GJ hh st.1 st.2 (λQ' h=>hn es.size Q' st.2 (aQ _) (by rw[e];exact h)) λh' k=>hQ {s with heap:=h'} ⟨λb o hb e=>k b o (by simpa using hb) e,rfl,rfl,rfl,aQ _⟩
 self:=λZ Z Z Z st hQ=>EZ st.1 hQ
theorem Ep(hh:A.handled=none)(hS:S≠I)(hT:T≠I){out:List af}{pl:List Nat}(hl:pl.length=es.size)(ho:∀i:Nat,i < es.size->∃p h0 v,pl[i]?=some p/\es[p]?=some (h0,v)/\out[i]?=some v):
  WalksS prog w A I [I,T,S] [I] (λa b=>b=a) es.size (λi v=>out[i]?=some v) (λi s=>s.heap.get? I=some (BE (.ref T) i (.ref S) es.size ep)/\s.heap.get? T=some (qY (pl.map λq:Nat=>.int q 0) 0)/\oi prog w s.heap S es ep t) where
 sub:=λb hb=>by rw[am.mp hb];exact ah
 grefl:=λZ=>rfl
 gtrans:=λZ Z Z h1 h2=>h2.trans h1
 frame:=λi s h' tk st Z hk=>⟨hk I (by simp) _ st.1,hk T (by simp) _ st.2.1,st.2.2.at λo e=>hk S (by simp) o e⟩
 item:=λi s Q E hi st hQ=>by
  refine pO (ho i hi) λp h0 v e1 e2 e3=>?_;refine Dp st.1 st.2.2 st.2.1 e1 e2 λh' e' k=>?_;exact hQ v {s with heap:=h'} e3 ⟨e',k T _ hT st.2.1,st.2.2.at λo e=>k S o hS e⟩ ⟨λb o hb e=>k b o (by simpa using hb) e,rfl,rfl,rfl,aQ _⟩
 done:=λs Q E st hQ=>Ge hh st.1 st.2.2 st.2.1 (bx (by omega)) λh' k=>hQ {s with heap:=h'} ⟨λb o hb e=>k b o (by simpa using hb) e,rfl,rfl,rfl,aQ _⟩
 self:=λZ Z Z Z st hQ=>EZ st.1 hQ
theorem JK{A':aH}(hh:A.handled=none)(x:oi prog w s.heap S es ep t)(hz:es.size=1\/es.size=2)(h:∀h' dr I fp St (out:List af),out.Perm (es.toList.map (·.2))->WalksS prog w A I fp [I] (λa b=>b=a) es.size (λi v=>out[i]?=some v) St->St 0 {s with heap:=h',drawn:=dr}->(∀b o,s.heap.get? b=some o->h'.get? b=some o)->s.heap.get? I=none->I∈fp->(∀b∈fp,(b=S\/s.heap.get? b=none)/\b < h'.objs.size)->Q (.ref I) {s with heap:=h',drawn:=dr}):
  an (aO prog w) A' (fK (.ref S)) Q E s:=by
 have hT:s.TypeIs (.ref S) "set" := ⟨_,x.obj,rfl⟩;have hSs:S < s.heap.objs.size:=aX x.obj;refine fA hT i6 (a9 i6 hT Dy ?_ (PySem.F.args_set_iter_1 _));unfold b7.«frozenset.__iter__» l6;refine ac (ac (al (al ?_)));unfold lV;refine ac (ac (de x.obj rfl x.fits (al ?_)));refine ac ?_;unfold setDrawn iP;refine ac (c6 x.obj rfl x.fits ?_);dsimp only;refine ac (ac (cO (al ?_)));have tail:∀{s1:ag} {dr:mD} {first:af} {h1:aB},s1={s with heap:=h1,drawn:=dr}->(∀b o,s.heap.get? b=some o->h1.get? b=some o)->(∀h',h'.get? h1.objs.size=some (BE first 0 (.ref S) es.size ep)->(∀b o,h1.get? b=some o->h'.get? b=some o)->h'.objs.size=h1.objs.size+1->Q (.ref h1.objs.size) {s with heap:=h',drawn:=dr})->
   an (aO prog w) A'.in1 (do
    let e <-setEpoch S
    let v <-kF "set_iterator" [first,bH 0,bJ S,bH es.size,bH e]
    ret v) (λfin s'=>∃v,fin=Fin.done (fF.ret v)/\∃T' r,s'.TypeIs v T'/\typeLookup (lD T') (bw "__next__")=pure (some r)/\Q v s') E s1:=by
  intro s1 dr first h1 e k hq;subst e;refine ac (wpAny_setEpoch_of (s:={s with heap:=h1,drawn:=dr}) (k _ _ x.obj) rfl x.fits ?_);refine ac (aZ (al ⟨_,rfl, "set_iterator",_,⟨_,ax _ rfl,rfl⟩,qL.lookup,?_⟩));exact hq _ (ax _ rfl) (λb o e=>aj _ e) (bk _ _)
 have place:∀{out:List af} (slot:Nat->Nat),slot 0=0->out.Perm (es.toList.map (·.2))->(∀{A':aH} {E':af->ag->Prop} {s:ag} (i:Nat) (Q':Option (af×Nat)->ag->Prop),oi prog w s.heap S es ep t->i<=es.size->Q' (out[i]?.map λv=>(v,slot (i+1))) s->an (aO prog w) A' (iO S (slot i) i ep) Q' E' s)->
   ∀h',h'.get? s.heap.objs.size=some (BE (.int 0 0) 0 (.ref S) es.size ep)->(∀b o,s.heap.get? b=some o->h'.get? b=some o)->h'.objs.size=s.heap.objs.size+1->Q (.ref s.heap.objs.size) {s with heap:=h'}:=by
  intro out slot h0 hp hn h' e k hs
  have hl:out.length=es.size:=by rw[hp.length_eq,aU,bF]
  refine h h' s.drawn s.heap.objs.size _ _ out hp (Er hh (aS hSs) slot hn hl) ⟨by rw[h0];exact e,x.at λo e=>k S o e⟩ k (m9 _) ah λb hb=>?_
  rcases aA.mp hb with q | q
  .rw[q,hs];exact⟨.inr (m9 _),aR _⟩
  .rw[am.mp q,hs];exact⟨.inl rfl,ci hSs⟩
 refine al ?_
 cases hb:w.params.followText "set-order" with
 |true=>
  refine xq (show (!(w.params.followText "set-order")&&(!t.plain&&decide (es.size > 1)))=false by rw[hb];rfl) (ac (al (tail (dr:=s.drawn) rfl (λb o e=>e) ?_)));have hp:((pickOrder (w.params.setOrder S ep) es).toList.map (·.2)).Perm (es.toList.map (·.2)):=List.Perm.map _ (zb _ es.size 0 es.toList #[] (bF).symm);refine place (λZ=>0) rfl hp λi Q' x' Z hq=>Gz x' hb ?_;rw[br,Option.map_map,dW] at hq;exact hq
 |false=>
  rcases hz with hz | hz
  .refine xq (show (!(w.params.followText "set-order")&&(!t.plain&&decide (es.size > 1)))=false by rw[hz];show (_&&(_&&false))=false;rw[cC,cC]) (ac (al (tail (dr:=s.drawn) rfl (λb o e=>e) ?_)));obtain ⟨e0,he⟩:∃e0,es=#[e0]:=iZ.mp hz
   obtain ⟨j,hj⟩:∃j,t.place=#[j]:=iZ.mp (by
    have:=x.fits;unfold eX.fits at this
    rw[<-hz];exact eq_of_beq (b2 this).1)
   refine place (out:=[e0.2]) (λi=>if i=0 then 0 else j+1) rfl (by rw[he];exact gK _) λi Q' x' hi hq=>IP x' hb he hj ?_;rw[hz] at hi
   have hi:i=0\/i=1:=by omega
   rcases hi with rfl | rfl
   .rw[if_neg (by simp)];exact hq
   .rw[if_pos (by simp)];exact hq
  .have XX:t.plain=false:=x.plain (by omega)
   have yes:∀{α:Type} {c:Bool} {m m':jM α} {Q:α->ag->Prop},c=true->an (aO prog w) A'.in1 m Q E s->an (aO prog w) A'.in1 (if c=true then m else m') Q E s:=λhc h=>by rw[if_pos hc];exact h
   refine yes (show (!(w.params.followText "set-order")&&(!t.plain&&decide (es.size > 1)))=true by rw[hb,XX,hz];rfl) (ac (Bu es.size (aM es.size) d4.symm λpl dr hp=>?_))
   have hl:pl.length=es.size:=by rw[hp.length_eq,d4]
   have kT:∀b o,s.heap.get? b=some o->(s.heap.push (qY (pl.map λq:Nat=>.int q 0) 0)).get? b=some o:=λb o e=>aj _ e;have Ze:(s.heap.push (qY (pl.map λq:Nat=>.int q 0) 0)).get? s.heap.objs.size=some (qY (pl.map λq:Nat=>.int q 0) 0):=ax _ rfl;have zT:(s.heap.push (qY (pl.map λq:Nat=>.int q 0) 0)).objs.size=s.heap.objs.size+1:=bk _ _;refine ac (aZ (s:={s with drawn:=dr}) (tail (h1:=s.heap.push (qY (pl.map λq:Nat=>.int q 0) 0)) (dr:=dr) rfl kT ?_) ?_)
   .generalize s.heap.push (qY (pl.map λq:Nat=>.int q 0) 0)=H at kT Ze zT ⊢;intro h' e k hs
    have lT:s.heap.objs.size < H.objs.size:=by rw[zT];exact aR _
    have lS:S < H.objs.size:=j4 hSs lT
    have lH:H.objs.size < h'.objs.size:=by rw[hs];exact aR _
    have nH:s.heap.get? H.objs.size=none:=by
     cases q:s.heap.get? H.objs.size with
     |none=>rfl
     |some o=>exact absurd (aX q) (gN.mpr (gr lT))
    have WS:(aM es.size).map (λp=>((es[p]?).map (·.2)).getD .none)=es.toList.map (·.2):=by
     refine fm λi=>?_;have q:es.toList[i]?=es[i]?:=dW;rw[br,br,q]
     rcases bE i es.size with hi | hi
     .rw[gc hi];show some (((es[i]?).map (·.2)).getD .none)=_;rw[eG hi];rfl
     .rw[bx (by rw[d4];exact hi),Array.getElem?_eq_none hi];rfl
    refine h h' dr H.objs.size _ _ (pl.map λp=>((es[p]?).map (·.2)).getD .none) (by rw[<-WS];exact hp.map _) (Ep (pl:=pl) (T:=s.heap.objs.size) hh (aS lS) (aS lT) hl λi hi=>?_) ⟨e,k _ _ Ze,x.at λo e=>k S o (kT S o e)⟩ (λb o e=>k b o (kT b o e)) nH ah λb hb=>?_
    .have XA:i < pl.length:=by omega
     have hm:pl[i]∈aM es.size:=hp.mem_iff.mp (kr XA);have hlt:=lz.mp hm;refine⟨pl[i],es[pl[i]].1,es[pl[i]].2,au XA,eG hlt,?_⟩;rw[br,au XA];show some (((es[pl[i]]?).map (·.2)).getD .none)=_;rw[eG hlt];rfl
    .rcases aA.mp hb with q | q
     .rw[q];exact⟨.inr nH,lH⟩
     .rcases aA.mp q with q | q
      .rw[q];exact⟨.inr (m9 _),j4 lT lH⟩
      .rw[am.mp q];exact⟨.inl rfl,j4 lS lH⟩
   .show (pl.map λq:Nat=>bH q).toArray.size<=bp;rw[cu];simp [hl,hz]
end
section
variable {s:ag}{S:ai}{es:Array (Int×af)}{ep:Nat}{t:eX}
theorem JJ{Q:Bool->ag->Prop}(hT:s.TypeIs (.ref S) "set")(h:Q false s):an (aO prog w) A (gj (.ref S)) Q E s:=by
 unfold gj;refine ac (wpAny_specialOf hT PySem.F.slot_set_len.lookup ?_);generalize hid:("set.__len__" : String)=id0
 wp_delta
 rw[show splitId id0=some ("set", "__len__") from by subst hid;decide +kernel];subst hid;refine ac (fN (T:="set") (b:=true) hT (by rw[gT];kernel_rfl) ?_);refine wpAny_ite_split (λVh=>absurd Vh (by decide)) (λZ=>?_);refine wpAny_ite_split (λZ=>?_) (λVh=>absurd (by decide +kernel) Vh);refine ac (iR hT ?_);exact al h
theorem JV{a b:aI}(two:A9 es a b):es.size=1\/es.size=2:=by
 refine mO two λss h1 h2=>?_
 have e:es.size=(if a=b then [a] else [a,b]).length:=by rw[<-h1.length_eq,<-h2.length,aU,bF]
 split at e
 .exact .inl e
 .exact .inr e
theorem Bo{a b:aI}(hh:A.handled=none)(x:oi prog w s.heap S es ep t)(two:A9 es a b){R:List af->ag->Prop}(h:∀h' dr tk xs ss,(∀b o,s.heap.get? b=some o->h'.get? b=some o)->ss.Perm (if a=b then [a] else [a,b])->fq xs ss->R xs {s with heap:=h',drawn:=dr,toks:=tk}):
  an (aO prog w) A (mx (.ref S)) R E s:=by
 have hz:=JV two;have hSs:S < s.heap.objs.size:=aX x.obj;unfold mx;refine ac (wpAny_runValue (dM PySem.F.entry_proto_collect ?_));rw[ec PySem.F.plain_proto_collect _];show an _ A.in1 (iN [] >>= λl=>again (.builtin "list.__iadd__" ⟨[l,.ref S],[]⟩)) _ _ s;refine ac (aZ ?_);refine al ⟨ik iy _,dM PySem.F.entry_list_iadd ?_⟩;rw[ec iy _];have hD:(s.heap.push (pF [] 0)).get? s.heap.objs.size=some (pF [] 0):=ax _ rfl;have kD:∀b o,s.heap.get? b=some o->(s.heap.push (pF [] 0)).get? b=some o:=λb o e=>aj _ e;have zD:(s.heap.push (pF [] 0)).objs.size=s.heap.objs.size+1:=bk _ _;show an _ A.in1 (gh (.ref s.heap.objs.size) (.ref S) (.ref s.heap.objs.size)) _ _ {s with heap:=s.heap.push (pF [] 0)};generalize s.heap.push (pF [] 0)=H at hD kD zD ⊢;have xH:oi prog w H S es ep t:=x.at λo e=>kD S o e;have hT:eY {s with heap:=H} (.ref S) "set" := ⟨_,xH.obj,rfl⟩;unfold gh;refine ac (iR hT ?_)
 have h1:b7.List.listSameRef (.ref s.heap.objs.size) (.ref S)=false:=by
  show (s.heap.objs.size==S)=false;exact b9.mpr λq=>absurd (eq_of_beq q) (dz hSs)
 refine xq (by rw[h1];rfl) ?_;refine ac (JK (s:={s with heap:=H}) (A:=A.in1) hh xH hz λh' dr I fp St out hp W st k hI hIf Z5=>?_);have hT':eY {s with heap:=h',drawn:=dr} (.ref S) "set" := ⟨_,k _ _ xH.obj,rfl⟩;refine ac (aK (JJ hT' ?_))
 have yes:∀{α:Type} {c:Bool} {m m':jM α} {Q:α->ag->Prop} {E:af->ag->Prop} {s:ag},c=true->an (aO prog w) A.in1 m Q E s->an (aO prog w) A.in1 (if c=true then m else m') Q E s:=λhc h=>by rw[if_pos hc];exact h
 refine yes (by decide +kernel) (ac (fO (ac ?_)));show an _ A.in1 (updateSeq s.heap.objs.size (·.push .none) >>= λZ=>updateSeq s.heap.objs.size (·.pop)) _ _ {s with heap:=h',drawn:=dr};have hD':=k _ _ hD;refine ac (wpAny_updateSeq (s:={s with heap:=h',drawn:=dr}) hD' rfl ?_);have hD2:=aW (cS (·.push bX)) hD' rfl;refine wpAny_updateSeq hD2 rfl ?_;have hD3:=aW (cS (·.pop)) hD2 rfl
 have oth:∀b o,b≠s.heap.objs.size->h'.get? b=some o->((h'.update s.heap.objs.size (cS (·.push bX))).update s.heap.objs.size (cS (·.pop))).get? b=some o:=
  λb o hb e=>(bg _ _ (eZ hb)).trans ((bg _ _ (eZ hb)).trans e)
 generalize (h'.update s.heap.objs.size (cS (·.push bX))).update s.heap.objs.size (cS (·.pop))=h2 at hD3 oth ⊢
 have hDf:s.heap.objs.size∉fp:=λhm=>by
  rcases (Z5 _ hm).1 with q | q
  .exact absurd q (dz hSs)
  .rw[hD] at q;exact mV q.symm
 have hn:es.size<=bp:=by
  rw[cu]
  rcases hz with q | q<;>rw[q]<;>decide
 refine al ⟨ik PySem.F.plain_extend_loop _,codeAny_extend_loopS W hn _ hDf _ es.size 0 _ _ _ rfl (bc _) (W.frame 0 {s with heap:=h',drawn:=dr} h2 s.toks st (aQ _) λb hb o e=>oth b o (λq=>hDf (q▸hb)) e) hD3 (ItemsOf.nil _) λs' VG c' hm hS' V6=>?_⟩;show an _ A (load s.heap.objs.size >>= _) _ _ s';refine ac (jR hS' (al ?_));refine mO two λss h3 h4=>?_
 have hout:VG.toList=out:=by
  refine fm λj=>?_;rw[dW]
  have XZ:out.length=es.size:=by rw[hp.length_eq,aU,bF]
  cases e:VG[j]? with
  |some v=>exact (V6.2 j v e).symm
  |none=>
   have hj:es.size<=j:=by rw[<-V6.1];exact Array.getElem?_eq_none_iff.mp e
   exact (bx (by rw[XZ];exact hj)).symm
 refine mO (zm hp h4) λWN h5 h6=>?_;obtain ⟨hh',g',d',Wm,XU⟩:=s';have eg:g'=s.gens:=hm.gens;have ed:d'=dr:=hm.drawn;have eo:XU=s.os:=hm.os;subst eg;subst ed;subst eo;rw[hout];refine h hh' d' Wm out WN (λb o e=>hm.heap b o (λhb=>?_) (oth b o (aS (aX e)) (k b o (kD b o e)))) (h5.trans h3) h6
 rcases aA.mp hb with q | q
 .exact absurd q (aS (aX e))
 .have Zf:H.get? I=none:=hI;rw[am.mp q] at e;rw[kD _ _ e] at Zf;exact mV Zf.symm
end
theorem LV{P:Pg}{q:Bool}{C:Call}{a b:MX}:((dE P q C a ρ σ).bind λx σ=>(dE P q C b ρ σ).bind λy σ=>uF x y σ)=(dL P q C (.cons a (.cons b .nil)) ρ σ).bind λl σ=>R.opt (hd l) λx=>R.opt (hd (tl l)) λy=>uF x y σ:=by
 show _=((dE P q C a ρ σ).bind λx σ=>((dE P q C b ρ σ).bind λy σ=>R.ok [y] σ).bind λl σ=>.ok (x::l) σ).bind _
 cases dE P q C a ρ σ with
 |bad=>rfl
 |exc _ _=>rfl
 |ok x σ=>
  show _=(((dE P q C b ρ σ).bind λy σ=>R.ok [y] σ).bind λl σ=>R.ok (x::l) σ).bind _;show (dE P q C b ρ σ).bind _=_
  cases dE P q C b ρ σ<;>rfl
theorem LW{p:A1}(gl:oR p.G W p.mg p.mb)(ok:ot W p.G.P):C8 p W:=by
 intro d C c q A a b x y Wp VP VA pos U9 ar g1 g2 hx hy ha hb ρ φ σ s Q E H h;have h:=mS.gd (show mS W c φ s (gd (q=false) ((dE p.G.P q C a ρ σ).bind λx σ=>(dE p.G.P q C b ρ σ).bind λy σ=>uF x y σ)) (mT W) Q E from h);have hh:A.handled=none:=ar.handled h.1;have h:=h.2;rw[LV] at h;refine cB (rH gl (x:="sorted") (y:=.builtin "sorted") (by decide) (by kernel_rfl) g1 H ?_);rw[oM _ _ rfl];refine qV (first:=[]) (id:="sorted") (spliced_cons ?_);refine cB (rH gl (x:="set") (y:=.type "set") (by decide) (by kernel_rfl) g2 H ?_);rw[oM _ _ rfl];refine pD (first:=[]) (T:="set") (spliced_cons ?_);show an W.M A (do lq VA;iN (<-fw (mu VA (iB [x,y] c.env)))) _ E s;rw[oM _ _ (show [x,y].all nj=true by show (nj x&&(nj y&&true))=true;rw[hx,hy];rfl)];refine ac (bv (ac (uE (.cons ha (.cons hb .nil)) H (mS.bind h λl σ' TV ys s' el g rl hk=>?_))));refine mO (mS.opt hk) λu e1 hk=>?_;refine mO (mS.opt hk) λv e2 hk=>?_;refine mO (mS.opt hk) λi e3 hk=>?_;refine mO (mS.opt hk) λj e4 hk=>?_
 have hl:l=[u,v]:=by
  have hlen:=nV.length (nV.cons ha (.cons hb .nil)) el;rw[s6 e1,s6 e2];rw[s6 e1,s6 e2] at hlen;rw[fh.mp (c0 (c0 hlen))]
 rw[hl,oF e3,oF e4] at rl;refine CX g.inv rl (show 2<=ni by decide) λz s1 g1 rz=>spliced_nil ?_;refine nk rz λD xs n Uc Z Z hD ZA=>?_;subst Uc;refine Ch ZA λy0 r0 q0 Xa y1 r1 q2 Zu q4=>?_;obtain ⟨sa,ta,f1,q1⟩:=Xa;obtain ⟨sb',tb,f2,q3⟩:=Zu;rw[q0,q1,q2,q3,show r1=[] from q4] at hD;refine Ga (prog:=W.prog) (w:=W.w) hh hD λh2 YW es ep t x2 two k2=>spliced_nil ?_;have g2':Good W [] TV s1 σ' TV {s1 with heap:=h2,toks:=YW}:=Good.keeps g1.inv k2
 have hS:(if sa=sb' then [sa] else [sa,sb'])=pc W.S (if i=j then [i] else [i,j]):=by
  by_cases Wh:i=j
  .subst Wh;have e:sa=sb':=ae (f1.symm.trans f2);rw[if_pos e,if_pos rfl,qg f1];rfl
  .have e:sa≠sb':=λe=>Wh (by
    have l1:=nO f1;have l2:=nO f2;rw[au l1] at f1;rw[au l2] at f2
    exact (kq ok.nodup).mp ((ae f1).trans (e.trans (ae f2).symm)))
   rw[if_neg e,if_neg Wh,qg f1,qg f2];rfl
 refine yl (P:=p.G.P) ok g2'.inv (ks:=if i=j then [i] else [i,j]) false (λk hk=>?_) (by split;exact (show 1<=16 by decide);exact (show 2<=16 by decide)) (λR hR=>Bo (prog:=W.prog) (w:=W.w) (A:=A.in1) hh x2 two λh3 dr tk xs ss kk hp hs=>?_) λYU y3 s3 mk=>?_
 .have:k=i\/k=j:=by
   split at hk
   .exact .inl (am.mp hk)
   .rcases aA.mp hk with q | q
    .exact .inl q
    .exact .inr (am.mp q)
  rcases this with q | q
  .rw[q];exact nO f1
  .rw[q];exact nO f2
 .rw[hS] at hp;refine mO (vm hp.symm (if i=j then [i] else [i,j]) rfl) λUX h5 h6=>?_;exact hR h3 dr tk xs UX kk h5 (by rw[h6] at hs;exact hs)
 .have e5:rP (if i=j then [i] else [i,j])=if i=j then [i] else rP [i,j]:=by split<;>rfl
  have mk:Good W [] TV {s1 with heap:=h2,toks:=YW} σ' YU s3/\mT W YU s3.heap (.lst ((rP (if i=j then [i] else [i,j])).map .sym)) y3:=mk;rw[e5] at mk;exact hk _ _ _ ((g1.trans g2').trans mk.1) mk.2
section
open L2
inductive Bs where
 |int | bool | set | str | none
inductive Dm where
 |d0 | d1 | d2
structure Kd where
 b:Bs
 v:Bool
 d:Dm
noncomputable def Bs.id:Bs->Nat
 |.int=>103 | .bool=>42 | .set=>163 | .str=>170 | .none=>130
noncomputable def Dm.n:Dm->Int
 |.d0=>0 | .d1=>1 | .d2=>2
noncomputable def Kd.val(k:Kd):V:=.tup [.sym k.b.id,.bool k.v,.int k.d.n]
noncomputable def ov:Option Kd->V
 |some k=>k.val
 |none=>.none
noncomputable def Bs.beq:Bs->Bs->Bool
 |.int,.int=>true | .bool,.bool=>true | .set,.set=>true | .str,.str=>true | .none,.none=>true | _,_=>false
noncomputable def Dm.beq:Dm->Dm->Bool
 |.d0,.d0=>true | .d1,.d1=>true | .d2,.d2=>true | _,_=>false
theorem Bs.beq_eq{a b:Bs}:a.beq b=true->a=b:=by cases a<;>cases b<;>first | exact λZ=>rfl | exact mP
theorem Dm.beq_eq{a b:Dm}:a.beq b=true->a=b:=by cases a<;>cases b<;>first | exact λZ=>rfl | exact mP
noncomputable def Kd.beq(x y:Kd):Bool:=x.b.beq y.b&&(x.v==y.v&&x.d.beq y.d)
theorem Kd.beq_eq{x y:Kd}(h:x.beq y=true):x=y:=by
 obtain ⟨b,v,d⟩:=x;obtain ⟨b',v',d'⟩:=y;have h1:=b2 h;have h2:=b2 h1.2;have e1:b=b':=Bs.beq_eq h1.1;have e2:v=v':=eq_of_beq h2.1;have e3:d=d':=Dm.beq_eq h2.2;rw[e1,e2,e3]
noncomputable def Ci:Option Kd->Option Kd->Bool
 |none,none=>true
 |some x,some y=>x.beq y
 |_,_=>false
theorem sT{x y:Option Kd}(h:Ci x y=true):x=y:=by
 cases x with
 |none=>cases y with
  |none=>rfl
  |some _=>exact mP h
 |some x=>cases y with
  |none=>exact mP h
  |some y=>rw[Kd.beq_eq h]
noncomputable def jb(a b:Bs):Option Bs:=if a.beq b||b.beq .none then some a else if a.beq .none then some b else if (a.beq .int||a.beq .bool)&&(b.beq .int||b.beq .bool) then some .int else none
noncomputable def cm(x y:Kd):Option Kd:=if x.d.beq y.d then (jb x.b y.b).map λb=>⟨b,x.v||y.v,x.d⟩ else none
noncomputable def ou(x y:Option Kd):Option Kd:=x.bind λx=>y.bind λy=>cm x y
theorem Tg{a b:Bool}(h:(!a||b)=true)(e:a=true):b=true:=by rw[e] at h;exact h
section
variable {q:Bool}{A rest:St}{sp:Int}
end
end
variable {o:Option Kd}
noncomputable abbrev N(ε α:Type):=(α->St->Bool)->(ε->St->Bool)->Bool
namespace N
variable {ε Us α β:Type}
noncomputable def ok(a:α)(σ:St):N ε α:=λk Z=>k a σ
noncomputable def exc(e:ε)(σ:St):N ε α:=λZ x=>x e σ
noncomputable def bad:N ε α:=λZ Z=>false
noncomputable def bind(m:N ε β)(f:β->St->N ε α):N ε α:=λk x=>m (λa σ=>f a σ k x) x
noncomputable def lift(e:ε)(m:N Unit α):N ε α:=λk x=>m k λZ σ=>x e σ
noncomputable def opt(o:Option β)(f:β->N ε α):N ε α:=match o with
 |some a=>f a
 |none=>bad
noncomputable def fin(m:N ε β)(f:β->St->N Us α)(g:ε->St->N Us α):N Us α:=λk x=>m (λa σ=>f a σ k x) λe σ=>g e σ k x
noncomputable def gd(p:Prop)[Decidable p](m:N ε α):N ε α:=if p then m else bad
noncomputable def did(r:R ε α):N ε α:=match r with
 |.ok a σ=>ok a σ
 |_=>bad
noncomputable def of(o:Option α)(σ:St):N ε α:=opt o λa=>ok a σ
end N
noncomputable abbrev we:=Nat->List V->St->N Unit V
mutual
noncomputable def pZ:V->Bool
 |.obj _=>false
 |.tup l=>oh l
 |.lst l=>oh l
 |.dct l=>Dh l
 |_=>true
noncomputable def oh:List V->Bool
 |[]=>true
 |v::l=>pZ v&&oh l
noncomputable def Dh:List (Nat×V)->Bool
 |[]=>true
 |(_,v)::l=>pZ v&&Dh l
end
noncomputable def xo(c:Nat):Bool:=decide (998<=c)||(c==994||c==993)
noncomputable def MC(σ:St)(n:Nat):Bool:=match σ[n]? with
 |some (.inst c _)=>xo c
 |_=>false
noncomputable def Ll(σ:St)(n:Nat):Bool:=match σ[n]? with
 |some (.inst c _)=>c==999||(decide (1000<=c)&&!(c==1042))
 |_=>false
noncomputable def Nj(σ:St)(n:Nat)(i:Int):Option V:=match σ[n]? with
 |some (.inst c d)=>if 1000<=c then (if i=0 then some (.sym (c - 1000)) else og (i=1) (.int d)) else if c=999 then og (i=1) (.int d) else if c=998 then og (i=1) (.bool (d==1)) else og (c=993/\i=2) (.int d)
 |_=>none
noncomputable def ER(c i:V):Option V:=match c with
 |.tup l=>match i with
  |.int j=>match j with
   |.ofNat n=>l[n]?
   |_=>none
  |_=>none
 |_=>none
noncomputable def Rc(P:Pg)(σ:St)(c i:V):Option V:=orElse (ER c i) (orElse (tL P σ c i) ((pB c).bind λn=>(nI i).bind (Nj σ n)))
noncomputable def Ij:List V->Bool
 |.sym k::_=>k==42
 |_=>false
noncomputable def GB(σ:St)(a:V):V->Option Bool:=V.rec (motive_1:=λZ=>V->Option Bool) (motive_2:=λZ=>List V->Option Bool) (motive_3:=λZ=>Unit) (motive_4:=λZ=>Unit)
 (λb=>match b with
  |.obj n=>og (MC σ n=true) false
  |b=>some (pL .none b))
 (λt b=>match b with
  |.obj _=>none
  |b=>some (pL (.bool t) b))
 (λt b=>match b with
  |.obj _=>none
  |b=>some (pL (.int t) b))
 (λt b=>match b with
  |.obj _=>none
  |.sym u=>some (t==u)
  |b=>some (pL (.sym t) b))
 (λt b=>match b with
  |.obj _=>none
  |b=>some (pL (.txt t) b))
 (λa f b=>match b with
  |.tup l=>f l
  |.obj n=>og (Ll σ n=true/\Ij a=true) false
  |_=>some false)
 (λa f b=>match b with
  |.lst l=>f l
  |.obj _=>none
  |_=>some false)
 (λl Z b=>match b with
  |.obj _=>none
  |b=>some (pL (.dct l) b))
 (λn b=>match b with
  |.obj m=>og (MC σ n=true/\n=m) true
  |.tup l=>og (Ll σ n=true/\Ij l=true) false
  |.none=>og (MC σ n=true) false
  |_=>none)
 (λr=>match r with
  |[]=>some true
  |_=>some false)
 (λZ Z f g r=>match r with
  |b::r=>(f b).bind λt=>if t then g r else some false
  |[]=>some false)
 () (λZ Z Z Z=>()) (λZ Z Z=>()) a
noncomputable abbrev Rd(σ:St)(l r:List V):Option Bool:=GB σ (.tup l) (.tup r)
noncomputable def uu(σ:St)(n:Nat)(v:V):Bool:=V.rec (motive_1:=λZ=>Nat->Bool) (motive_2:=λZ=>Nat->Bool) (motive_3:=λZ=>Unit) (motive_4:=λZ=>Unit)
 (λZ=>true) (λZ Z=>true) (λZ Z=>true) (λZ Z=>true) (λZ Z=>false)
 (λZ f n=>match n with
  |0=>false
  |n+1=>f n)
 (λZ f n=>match n with
  |0=>false
  |n+1=>f n)
 (λZ Z Z=>false)
 (λm n=>decide (30<=n)&&MC σ m)
 (λZ=>true) (λZ Z f g n=>f n&&g n)
 () (λZ Z Z Z=>()) (λZ Z Z=>()) v n
noncomputable abbrev Lp(σ:St)(n:Nat)(l:List V):Bool:=uu σ (n+1) (.tup l)
noncomputable def H0(a b:V):Option Bool:=match a with
 |.sym a=>match b with
  |.sym b=>some (a==b)
  |_=>none
 |_=>none
noncomputable def SH(σ:St)(a b:V):Option Bool:=orElse (H0 a b) (slowEq σ a b)
where slowEq (σ:St) (a b:V):Option Bool:=(GB σ (uf σ a) (uf σ b)).bind λt=>og (uu σ 40 (uf σ a)&&uu σ 40 (uf σ b)) t
noncomputable def JQ(k:Nat)(l:List V):Option Bool:=List.rec (motive:=λZ=>Option Bool) (some false) (λv Z t=>match v with
 |.sym j=>t.map λb=>j==k||b
 |_=>none) l
noncomputable def ve(σ:St)(l:List V):Option Bool:=List.rec (motive:=λZ=>Option Bool) (some false) (λv Z t=>match v with
 |.none=>t.map λZ=>true
 |.obj n=>if MC σ n then t else none
 |.tup l=>if uu σ 39 (.tup l) then t else none
 |_=>none) l
noncomputable def NU(σ:St)(a b:V):Option Bool:=match a with
 |.sym k=>match b with
  |.tup l=>JQ k l
  |_=>none
 |.none=>match b with
  |.lst l=>ve σ l
  |_=>none
 |_=>none
noncomputable def SI(σ:St)(a b:V):Option Bool:=orElse (NU σ a b) (Cu σ a b)
noncomputable def OD(σ:St)(op:Hl)(a b:V):Option Bool:=match op with
 |.eq=>SH σ a b
 |.ne=>(SH σ a b).map not
 |.isin=>SI σ a b
 |.notin=>(SI σ a b).map not
 |op=>Cs σ op a b
noncomputable def E6(σ:St)(v:V)(f:Nat->List (Nat×V)->Nat->Option α):Option α:=(pB v).bind λn=>(uq σ n).bind λc=>(og (c.1 < 900) c).bind λc=>(dictAt σ c.2).bind λl=>f c.1 l c.2
noncomputable def MH(σ:St)(v:V)(k:Nat):Option V:=E6 σ v λZ l Z=>qj l k
noncomputable def MI(P:Pg)(σ:St)(v:V)(k:Nat):Option Nat:=E6 σ v λc l Z=>if (qj l k).isNone then P.meth c k else none
noncomputable def IH(σ:St)(v:V)(k:Nat)(x:V):Option St:=E6 σ v λZ l d=>og (l.length < ni) (σ.set d (.dict (rW l k x)))
noncomputable def ud:List Nat:=[90,192,40,195,160,20,184,155,188,175,178]
noncomputable def Nh(σ:St)(n k:Nat):Option St:=match σ[n]? with
 |some (.inst c _)=>og (c=997/\ud.contains k=true) σ
 |_=>none
noncomputable def II(σ:St)(c i x:V):Option St:=(pB c).bind λn=>(pC i).bind λk=>orElse ((dictAt σ n).bind λl=>og (l.length < ni) (σ.set n (.dict (rW l k x)))) (Nh σ n k)
noncomputable def Ab(g:mQ->St->N mQ (Fl×mQ))(r:Fl×mQ)(σ:St):N mQ (Fl×mQ):=match r.1 with
 |.next=>g r.2 σ
 |.ret _=>.ok r σ
noncomputable def Ad(it:It)(f:V->St->N Unit (Option V)):Nat->Nat->List V->St->N Unit (List V)
 |0,_,_,_=>.bad
 |k+1,i,acc,σ=>N.opt (it.at i σ) λw=>match w with
  |none=>.ok acc σ
  |some v=>(f v σ).bind λr σ'=>match r with
   |some x=>N.gd (acc.length < ni) (Ad it f k (i+1) (acc++[x]) σ')
   |none=>Ad it f k (i+1) acc σ'
noncomputable def DJ(it:It)(f:V->mQ->St->N mQ (Fl×mQ)):Nat->Nat->mQ->St->N mQ (Fl×mQ)
 |0,_,_,_=>.bad
 |k+1,i,ρ,σ=>N.opt (it.at i σ) λw=>match w with
  |none=>.ok (.next,ρ) σ
  |some v=>(f v ρ σ).bind (Ab (DJ it f k (i+1)))
noncomputable def DK(c:mQ->St->N Unit Bool)(f:mQ->St->N mQ (Fl×mQ)):Nat->mQ->St->N mQ (Fl×mQ)
 |0,_,_=>.bad
 |k+1,ρ,σ=>((c ρ σ).lift ρ).bind λb T5=>match b with
  |true=>(f ρ T5).bind (Ab (DK c f k))
  |false=>.ok (.next,ρ) T5
structure nh where
 E:mQ->St->N Unit V
 T:mQ->St->N Unit Bool
 L:mQ->St->N Unit (List V)
 F:mQ->St->N Unit Nat
 and:mQ->St->N Unit V
 or:mQ->St->N Unit V
 all:mQ->St->N Unit Bool
 any:mQ->St->N Unit Bool
 I:mQ->St->N Unit It
 A:V->mQ->St->N mQ mQ
 As:List V->mQ->St->N mQ mQ
 nil:Bool
noncomputable def nB{α:Type}:mQ->St->N Unit α:=λZ Z=>.bad
noncomputable def OC:V->mQ->St->N mQ mQ:=λZ Z Z=>.bad
noncomputable def Rb:List V->mQ->St->N mQ mQ:=λZ Z Z=>.bad
noncomputable def nh.ofTA(f:mQ->St->N Unit V)(t:mQ->St->N Unit Bool)(A:V->mQ->St->N mQ mQ):nh:=⟨f,t,nB,nB,nB,nB,nB,nB,λρ σ=>(f ρ σ).bind λv σ=>.did (xp v σ),A,Rb,false⟩
noncomputable def nh.ofT(f:mQ->St->N Unit V)(t:mQ->St->N Unit Bool):nh:=.ofTA f t OC
noncomputable def nh.ofEA(f:mQ->St->N Unit V)(A:V->mQ->St->N mQ mQ):nh:=.ofTA f (λρ σ=>(f ρ σ).bind λv σ=>.of (pp v) σ) A
noncomputable def nh.ofE(f:mQ->St->N Unit V):nh:=.ofEA f OC
noncomputable def nh.ofI(f:mQ->St->N Unit It):nh:=⟨nB,nB,nB,nB,nB,nB,nB,nB,f,OC,Rb,false⟩
section
variable (P:Pg)(q:Bool)(C:we)
noncomputable def Fg(v:V):nh:=
 .ofE λZ σ=>.gd (pZ v=true) (.ok v σ)
noncomputable def Fo(i:Nat):nh:=
 .ofEA (λρ σ=>.of (ρ[i]?.join) σ) (λv ρ σ=>.gd (i < ρ.length) (.ok (ρ.set i (some v)) σ))
noncomputable def Cc(k:Nat):nh:=
 .ofE λZ σ=>.ok (P.const k) σ
noncomputable def Fj:nh:=
 ⟨nB,λZ σ=>.ok true σ,λZ σ=>.ok [] σ,λZ σ=>.ok 0 σ,nB,nB,λZ σ=>.ok true σ,λZ σ=>.ok false σ,nB,OC,λl ρ σ=>.opt (sP l) λZ=>.ok ρ σ,true⟩
noncomputable def B8(_ _:MX)(e es:nh):nh:=
 ⟨nB,nB,
   λρ σ=>(e.E ρ σ).bind λv σ=>(es.L ρ σ).bind λl σ=>.ok (v::l) σ,
   λρ σ=>(e.E ρ σ).bind λv σ=>.opt (vl P v) λk=>.gd (k<=1000) ((es.F ρ σ).bind λn σ=>.ok (k+n) σ),
   λρ σ=>if es.nil then e.E ρ σ else (e.E ρ σ).bind λv σ=>.opt (pp v) λb=>if b then es.and ρ σ else .ok v σ,
   λρ σ=>if es.nil then e.E ρ σ else (e.E ρ σ).bind λv σ=>.opt (pp v) λb=>if b then .ok v σ else es.or ρ σ,
   λρ σ=>(e.T ρ σ).bind λb σ=>if b then es.all ρ σ else .ok false σ,
   λρ σ=>(e.T ρ σ).bind λb σ=>if b then .ok true σ else es.any ρ σ,nB,OC,
   λl ρ σ=>.opt (hd l) λv=>(e.A v ρ σ).bind λρ σ=>es.As (tl l) ρ σ,false⟩
noncomputable def Fn(es:MX)(Uu:nh):nh:=
 .ofEA (λρ σ=>(Uu.L ρ σ).bind λl σ=>.gd (l.length<=ni) (.ok (.tup l) σ))
   (λv ρ σ=>.gd (q=false) (.opt (pQ v) λl=>.gd (Li es=l.length) (Uu.As l ρ σ)))
noncomputable def Fh(m:Bool)(_:MX)(es:nh):nh:=
 .ofE λρ σ=>(es.L ρ σ).bind λl σ=>.gd (l.length<=ni) (.did (newL m l σ))
noncomputable def B9(ks:List Nat)(_:MX)(es:nh):nh:=
 .ofE λρ σ=>(es.L ρ σ).bind λl σ=>.did (ul ks l σ)
noncomputable def B5(_:MX)(k:Nat)(e:nh):nh:=
 .ofEA (λρ σ=>(e.E ρ σ).bind λv σ=>.of (MH σ v k) σ)
   (λx ρ σ=>((e.E ρ σ).lift ρ).bind λv σ=>.opt (IH σ v k x) λσ'=>.ok ρ σ')
noncomputable def Fe(_ _:MX)(e i:nh):nh:=
 .ofEA (λρ σ=>(e.E ρ σ).bind λc σ=>(i.E ρ σ).bind λi σ=>.of (Rc P σ c i) σ)
   (λx ρ σ=>((e.E ρ σ).lift ρ).bind λc σ=>((i.E ρ σ).lift ρ).bind λi σ=>.opt (II σ c i x) λσ'=>.ok ρ σ')
noncomputable def Cf(_ _:MX)(e i:nh):nh:=
 .ofE λρ σ=>(e.E ρ σ).bind λc σ=>(i.E ρ σ).bind λi σ=>.of (uB σ c i) σ
noncomputable def Fc(op:Kn)(_ _:MX)(a b:nh):nh:=
 .ofE λρ σ=>(a.E ρ σ).bind λa σ=>(b.E ρ σ).bind λb σ=>.of (wv P σ op a b) σ
noncomputable def Fd(op:Hl)(_ _:MX)(a b:nh):nh:=
 .ofT (λρ σ=>(a.E ρ σ).bind λa σ=>(b.E ρ σ).bind λb σ=>.of ((OD σ op a b).map .bool) σ)
   λρ σ=>(a.E ρ σ).bind λa σ=>(b.E ρ σ).bind λb σ=>.of (OD σ op a b) σ
noncomputable def Fk(_:MX)(a:nh):nh:=
 .ofT (λρ σ=>(a.E ρ σ).bind λv σ=>.of ((pp v).map λb=>.bool !b) σ) λρ σ=>(a.T ρ σ).bind λb σ=>.ok (!b) σ
noncomputable def Fb(_:MX)(es:nh):nh:=
 .ofT es.and es.all
noncomputable def IV(_:MX)(es:nh):nh:=
 .ofT es.or es.any
noncomputable def Ff(_ _ _:MX)(c a b:nh):nh:=
 .ofT (λρ σ=>(c.T ρ σ).bind λt σ=>if t then a.E ρ σ else b.E ρ σ) λρ σ=>(c.T ρ σ).bind λt σ=>if t then a.T ρ σ else b.T ρ σ
noncomputable def B6(f:Nat)(_:MX)(es:nh):nh:=
 .ofE λρ σ=>(es.L ρ σ).bind λl σ=>C f l σ
noncomputable def Cd(_:MX)(k:Nat)(_:MX)(e es:nh):nh:=
 .ofE λρ σ=>(e.E ρ σ).bind λv σ=>.opt (MI P σ v k) λf=>(es.L ρ σ).bind λl σ=>C f (v::l) σ
noncomputable def IT(b:BI)(_:MX)(e:nh):nh:=
 .ofE λρ σ=>.gd ((q&&b.loud)=false) ((e.E ρ σ).bind λv σ=>.did (DX σ b v))
noncomputable def IU(m:BM)(_ _:MX)(e es:nh):nh:=
 .ofE λρ σ=>(e.E ρ σ).bind λv σ=>.gd (HB σ m v) ((es.L ρ σ).bind λl σ=>.did (xU σ m v l))
noncomputable def Fi(c:Nat):nh:=
 .ofE λZ σ=>.opt (P.init c) λf=>.gd (c < 900) ((C f [.obj (σ.length+1)] (σ++[.dict [],.inst c σ.length])).bind λr σ'=>.opt (pJ r) λZ=>.ok (.obj (σ.length+1)) σ')
noncomputable def Ce(_ _:MX)(a b:nh):nh:=
 .ofE λρ σ=>.gd (q=false) ((a.E ρ σ).bind λa σ=>(b.E ρ σ).bind λb σ=>.did (uF a b σ))
noncomputable def Cb(n:Nat)(_:MX)(es:nh):nh:=
 .ofE λρ σ=>(es.F ρ σ).bind λk σ=>.gd (n+k<=ni) (.ok (.txt (n+k)) σ)
noncomputable def B7(t _ _ _:MX)(_ T8 cond Uv:nh):nh:=
 .ofE λρ σ=>.gd (q=false) ((T8.I ρ σ).bind λit σ=>
   (Ad it (λv σ=>.opt (qo t v ρ) λρ'=>(cond.T ρ' σ).bind λb σ=>if b then (Uv.E ρ' σ).bind λx σ=>.ok (some x) σ else .ok none σ) (it.fuel σ) 0 [] σ).bind λl σ=>.ok (.lst l) σ)
noncomputable def xG(_:MX)(_:Nat)(T8:nh):nh:=
 .ofE λρ σ=>.gd (q=false) ((T8.E ρ σ).bind λv σ=>.did (Af v σ))
noncomputable def Fm(_:MX)(es:nh):nh:=
 .ofI λρ σ=>(es.L ρ σ).bind λl σ=>.did (xZ l σ)
noncomputable def Ca(_:MX)(e:nh):nh:=
 .ofI λρ σ=>(e.E ρ σ).bind λv σ=>.of ((pQ v).map λl=>.items (uT l)) σ
noncomputable def Fp(_ _:MX)(a b:nh):nh:=
 .ofI λρ σ=>(a.E ρ σ).bind λa σ=>(b.E ρ σ).bind λb σ=>.did (FX a b σ)
noncomputable def wJ(e:MX):nh:=MX.rec (motive:=λZ=>nh) Fg Fo (Cc P) Fj (B8 P) (Fn q) Fh B9 B5 (Fe P) Cf (Fc P) Fd Fk Fb IV Ff (B6 C) (Cd P C) (IT q) IU (Fi P C) (Ce q) Cb (B7 q) (xG q) Fm Ca Fp
 e
end
noncomputable def IW(m:N mQ (Fl×mQ))(k:mQ->St->N mQ (Fl×mQ)):N mQ (Fl×mQ):=m.fin (λp σ=>match p.1 with
 |.next=>k p.2 σ
 |.ret _=>.bad) λZ Z=>.bad
noncomputable abbrev qi:=Bool->mQ->St->N mQ (Fl×mQ)
section
variable (P:Pg)(C:Bool->we)
noncomputable def CG:qi:=λZ ρ σ=>
 .ok (.next,ρ) σ
noncomputable def FI(_ _:MS)(a b:qi):qi:=λq ρ σ=>
 (a q ρ σ).bind (Ab (b q))
noncomputable def CE(e:MX):qi:=λq ρ σ=>
 (((wJ P q (C q) e).E ρ σ).lift ρ).bind λZ σ=>.ok (.next,ρ) σ
noncomputable def FE(t e:MX):qi:=λq ρ σ=>
 (((wJ P q (C q) e).E ρ σ).lift ρ).bind λv σ=>((wJ P q (C q) t).A v ρ σ).bind λρ σ=>.ok (.next,ρ) σ
noncomputable def FH(e:MX):qi:=λq ρ σ=>
 (((wJ P q (C q) e).E ρ σ).lift ρ).bind λv σ=>.ok (.ret v,ρ) σ
noncomputable def FG(c:MX)(_ _:MS)(a b:qi):qi:=λq ρ σ=>
 (((wJ P q (C q) c).T ρ σ).lift ρ).bind λt σ=>if t then a q ρ σ else b q ρ σ
noncomputable def FJ(c:MX)(_:MS)(b:qi):qi:=λq ρ σ=>
 .gd (q=false) (DK (wJ P q (C q) c).T (b q) AY ρ σ)
noncomputable def FF(t it:MX)(_:MS)(b:qi):qi:=λq ρ σ=>
 .gd (q=false) ((((wJ P q (C q) it).I ρ σ).lift ρ).bind λi σ=>
   DJ i (λv ρ σ=>.opt (qo t v ρ) λρ'=>b q ρ' σ) (i.fuel σ) 0 ρ σ)
noncomputable def zj(a b:MX):qi:=λq ρ σ=>
 .gd (q=false) ((((wJ P q (C q) a).E ρ σ).lift ρ).bind λv σ=>(((wJ P q (C q) b).E ρ σ).lift ρ).bind λx σ=>
   .gd (MD v&&isInt x) (.exc ρ σ))
noncomputable def CH(_ _:MS)(b f:qi):qi:=λq ρ σ=>
 .gd (q=false) ((b q ρ σ).fin (λp σ=>IW (f q p.2 σ) λρ σ=>.ok (p.1,ρ) σ) λρ σ=>IW (f true ρ σ) λρ σ=>.exc ρ σ)
noncomputable def CI(_ _:MS)(b h:qi):qi:=λq ρ σ=>
 .gd (q=false) ((b q ρ σ).fin (λp σ=>.ok p σ) λρ σ=>(h true ρ σ).fin (λp σ=>.ok p σ) λZ Z=>.bad)
noncomputable def CF:qi:=λZ Z Z=>
 .bad
end
noncomputable def RQ(P:Pg)(C:Bool->we)(q:Bool)(s:MS):mQ->St->N mQ (Fl×mQ):=MS.rec (motive:=λZ=>qi) CG FI (CE P C) (FE P C) (FH P C) (FG P C) (FJ P C) (FF P C) (zj P C) CH CI CF s q
noncomputable def IL(m:N mQ (Fl×mQ)):N Unit V:=m.fin (λp σ=>.ok (match p.1 with | .ret v=>v | .next=>.none) σ) λZ σ=>.exc () σ
noncomputable abbrev PN:=Bool->Nat->List V->St->Option (N Unit V)
noncomputable def q9(P:Pg)(O:PN):Nat->Bool->we
 |0,_,_,_,_=>.bad
 |d+1,q,f,args,σ=>match O q f args σ with
  |some m=>m
  |none=>.opt (P.fn f) λF=>.gd (args.length=F.params) (IL (RQ P (q9 P O d) q F.body (qX F args) σ))
variable {N0 N1:nh}{S0 S1:qi}
mutual
noncomputable def sb(ι:List V):V->Option V
 |.obj n=>ι[n]?
 |.tup l=>(oA ι l).map .tup
 |.lst l=>(oA ι l).map .lst
 |.dct l=>(te ι l).map .dct
 |v=>some v
noncomputable def oA(ι:List V):List V->Option (List V)
 |[]=>some []
 |v::l=>(sb ι v).bind λv'=>(oA ι l).map (v'::·)
noncomputable def te(ι:List V):List (Nat×V)->Option (List (Nat×V))
 |[]=>some []
 |(k,v)::l=>(sb ι v).bind λv'=>(te ι l).map ((k,v')::·)
end
def LO{α β:Type}(A:α->β->Prop)(o:Option α)(o':Option β):Prop:=∀a,o=some a->∃b,o'=some b/\A a b
section
variable {δ:Type}{A:α->β->Prop}{B:γ->δ->Prop}
theorem LO.bind{o:Option α}{o':Option β}{f:α->Option γ}{g:β->Option δ}(h:LO A o o')(k:∀a b,A a b->LO B (f a) (g b)):LO B (o.bind f) (o'.bind g):=λc e=>by
 refine mO (bs e) λa e1 e2=>?_;refine mO (h a e1) λb e3 hb=>?_;refine mO (k a b hb c e2) λd e4 hd=>?_;exact⟨d,by rw[e3];exact e4,hd⟩
theorem LO.some{a:α}{b:β}(h:A a b):LO A (some a) (some b):=λZ e=>⟨b,rfl,ae e▸h⟩
theorem LO.none{o:Option β}:LO A none o:=λZ=>mV
theorem LO.map{o:Option α}{o':Option β}{f:α->γ}{g:β->δ}(h:LO A o o')(k:∀a b,A a b->B (f a) (g b)):LO B (o.map f) (o'.map g):=λc e=>by
 refine mO (ms e) λa e1 e2=>?_;refine mO (h a e1) λb e3 hb=>?_;exact⟨g b,by rw[e3];rfl,e2▸k a b hb⟩
theorem LO.og{p p':Prop}[Decidable p][Decidable p']{a:α}{b:β}(h:p->p'/\A a b):LO A (Mine.Internal.og p a) (Mine.Internal.og p' b):=λc e=>by
 refine nE (nu e) λhp e=>?_;exact⟨b,if_pos (h hp).1,e▸(h hp).2⟩
theorem LO.orElse{o p:Option α}{o' p':Option β}(h:LO A o o')(k:LO A p p')(x:∀a,p=Option.some a->o'=Option.none):LO A (Mine.Internal.orElse o p) (Mine.Internal.orElse o' p'):=λc e=>by
 cases o with
 |some a=>
  refine mO (h a rfl) λb e1 hb=>?_;exact⟨b,by rw[e1];rfl,ae e▸hb⟩
 |none=>
  refine mO (k c e) λb e1 hb=>?_;exact⟨b,by rw[x c e,e1];rfl,hb⟩
theorem LO.refl{o:Option α}:LO Eq o o:=λa e=>⟨a,e,rfl⟩
end
section
variable {ι Vw:List V}
mutual
theorem nZ(h:∃κ,Vw=ι++κ):∀{v v':V},sb ι v=some v'->sb Vw v=some v'
 |.none,_,e=>e
 |.bool _,_,e=>e
 |.int _,_,e=>e
 |.sym _,_,e=>e
 |.txt _,_,e=>e
 |.tup l,_,e=>by
  refine mO (ms (show (oA ι l).map V.tup=_ from e)) λl' e1 e2=>?_;show (oA Vw l).map V.tup=_;rw[qU h e1,<-e2];rfl
 |.lst l,_,e=>by
  refine mO (ms (show (oA ι l).map V.lst=_ from e)) λl' e1 e2=>?_;show (oA Vw l).map V.lst=_;rw[qU h e1,<-e2];rfl
 |.dct l,_,e=>by
  refine mO (ms (show (te ι l).map V.dct=_ from e)) λl' e1 e2=>?_;show (te Vw l).map V.dct=_;rw[vu h e1,<-e2];rfl
 |.obj n,v',e=>by
  refine m4 h λκ h=>?_;show Vw[n]?=_;rw[h,ay (aq.mp (show ι[n]?=some v' from e)).1];exact e
theorem qU(h:∃κ,Vw=ι++κ):∀{l l':List V},oA ι l=some l'->oA Vw l=some l'
 |[],_,e=>e
 |v::l,_,e=>by
  refine mO (bs (show (sb ι v).bind _=_ from e)) λa e1 e=>?_;refine mO (ms e) λb e2 e=>?_;show (sb Vw v).bind _=_;rw[nZ h e1,<-e];show (oA Vw l).map _=_;rw[qU h e2];rfl
theorem vu(h:∃κ,Vw=ι++κ):∀{l l':List (Nat×V)},te ι l=some l'->te Vw l=some l'
 |[],_,e=>e
 |(k,v)::l,_,e=>by
  refine mO (bs (show (sb ι v).bind _=_ from e)) λa e1 e=>?_;refine mO (ms e) λb e2 e=>?_;show (sb Vw v).bind _=_;rw[nZ h e1,<-e];show (te Vw l).map _=_;rw[vu h e2];rfl
end
mutual
theorem o7:∀{v:V},pZ v=true->sb ι v=some v
 |.none,_=>rfl
 |.bool _,_=>rfl
 |.int _,_=>rfl
 |.sym _,_=>rfl
 |.txt _,_=>rfl
 |.tup l,h=>congrArg (cj V.tup) (qf h)
 |.lst l,h=>congrArg (cj V.lst) (qf h)
 |.dct l,h=>congrArg (cj V.dct) (zh h)
 |.obj n,h=>mP h
theorem qf:∀{l:List V},oh l=true->oA ι l=some l
 |[],_=>rfl
 |v::l,h=>by
  show (sb ι v).bind _=_;rw[o7 (b2 h).1];show (oA ι l).map _=_;rw[qf (b2 h).2];rfl
theorem zh:∀{l:List (Nat×V)},Dh l=true->te ι l=some l
 |[],_=>rfl
 |(k,v)::l,h=>by
  show (sb ι v).bind _=_;rw[o7 (b2 h).1];show (te ι l).map _=_;rw[zh (b2 h).2];rfl
end
theorem m6{v v':V}{l':List V}(h:sb ι v=some v')(h':oA ι l=some l'):oA ι (v::l)=some (v'::l'):=by
 show (sb ι v).bind _=_;rw[h];show (oA ι l).map _=_;rw[h'];rfl
theorem nW{v:V}{r:List V}(h:oA ι (v::l)=some r):∃v' l',r=v'::l'/\sb ι v=some v'/\oA ι l=some l':=by
 refine mO (bs (show (sb ι v).bind _=_ from h)) λa e1 e=>?_;refine mO (ms e) λb e2 e=>?_;exact⟨a,b,e.symm,e1,e2⟩
theorem vr{k:Nat}{v v':V}{l l':List (Nat×V)}(h:sb ι v=some v')(h':te ι l=some l'):te ι ((k,v)::l)=some ((k,v')::l'):=by
 show (sb ι v).bind _=_;rw[h];show (te ι l).map _=_;rw[h'];rfl
theorem wX{k:Nat}{v:V}{l r:List (Nat×V)}(h:te ι ((k,v)::l)=some r):∃v' l',r=(k,v')::l'/\sb ι v=some v'/\te ι l=some l':=by
 refine mO (bs (show (sb ι v).bind _=_ from h)) λa e1 e=>?_;refine mO (ms e) λb e2 e=>?_;exact⟨a,b,e.symm,e1,e2⟩
theorem oa{r:List V}(h:oA ι []=some r):r=[]:=(ae h).symm
def OR{α β:Type}(A:α->β->Prop):Option α->Option β->Prop
 |some a,some b=>A a b
 |none,none=>True
 |_,_=>False
theorem OR.lo{A:α->β->Prop}{o:Option α}(h:OR A o o'):LO A o o':=by
 cases o<;>cases o'<;>first | exact LO.none | exact LO.some h | exact h.elim
theorem nQ:∀{l l':List V},oA ι l=some l'->l'.length=l.length
 |[],_,h=>by rw[oa h]
 |v::l,_,h=>by
  refine mU (nW h) λv' l' e Z h=>?_;rw[e];exact congrArg (·+1) (nQ h)
theorem rt:∀{l l':List V} (i:Nat),oA ι l=some l'->OR (λv v'=>sb ι v=some v') l[i]? l'[i]?
 |[],_,i,h=>by rw[oa h];cases i<;>trivial
 |v::l,_,i,h=>by
  refine mU (nW h) λv' l' e e1 h=>?_;rw[e]
  cases i with
  |zero=>exact e1
  |succ i=>exact rt i h
theorem vv:∀{l l':List V} (i:Nat),oA ι l=some l'->oA ι (l.take i)=some (l'.take i)
 |[],_,i,h=>by rw[oa h];cases i<;>rfl
 |v::l,_,i,h=>by
  refine mU (nW h) λv' l' e e1 h=>?_;rw[e]
  cases i with
  |zero=>rfl
  |succ i=>exact m6 e1 (vv i h)
theorem CB:∀{l l':List V} (i:Nat),oA ι l=some l'->oA ι (l.drop i)=some (l'.drop i)
 |[],_,i,h=>by rw[oa h];cases i<;>rfl
 |v::l,_,i,h=>by
  refine mU (nW h) λv' l' e e1 h=>?_;rw[e]
  cases i with
  |zero=>exact m6 e1 h
  |succ i=>exact CB i h
theorem r9:∀{l l' r r':List V},oA ι l=some l'->oA ι r=some r'->oA ι (l++r)=some (l'++r')
 |[],_,_,_,h,k=>by rw[oa h];exact k
 |v::l,_,_,_,h,k=>by
  refine mU (nW h) λv' l' e e1 h=>?_;rw[e];exact m6 e1 (r9 h k)
theorem vt:∀{l l':List (Nat×V)},te ι l=some l'->l'.map (·.1)=l.map (·.1)
 |[],_,h=>by rw[<-ae h]
 |(k,v)::l,_,h=>by
  refine mU (wX h) λv' l' e Z h=>?_;rw[e];exact congrArg (k::·) (vt h)
theorem uc{l l':List (Nat×V)}(h:te ι l=some l'):l'.length=l.length:=by
 have:=congrArg je (vt h);rw[aU,aU] at this;exact this
theorem ub{k:Nat}:∀{l l':List (Nat×V)},te ι l=some l'->OR (λv v'=>sb ι v=some v') (qj l k) (qj l' k)
 |[],_,h=>by rw[<-ae h];exact trivial
 |(j,v)::l,_,h=>by
  refine mU (wX h) λv' l' e e1 h=>?_;have ih:=ub (k:=k) h;rw[e];unfold qj at ih ⊢;rw[fY,fY]
  cases j==k
  .exact ih
  .exact e1
theorem wY{k:Nat}{x x':V}(hx:sb ι x=some x'):∀{l l':List (Nat×V)},te ι l=some l'->te ι (rW l k x)=some (rW l' k x')
 |[],_,h=>by rw[<-ae h];exact vr hx rfl
 |(j,v)::l,_,h=>by
  refine mU (wX h) λv' l' e e1 h=>?_;rw[e];unfold rW
  split
  .exact vr hx h
  .exact vr e1 (wY hx h)
theorem AH:∀{r r' l l':List (Nat×V)},te ι l=some l'->te ι r=some r'->te ι (yt l r)=some (yt l' r')
 |[],_,_,_,h,k=>by rw[<-ae k];exact h
 |(j,v)::r,_,l,l',h,k=>by
  refine mU (wX k) λv' r' e e1 k=>?_;rw[e];show te ι (yt (rW l j v) r)=some (yt (rW l' j v') r');exact AH (wY e1 h) k
theorem FC:∀{ks:List Nat} {l l':List V},oA ι l=some l'->te ι (ks.zip l)=some (ks.zip l')
 |[],_,_,_=>rfl
 |k::ks,[],_,h=>by rw[oa h];rfl
 |k::ks,v::l,_,h=>by
  refine mU (nW h) λv' l' e e1 h=>?_;rw[e];exact vr e1 (FC h)
end
theorem sV{a b:Nat}(h:V.obj a=V.obj b):a=b:=ae (congrArg pB h)
structure Ctx where
 T:Nat->V->Prop
 tree:∀n v,T n v->nM 30 v=true/\∃l,v=.tup l
 B:Nat
 base:List V
def F0(l:List (Nat×V)):Prop:=(l.map (·.1)).Nodup/\∀p∈l,p.1∈ud
def Hb(c d:Nat)(v:V):Prop:=if 1000<=c then ∃l,v=.tup (.sym (c - 1000)::.int d::l) else if c=999 then ∃s l,v=.tup (.sym s::.int d::l)/\s≠42 else if c=998 then ∃x l,v=.tup (x::.bool (d==1)::l) else if c=993 then ∃x y l,v=.tup (x::y::.int d::l) else True
def Sp(K:Ctx)(c d:Nat)(v:V)(w:Option O):Prop:=
 if xo c=true then K.T d v/\Hb c d v else if c=997 then ∃l,w=some (.dict l)/\F0 l
 else if c=996 then ∃(xs:List Int) (p:Int),w=some (.dict [(48,.lst (xs.map .int)),(144,.int p)])/\0<=p/\p<=K.B+d else ∃o,w=some o
noncomputable def um(σ:St)(v:V):Option O:=(pB v).bind λm=>σ[m]?
def oz(K:Ctx)(ι:List V)(o:O)(v:V)(w:Option O):Prop:=match o with
 |.list l=>∃l',w=some (.list l')/\oA ι l=some l'
 |.dict l=>∃l',w=some (.dict l')/\te ι l=some l'
 |.inst c d=>if c < 900 then ∃m,w=some (.inst c m)/\ι[d]?=some (.obj m) else Sp K c d v w
structure nR(K:Ctx)(ι:List V)(σ σ':St):Prop where
 base:∃κ,ι=K.base++κ
 len:ι.length=σ.length
 inj:∀i j m:Nat,ι[i]?=some (V.obj m)->ι[j]?=some (V.obj m)->i=j
 slot:∀(n:Nat) (o:O),σ[n]?=some o->∃v,ι[n]?=some v/\oz K ι o v (um σ' v)
structure ti(ι:List V)(σ':St)(TZ:List V)(T0:St):Prop where
 pre:∃κ,TZ=ι++κ/\∀m,V.obj m∈κ->σ'.length<=m
 len:σ'.length<=T0.length
 fr:∀m,m < σ'.length->V.obj m∉ι->T0[m]?=σ'[m]?
theorem ti.refl(ι:List V)(σ':St):ti ι σ' ι σ':=⟨⟨[],(ba _).symm,λZ h=>nomatch h⟩,aQ _,λZ Z Z=>rfl⟩
theorem ti.sub(h:ti ι σ' TZ T0):∃κ,TZ=ι++κ:=h.pre.elim λκ h=>⟨κ,h.1⟩
theorem ti.trans{U4:List V}{Vf:St}(h:ti ι σ' TZ T0)(k:ti TZ T0 U4 Vf):ti ι σ' U4 Vf:=by
 refine mO h.pre λκ e h1=>?_;refine mO k.pre λU8 e' h2=>?_;refine⟨⟨κ++U8,by rw[e',e,aP],λm hm=>?_⟩,az h.len k.len,λm hm hn=>?_⟩
 .rcases aG.mp hm with hm | hm
  .exact h1 m hm
  .exact az h.len (h2 m hm)
 .rw[k.fr m (cR hm h.len) λhi=>?_,h.fr m hm hn];rw[e] at hi
  rcases aG.mp hi with hi | hi
  .exact hn hi
  .exact fP _ (cR hm (h1 m hi))
section
variable {K:Ctx}
theorem oz.mono{o:O}{v:V}{w:Option O}(h:oz K ι o v w)(s:∃κ,TZ=ι++κ):oz K TZ o v w:=by
 cases o with
 |list l=>exact h.elim λl' h=>⟨l',h.1,qU s h.2⟩
 |dict l=>exact h.elim λl' h=>⟨l',h.1,vu s h.2⟩
 |inst c d=>
  unfold oz at h ⊢;dsimp only at h ⊢
  split at h
  .rename_i c1;rw[if_pos c1];exact h.elim λm h=>⟨m,h.1,nZ (v:=.obj d) s h.2⟩
  .rename_i c1;rw[if_neg c1];exact h
theorem oz.is{o:O}{v:V}(h:oz K ι o v (um σ' v)):(∃l,v=.tup l)\/∃m o',v=.obj m/\σ'[m]?=some o':=by
 have key:∀o',um σ' v=some o'->(∃l,v=.tup l)\/∃m o',v=.obj m/\σ'[m]?=some o':=λo' e=>by
  refine mO (bs e) λm e1 e2=>?_;exact .inr ⟨m,o',nJ e1,e2⟩
 cases o with
 |list l=>exact h.elim λl' h=>key _ h.1
 |dict l=>exact h.elim λl' h=>key _ h.1
 |inst c d=>
  unfold oz at h;dsimp only at h
  split at h
  .exact h.elim λm h=>key _ h.1
  .unfold Sp at h
   split at h
   .exact .inl (K.tree _ v h.1).2
   .split at h
    .exact h.elim λl h=>key _ h.1
    .split at h
     .exact h.elim λl h=>h.elim λp h=>key _ h.1
     .exact h.elim λl h=>key _ h
theorem nR.is(H:nR K ι σ σ'){n:Nat}{v:V}(e:ι[n]?=some v):(∃l,v=.tup l)\/∃m o',v=.obj m/\σ'[m]?=some o':=by
 have hn:n < σ.length:=by rw[<-H.len];exact (aq.mp e).1
 refine mO (H.slot n _ (au hn)) λv' e' h=>?_;rw[e] at e';rw[ae e'];exact h.is
theorem nR.lt(H:nR K ι σ σ')(h:V.obj m∈ι):m < σ'.length:=by
 refine m4 (cE h) λn e=>?_
 rcases H.is e with ⟨l,e⟩ | ⟨m',o',e,e1⟩
 .exact mV (congrArg pB e.symm)
 .rw[sV e];exact (aq.mp e1).1
theorem nR.push(H:nR K ι σ σ'){o o':O}(h:oz K (ι++[.obj σ'.length]) o (.obj σ'.length) (some o')):nR K (ι++[.obj σ'.length]) (σ++[o]) (σ'++[o']):=by
 have hl:∀{i:Nat} {v:V},(ι++[V.obj σ'.length])[i]?=some v->ι[i]?=some v\/i=ι.length/\v=.obj σ'.length:=λ{i v} e=>by
  rcases bE i ι.length with hi | hi
  .rw[ay hi] at e;exact .inl e
  .rw[aE hi] at e;have hz:i - ι.length=0:=gM.mp (aq.mp e).1;rw[hz] at e;exact .inr ⟨cY (iG.mp hz) hi,(ae e).symm⟩
 have no:∀{i:Nat},ι[i]?≠some (.obj σ'.length):=λ{i} e=>fP _ (H.lt (aF e))
 have last:um (σ'++[o']) (.obj σ'.length)=some o':=by show (σ'++[o'])[σ'.length]?=_;rw[aE (aQ _),dB];rfl
 refine⟨H.base.elim λκ e=>⟨κ++[.obj σ'.length],by rw[<-aP,<-e]⟩,by rw[aL,aL,H.len];rfl,λi j m hi hj=>?_,λn UC e=>?_⟩
 .rcases hl hi with hi | ⟨hi,hm⟩
  .rcases hl hj with hj | ⟨hj,hm⟩
   .exact H.inj i j m hi hj
   .rw[hm] at hi;exact (no hi).elim
  .rcases hl hj with hj | ⟨hj,_⟩
   .rw[hm] at hj;exact (no hj).elim
   .rw[hi,hj]
 .rcases bE n σ.length with hn | hn
  .rw[ay hn] at e;refine mO (H.slot n UC e) λv e1 h1=>?_;refine⟨v,nZ (v:=.obj n) ⟨_,rfl⟩ e1,?_⟩
   have:um (σ'++[o']) v=um σ' v:=by
    rcases h1.is with ⟨l,e⟩ | ⟨m,Wq,e,e2⟩
    .rw[e];rfl
    .rw[e];exact ay (aq.mp e2).1
   rw[this];exact h1.mono ⟨_,rfl⟩
  .rw[aE hn] at e;have hz:n - σ.length=0:=gM.mp (aq.mp e).1;rw[hz] at e;rw[<-ae e];refine⟨.obj σ'.length,?_,by rw[last];exact h⟩;rw[cY (iG.mp hz) hn,<-H.len,aE (aQ _),dB];rfl
theorem ti.push{o':O}:ti ι σ' (ι++[.obj σ'.length]) (σ'++[o']):=by
 refine⟨⟨_,rfl,λm h=>?_⟩,by rw[aL];exact aN _ _,λm hm Z=>ay hm⟩;rw[sV (am.mp h)];exact aQ _
theorem nR.set(H:nR K ι σ σ'){n:Nat}{o o':O}(e:ι[n]?=some (.obj m))(h:oz K ι o (.obj m) (some o')):nR K ι (σ.set n o) (σ'.set m o'):=by
 have hm:m < σ'.length:=H.lt (aF e);refine⟨H.base,by rw[bG];exact H.len,H.inj,λi UC e1=>?_⟩
 by_cases hi:n=i
 .subst hi
  have hn:n < σ.length:=by rw[<-H.len];exact (aq.mp e).1
  rw[bh hn] at e1;rw[<-ae e1];refine⟨_,e,?_⟩;have:um (σ'.set m o') (.obj m)=some o':=bh hm;rw[this];exact h
 .rw[bl hi] at e1;refine mO (H.slot i UC e1) λv e2 h2=>?_;refine⟨v,e2,?_⟩
  have:um (σ'.set m o') v=um σ' v:=by
   rcases h2.is with ⟨l,e⟩ | ⟨m',Wq,e3,_⟩
   .rw[e];rfl
   .rw[e3];exact bl λZS=>hi (H.inj n i m e (by rw[e2,e3,ZS]))
  rw[this];exact h2
theorem ti.set{o':O}(h:V.obj m∈ι):ti ι σ' ι (σ'.set m o'):=by
 refine⟨⟨[],(ba _).symm,λZ h=>nomatch h⟩,by rw[bG];exact aQ _,λm' hm hn=>bl λe=>hn (by rw[<-e];exact h)⟩
end
def Sm{ε Us α β:Type}(K:Ctx)(ι:List V)(σ':St)(A:List V->α->β->Prop)(X:List V->ε->Us->Prop)(m:N ε α)(r:R Us β):Prop:=
 ∀k x,m k x=true->WR r (λb T0=>∃TZ a τ,ti ι σ' TZ T0/\nR K TZ τ T0/\A TZ a b/\k a τ=true) λe' T0=>∃TZ e τ,ti ι σ' TZ T0/\nR K TZ τ T0/\X TZ e e'/\x e τ=true
section
variable {ε Us VL Vm α β γ δ:Type}{K:Ctx}{ι:List V}{σ σ':St}{A:List V->α->β->Prop}{B:List V->γ->δ->Prop}{X:List V->ε->Us->Prop}{Y:List V->VL->Vm->Prop}
theorem Sm.ok{a:α}{b:β}(H:nR K ι σ σ')(h:A ι a b):Sm K ι σ' A X (N.ok a σ) (.ok b σ'):=λk x e=>⟨ι,a,σ,.refl _ _,H,h,e⟩
theorem Sm.exc{a:ε}{b:Us}(H:nR K ι σ σ')(h:X ι a b):Sm K ι σ' A X (N.exc a σ) (.exc b σ'):=λk x e=>⟨ι,a,σ,.refl _ _,H,h,e⟩
theorem Sm.bad{r:R Us β}:Sm K ι σ' A X N.bad r:=λk x e=>mP e
theorem Sm.from{r:R Us β}{m:N ε α}{ι0:List V}{WH:St}(E:ti ι0 WH ι σ')(h:Sm K ι σ' A X m r){k x}(e:m k x=true):
  WR r (λb T0=>∃TZ a τ,ti ι0 WH TZ T0/\nR K TZ τ T0/\A TZ a b/\k a τ=true) λe' T0=>∃TZ e τ,ti ι0 WH TZ T0/\nR K TZ τ T0/\X TZ e e'/\x e τ=true:=
 (h k x e).mono (λb T0 zq=>oI zq λTZ a τ h1 h2=>⟨TZ,a,τ,E.trans h1,h2⟩) λb T0 zq=>oI zq λTZ a τ h1 h2=>⟨TZ,a,τ,E.trans h1,h2⟩
theorem Sm.bind{m:N ε α}{r:R Us β}{f:α->St->N ε γ}{g:β->St->R Us δ}(h:Sm K ι σ' A X m r)(k:∀TZ a b τ T0,ti ι σ' TZ T0->nR K TZ τ T0->A TZ a b->Sm K TZ T0 B X (f a τ) (g b T0)):Sm K ι σ' B X (m.bind f) (r.bind g):=λkk x e=>by
 refine WR.bind ((h _ x e).mono (λb T0 zq=>mZ zq λTZ a τ h1 h2 h3 h4=>?_) λb T0 h=>h);exact (k TZ a b τ T0 h1 h2 h3).from h1 h4
theorem Sm.lift{m:N Unit α}{r:R Unit β}{e:ε}{e':Us}(h:Sm K ι σ' A (λZ Z Z=>True) m r)(hx:∀TZ T0,ti ι σ' TZ T0->X TZ e e'):Sm K ι σ' A X (m.lift e) (r.lift e'):=λk x c=>by
 refine WR.lift ((h _ _ c).mono (λb T0 h=>h) λb T0 zq=>mZ zq λTZ Z τ h1 h2 Z h4=>⟨TZ,e,τ,h1,h2,hx TZ T0 h1,h4⟩)
theorem Sm.fin{m:N ε α}{r:R Us β}{f:α->St->N VL γ}{g:β->St->R Vm δ}{f':ε->St->N VL γ}{g':Us->St->R Vm δ}(h:Sm K ι σ' A X m r)(k:∀TZ a b τ T0,ti ι σ' TZ T0->nR K TZ τ T0->A TZ a b->Sm K TZ T0 B Y (f a τ) (g b T0))(k':∀TZ a b τ T0,ti ι σ' TZ T0->nR K TZ τ T0->X TZ a b->Sm K TZ T0 B Y (f' a τ) (g' b T0)):Sm K ι σ' B Y (m.fin f f') (r.fin g g'):=λkk x e=>by
 refine WR.fin ((h _ _ e).mono (λb T0 zq=>mZ zq λTZ a τ h1 h2 h3 h4=>?_) λb T0 zq=>mZ zq λTZ a τ h1 h2 h3 h4=>?_)
 .exact (k TZ a b τ T0 h1 h2 h3).from h1 h4
 .exact (k' TZ a b τ T0 h1 h2 h3).from h1 h4
theorem Sm.opt{o:Option γ}{o':Option δ}{f:γ->N ε α}{g:δ->R Us β}{D:γ->δ->Prop}(h:LO D o o')(k:∀a b,D a b->Sm K ι σ' A X (f a) (g b)):Sm K ι σ' A X (N.opt o f) (R.opt o' g):=by
 cases o with
 |none=>exact .bad
 |some a=>
  refine mO (h a rfl) λb e hb=>?_;rw[e];exact k a b hb
theorem Sm.of{o:Option α}{o':Option β}(H:nR K ι σ σ')(h:LO (A ι) o o'):Sm K ι σ' A X (N.of o σ) (R.of o' σ'):=by
 cases o with
 |none=>exact .bad
 |some a=>
  refine mO (h a rfl) λb e hb=>?_;rw[e];exact .ok H hb
theorem Sm.gd{p p':Prop}[Decidable p][Decidable p']{m:N ε α}{r:R Us β}(h:p->p')(k:p->Sm K ι σ' A X m r):Sm K ι σ' A X (N.gd p m) (Mine.Internal.gd p' r):=by
 unfold N.gd
 split
 .rename_i c;unfold Mine.Internal.gd;rw[if_pos (h c)];exact k c
 .exact .bad
theorem Sm.ite{t:Bool}{m m':N ε α}{r r':R Us β}(h:t=true->Sm K ι σ' A X m r)(h':t=false->Sm K ι σ' A X m' r'):Sm K ι σ' A X (if t=true then m else m') (if t=true then r else r'):=by
 cases t with
 |true=>exact h rfl
 |false=>exact h' rfl
def SD{ε Us α β:Type}(K:Ctx)(ι:List V)(σ':St)(A:List V->α->β->Prop)(r:R ε α)(r':R Us β):Prop:=
 ∀a τ,r=.ok a τ->∃TZ b T0,r'=.ok b T0/\ti ι σ' TZ T0/\nR K TZ τ T0/\A TZ a b
theorem Sm.did{r:R ε α}{r':R Us β}(h:SD K ι σ' A r r'):Sm K ι σ' A X (N.did r) r':=by
 cases r with
 |ok a τ=>
  refine mZ (h a τ rfl) λTZ b T0 e h1 h2 h3=>?_;exact λk x c=>WR.val e ⟨TZ,a,τ,h1,h2,h3,c⟩
 |_=>exact .bad
theorem SD.ok{a:α}{b:β}(H:nR K ι σ σ')(h:A ι a b):SD K ι σ' A (R.ok a σ:R ε α) (.ok b σ':Mine.Internal.R Us β):=λa' τ e=>⟨ι,b,σ',rfl,.refl _ _,by cases e;exact H,by cases e;exact h⟩
theorem SD.opt{o:Option γ}{o':Option δ}{f:γ->R ε α}{g:δ->R Us β}{D:γ->δ->Prop}(h:LO D o o')(k:∀a b,D a b->SD K ι σ' A (f a) (g b)):SD K ι σ' A (R.opt o f) (R.opt o' g):=by
 cases o with
 |none=>exact λZ Z e=>nomatch e
 |some a=>
  refine mO (h a rfl) λb e hb=>?_;rw[e];exact k a b hb
theorem SD.of{o:Option α}{o':Option β}(H:nR K ι σ σ')(h:LO (A ι) o o'):SD K ι σ' A (R.of o σ:R ε α) (R.of o' σ':Mine.Internal.R Us β):=by
 cases o with
 |none=>exact λZ Z e=>nomatch e
 |some a=>
  refine mO (h a rfl) λb e hb=>?_;rw[e];exact .ok H hb
theorem SD.gd{p p':Prop}[Decidable p][Decidable p']{m:R ε α}{r:R Us β}(h:p->p')(k:p->SD K ι σ' A m r):SD K ι σ' A (Mine.Internal.gd p m) (Mine.Internal.gd p' r):=by
 unfold Mine.Internal.gd
 split
 .rename_i c;rw[if_pos (h c)];exact k c
 .exact λZ Z e=>nomatch e
theorem SD.newO{A:List V->V->V->Prop}{o o':O}(H:nR K ι σ σ')(h:∀TZ,(∃κ,TZ=ι++κ)->oz K TZ o (.obj σ'.length) (some o'))(hA:A (ι++[.obj σ'.length]) (.obj σ.length) (.obj σ'.length)):SD K ι σ' A (newO σ o:R ε V) (newO σ' o':Mine.Internal.R Us V):=λa τ e=>by
 cases e
 exact⟨_,_,_,rfl,.push,H.push (h _ ⟨_,rfl⟩),hA⟩
theorem SD.setO{n:Nat}{o o':O}{a:α}{b:β}(H:nR K ι σ σ')(e:ι[n]?=some (.obj m))(h:oz K ι o (.obj m) (some o'))(hA:A ι a b):SD K ι σ' A (R.ok a (σ.set n o):R ε α) (.ok b (σ'.set m o'):Mine.Internal.R Us β):=λa' τ e'=>by
 cases e'
 exact⟨ι,b,_,rfl,.set (aF e),H.set e h,hA⟩
end
abbrev Vr(ι:List V)(v v':V):Prop:=sb ι v=some v'
abbrev Vs(ι l l':List V):Prop:=oA ι l=some l'
abbrev Vd(ι:List V)(l l':List (Nat×V)):Prop:=te ι l=some l'
mutual
theorem vD:∀{n:Nat} {v:V},nM n v=true->pZ v=true
 |_,.none,_=>rfl
 |_,.bool _,_=>rfl
 |_,.int _,_=>rfl
 |_,.sym _,_=>rfl
 |n,.tup l,h=>by cases n with
  |zero=>exact mP h
  |succ n=>exact qN (n:=n) h
 |n,.lst l,h=>by cases n with
  |zero=>exact mP h
  |succ n=>exact qN (n:=n) h
theorem qN:∀{n:Nat} {l:List V},nD n l=true->oh l=true
 |_,[],_=>rfl
 |n,v::l,h=>by
  show (pZ v&&oh l)=true;rw[vD (b2 h).1,qN (b2 h).2];rfl
end
mutual
theorem nn:∀{n m:Nat} {v:V},n<=m->nM n v=true->nM m v=true
 |_,_,.none,_,_=>rfl
 |_,_,.bool _,_,_=>rfl
 |_,_,.int _,_,_=>rfl
 |_,_,.sym _,_,_=>rfl
 |n,m,.tup l,hn,h=>by
  cases n with
  |zero=>exact mP h
  |succ n=>cases m with
   |zero=>exact absurd hn (eh n)
   |succ m=>exact qB (dw hn) h
 |n,m,.lst l,hn,h=>by
  cases n with
  |zero=>exact mP h
  |succ n=>cases m with
   |zero=>exact absurd hn (eh n)
   |succ m=>exact qB (dw hn) h
theorem qB:∀{n m:Nat} {l:List V},n<=m->nD n l=true->nD m l=true
 |_,_,[],_,_=>rfl
 |n,m,v::l,hn,h=>by
  show (nM m v&&nD m l)=true;rw[nn hn (b2 h).1,qB hn (b2 h).2];rfl
end
mutual
theorem zv:∀{n:Nat} {v:V},nM n v=true->pL v v=true
 |_,.none,_=>rfl
 |_,.bool _,_=>beq_self_eq_true _
 |_,.int _,_=>beq_self_eq_true _
 |_,.sym _,_=>beq_self_eq_true _
 |n,.tup l,h=>by cases n with
  |zero=>exact mP h
  |succ n=>exact uG (n:=n) h
 |n,.lst l,h=>by cases n with
  |zero=>exact mP h
  |succ n=>exact uG (n:=n) h
theorem uG:∀{n:Nat} {l:List V},nD n l=true->vC l l=true
 |_,[],_=>rfl
 |n,v::l,h=>by
  show (pL v v&&vC l l)=true;rw[zv (b2 h).1,uG (b2 h).2];rfl
end
section
variable {K:Ctx}{ι:List V}{σ σ':St}{v v' x x':V}{l l':List V}
theorem pR(h:Vr ι v v'):LO Eq (nI v) (nI v'):=λa e=>by rw[nS e] at h;exact⟨a,by rw[<-ae h];rfl,rfl⟩
theorem tV(h:Vr ι v v'):LO Eq (pC v) (pC v'):=λa e=>by rw[oF e] at h;exact⟨a,by rw[<-ae h];rfl,rfl⟩
theorem tU(h:Vr ι v v'):LO Eq (pp v) (pp v'):=λa e=>by rw[pP e] at h;exact⟨a,by rw[<-ae h];rfl,rfl⟩
theorem Ki(h:Vr ι v v'):LO Eq (pJ v) (pJ v'):=λa e=>by rw[rF e] at h;exact⟨a,by rw[<-ae h];rfl,rfl⟩
theorem MY(h:Vr ι v v'):LO Eq (CQ v) (CQ v'):=λa e=>by rw[vA e] at h;exact⟨a,by rw[<-ae h];rfl,rfl⟩
theorem tc(h:Vr ι v v'):LO (Vs ι) (pQ v) (pQ v'):=λa e=>by
 rw[oy e] at h;refine mO (ms (show (oA ι a).map V.tup=_ from h)) λl' e1 e2=>?_;exact⟨l',by rw[<-e2];rfl,e1⟩
theorem Pu(h:Vr ι v v'):LO (Vs ι) (Gs v) (Gs v'):=λa e=>by
 rw[u3 e] at h;refine mO (ms (show (oA ι a).map V.lst=_ from h)) λl' e1 e2=>?_;exact⟨l',by rw[<-e2];rfl,e1⟩
theorem SZ(h:Vr ι v v'):LO (Vd ι) (Dq v) (Dq v'):=λa e=>by
 rw[wQ e] at h;refine mO (ms (show (te ι a).map V.dct=_ from h)) λl' e1 e2=>?_;exact⟨l',by rw[<-e2];rfl,e1⟩
theorem Et(h:Vs ι l l'):LO (Vr ι) (hd l) (hd l'):=λa e=>by
 rw[s6 e] at h;refine mU (nW h) λv' r e1 e2 Z=>?_;exact⟨v',by rw[e1];rfl,e2⟩
theorem uH(h:Vs ι l l'):Vs ι (tl l) (tl l'):=by
 cases l with
 |nil=>rw[oa h];rfl
 |cons v l=>
  refine mU (nW h) λv' r e1 Z e2=>?_;rw[e1];exact e2
theorem tT(h:Vs ι l l'):LO Eq (sP l) (sP l'):=λa e=>by
 rw[rj e] at h;exact⟨a,by rw[oa h];rfl,rfl⟩
theorem xe(H:nR K ι σ σ'){n:Nat}(hv:ι[n]?=some v')(e:listAt σ n=some l):∃m l',v'=.obj m/\listAt σ' m=some l'/\Vs ι l l':=by
 refine Ah (H.slot n _ (listAt_eq e)) λw e1 l' e2 h=>?_;rw[hv] at e1
 cases e1
 refine mO (bs e2) λm e3 e4=>?_;exact⟨m,l',nJ e3,by unfold listAt;rw[e4];rfl,h⟩
theorem zC(H:nR K ι σ σ'){n:Nat}(hv:ι[n]?=some v'){l:List (Nat×V)}(e:dictAt σ n=some l):∃m l',v'=.obj m/\dictAt σ' m=some l'/\Vd ι l l':=by
 refine Ah (H.slot n _ (rD e)) λw e1 l' e2 h=>?_;rw[hv] at e1
 cases e1
 refine mO (bs e2) λm e3 e4=>?_;exact⟨m,l',nJ e3,by unfold dictAt;rw[e4];rfl,h⟩
theorem No(H:nR K ι σ σ'){n:Nat}(hv:ι[n]?=some v'){c:Nat×Nat}(e:uq σ n=some c)(hc:c.1 < 900):∃m m',v'=.obj m/\uq σ' m=some (c.1,m')/\ι[c.2]?=some (.obj m'):=by
 refine mO (H.slot n _ (yS e)) λw e1 h=>?_;rw[hv] at e1
 cases e1
 unfold oz at h;dsimp only at h;rw[if_pos hc] at h;refine mO h λm' e2 h=>?_;refine mO (bs e2) λm e3 e4=>?_;exact⟨m,m',nJ e3,by unfold uq;rw[e4];rfl,h⟩
theorem AZ(H:nR K ι σ σ')(h:Vr ι v v'):LO (λl l'=>Vs ι l l'/\∃m,v'=.obj m) (pV σ v) (pV σ' v'):=λa e=>by
 refine mO (bs e) λn e1 e2=>?_;rw[nJ e1] at h;refine mU (xe H h e2) λm l' e3 e4 h=>?_;exact⟨l',by rw[e3];exact e4,h,m,e3⟩
theorem Es(H:nR K ι σ σ')(h:Vr ι v v'):LO (λl l'=>Vd ι l l'/\∃m,v'=.obj m) (sU σ v) (sU σ' v'):=λa e=>by
 refine mO (bs e) λn e1 e2=>?_;rw[nJ e1] at h;refine mU (zC H h e2) λm l' e3 e4 h=>?_;exact⟨l',by rw[e3];exact e4,h,m,e3⟩
theorem IB{A:α->β->Prop}{o:Option α}{p:Prop}(h:LO (λa b=>A a b/\p) o o'):LO A o o':=λa e=>(h a e).elim λb h=>⟨b,h.1,h.2.1⟩
theorem Q1{A:α->β->Prop}{o:Option α}{p:Prop}(h:LO (λa b=>A a b/\p) o o'){a:α}(e:o=some a):p:=(h a e).elim λb h=>h.2.2
theorem oU{A:α->β->Prop}{o:Option α}(h:LO A o o'){a:α}(e:o=some a):∃b,o'=some b:=(h a e).elim λb h=>⟨b,h.1⟩
theorem vF(H:nR K ι σ σ')(h:Vr ι v v'):LO (Vs ι) (r4 σ v) (r4 σ' v'):=(Pu h).orElse (IB (AZ H h)) λa e=>by
 refine m4 (Q1 (AZ H h) e) λm e=>?_;rw[e];rfl
theorem wA(H:nR K ι σ σ')(h:Vr ι v v'):LO (Vd ι) (qr σ v) (qr σ' v'):=(SZ h).orElse (IB (Es H h)) λa e=>by
 refine m4 (Q1 (Es H h) e) λm e=>?_;rw[e];rfl
theorem zZ(e:r4 σ v=some l):(∃l,v=.lst l)\/∃m,v=.obj m/\listAt σ m=some l:=by
 rcases m8 e with e | e
 .exact .inl ⟨_,u3 e⟩
 .refine mO (bs e) λn e1 e2=>?_;exact .inr ⟨n,nJ e1,e2⟩
theorem zx(H:nR K ι σ σ')(h:Vr ι v v'):LO (Vs ι) (sd σ v) (sd σ' v'):=(tc h).orElse (vF H h) λa e=>by
 refine m4 (oU (vF H h) e) λb e=>?_
 rcases zZ e with ⟨l,e⟩ | ⟨m,e,_⟩<;>rw[e]<;>rfl
theorem OX(e:sd σ v=some l):pC v=none/\nI v=none/\qr σ v=none:=by
 rcases m8 e with e | e
 .rw[oy e];exact⟨rfl,rfl,rfl⟩
 .rcases zZ e with ⟨l,e⟩ | ⟨m,e,e1⟩
  .rw[e];exact⟨rfl,rfl,rfl⟩
  .rw[e];refine⟨rfl,rfl,?_⟩;show ((σ[m]?).bind O.d?)=none;rw[listAt_eq e1];rfl
theorem Ev(H:nR K ι σ σ')(h:Vr ι v v')(e:sd σ v=some l):pC v'=none/\nI v'=none/\qr σ' v'=none:=(oU (zx H h) e).elim λZ e=>OX e
theorem FN{n:Nat}(e:pC v=some n):nI v=none:=by rw[oF e];rfl
theorem pE{o:Option α}{f:α->Option β}(h:o=none):o.bind f=none:=by rw[h];rfl
theorem xc{o:Option α}{p:Option β}{f:α->β->Option γ}(h:p=none):(o.bind λa=>p.bind (f a))=none:=by cases o<;>rw[h]<;>rfl
theorem Rl{v:V}(h:Vr ι v v')(c:pZ v=true):v'=v:=ae (h.symm.trans (o7 c))
theorem Rm(h:Vs ι l l')(c:oh l=true):l'=l:=ae (h.symm.trans (qf c))
theorem P5(H:nR K ι σ σ'){n:Nat}(e:σ[n]?=some (.inst c d))(hc:900<=c)(hv:ι[n]?=some v'):Sp K c d v' (um σ' v'):=by
 refine mO (H.slot n _ e) λw e1 h1=>?_;rw[hv] at e1
 cases e1
 unfold oz at h1;dsimp only at h1;rw[if_neg (gN.mpr hc)] at h1;exact h1
theorem BD(h:xo c=true):900<=c:=by
 rcases eK.mp h with h | h
 .exact az (by decide) (of_decide_eq_true h)
 .rcases eK.mp h with h | h<;>(rw[eq_of_beq h];decide)
theorem tq(H:nR K ι σ σ'){n:Nat}(e:σ[n]?=some (.inst c d))(hc:xo c=true)(hv:ι[n]?=some v'):K.T d v'/\Hb c d v':=by
 have h:=P5 H e (BD hc) hv;unfold Sp at h;rw[if_pos hc] at h;exact h
theorem EW{o:Option O}{f:Nat->Nat->Option α}{t:α}(e:(match o with | some (.inst c d)=>f c d | _=>none)=some t):∃c d,o=some (.inst c d)/\f c d=some t:=by
 cases o with
 |none=>exact mV e
 |some o=>cases o with
  |inst c d=>exact⟨c,d,rfl,e⟩
  |_=>exact mV e
theorem BC{o:Option O}{f:Nat->Nat->Bool}(e:(match o with | some (.inst c d)=>f c d | _=>false)=true):∃c d,o=some (.inst c d)/\f c d=true:=by
 cases o with
 |none=>exact mP e
 |some o=>cases o with
  |inst c d=>exact⟨c,d,rfl,e⟩
  |_=>exact mP e
set_option tactic.hygienic true in
theorem sC(H:nR K ι σ σ'){n:Nat}(h:MC σ n=true)(hv:ι[n]?=some v'):nM 30 v'=true/\∃l,v'=.tup l:=nr (BC h) λc d e h=>K.tree _ _ (tq H e h hv).1
set_option tactic.hygienic true in
theorem Lm(H:nR K ι σ σ'){n:Nat}(h:Ll σ n=true)(hv:ι[n]?=some v'):∃s l,v'=.tup (.sym s::l)/\s≠42:=by
 obtain ⟨c,d,e,h⟩:=BC h
 rcases eK.mp h with h | h
 .have hc:c=999:=eq_of_beq h;subst hc;have h:=(tq H e rfl hv).2;exact h.elim λs h=>h.elim λl h=>⟨s,_,h.1,h.2⟩
 .have h:=b2 h;have h1:=of_decide_eq_true h.1;have hi:=(tq H e (by unfold xo;rw[decide_eq_true (by omega:998<=c)];rfl) hv).2;unfold Hb at hi;rw[if_pos h1] at hi;refine hi.elim λl h'=>⟨_,_,h',λhh=>?_⟩
  have:c=1042:=by omega
  rw[this] at h;exact mP h.2
mutual
theorem t9(H:nR K ι σ σ'):∀{n:Nat} {v v':V},uu σ n v=true->Vr ι v v'->nM n v'=true
 |_,.none,_,_,e=>by cases e;rfl
 |_,.bool _,_,_,e=>by cases e;rfl
 |_,.int _,_,_,e=>by cases e;rfl
 |_,.sym _,_,_,e=>by cases e;rfl
 |n,.tup l,v',h,e=>by
  refine mO (ms (show (oA ι l).map V.tup=_ from e)) λl' e1 e2=>?_;rw[<-e2]
  cases n with
  |zero=>exact mP h
  |succ n=>exact uv H (n:=n) h e1
 |n,.lst l,v',h,e=>by
  refine mO (ms (show (oA ι l).map V.lst=_ from e)) λl' e1 e2=>?_;rw[<-e2]
  cases n with
  |zero=>exact mP h
  |succ n=>exact uv H (n:=n) h e1
 |n,.obj m,v',h,e=>nn (of_decide_eq_true (b2 h).1) (sC H (b2 h).2 e).1
theorem uv(H:nR K ι σ σ'):∀{n:Nat} {l l':List V},Lp σ n l=true->Vs ι l l'->nD n l'=true
 |_,[],_,_,e=>by rw[oa e];rfl
 |n,v::l,_,h,e=>by
  refine mU (nW e) λv' l' e1 e2 e3=>?_;rw[e1];show (nM n v'&&nD n l')=true;rw[t9 H (b2 h).1 e2,uv H (b2 h).2 e3];rfl
end
theorem HA{a a':List V}(H:nR K ι σ σ')(h:Ij a=true)(e:Vs ι a a'){n:Nat}(hT:Ll σ n=true)(hv:ι[n]?=some v'):pL (.tup a') v'=false/\pL v' (.tup a')=false:=by
 refine nr (Lm H hT hv) λs l e1 hs=>?_
 cases a with
 |nil=>exact mP h
 |cons w a=>
  refine mU (nW e) λw' a1 e2 e3 Z=>?_
  cases w with
  |sym k=>
   have hk:k=42:=eq_of_beq h;have:w'=.sym k:=(ae e3).symm;rw[e1,e2,this,hk];refine⟨?_,?_⟩
   .show ((42==s)&&_)=false;rw[beq_false_of_ne (λh=>hs h.symm)];rfl
   .show ((s==42)&&_)=false;rw[beq_false_of_ne hs];rfl
  |_=>exact mP h
noncomputable def xn:V->Bool
 |.none | .bool _ | .int _ | .sym _ | .txt _=>true
 |_=>false
theorem wU{a c:V}{t:Bool}(ha:xn a=true)(hn:pB c=none)(h:GB σ a c=some t):pL a c=t:=by
 cases a<;>first
  |exact mP ha
  |(clear ha;revert h hn;cases c<;>first | exact λh Z=>mV h.symm | exact λZ h=>ae h)
theorem L7{a:V}(ha:xn a=true)(l r:List V):pL a (.tup l)=pL a (.tup r):=by cases a<;>first | rfl | exact mP ha
theorem L6{a:V}(ha:xn a=true)(l r:List V):pL a (.lst l)=pL a (.lst r):=by cases a<;>first | rfl | exact mP ha
theorem L5{a:V}(ha:xn a=true)(l r:List (Nat×V)):pL a (.dct l)=pL a (.dct r):=by cases a<;>first | rfl | exact mP ha
theorem xI(H:nR K ι σ σ'){a b a' b':V}{t:Bool}(ha:xn a=true)(h:GB σ a b=some t)(ea:Vr ι a a')(eb:Vr ι b b'):pL a' b'=t:=by
 have e:a'=a:=Rl ea (by cases a<;>first | rfl | exact mP ha);rw[e]
 cases b with
 |obj n=>cases a with
  |none=>
   refine nE (nu h) λhc h=>?_;refine m4 ((sC H hc eb).2) λl e1=>?_;rw[e1,<-h];rfl
  |_=>first | exact mV h | exact mP ha
 |tup l=>exact mO (ms (show (oA ι l).map V.tup=_ from eb)) λr' e3 e4=>e4▸(L7 ha r' l).trans (wU ha rfl h)
 |lst l=>exact mO (ms (show (oA ι l).map V.lst=_ from eb)) λr' e3 e4=>e4▸(L6 ha r' l).trans (wU ha rfl h)
 |dct l=>exact mO (ms (show (te ι l).map V.dct=_ from eb)) λr' e3 e4=>e4▸(L5 ha r' l).trans (wU ha rfl h)
 |_=>exact ae eb▸wU ha rfl h
def R2(ι:List V)(σ:St)(a:V):Prop:=∀(b a' b':V) (t:Bool),GB σ a b=some t->Vr ι a a'->Vr ι b b'->pL a' b'=t
def PM(ι:List V)(σ:St)(a:List V):Prop:=∀(b a' b':List V) (t:Bool),Rd σ a b=some t->Vs ι a a'->Vs ι b b'->vC a' b'=t
mutual
theorem Fq(H:nR K ι σ σ'):∀a:V,R2 ι σ a
 |.tup a=>λb a' b' t h ea eb=>by
  refine mO (ms (show (oA ι a).map V.tup=_ from ea)) λl' e1 e2=>?_;rw[<-e2]
  cases b with
  |tup l=>
   refine mO (ms (show (oA ι l).map V.tup=_ from eb)) λr' e3 e4=>?_;rw[<-e4];exact xJ H a _ _ _ _ h e1 e3
  |obj n=>
   refine nE (nu h) λhc ht=>?_;rw[<-ht];exact (HA H hc.2 e1 hc.1 eb).1
  |lst l=>
   refine mO (ms (show (oA ι l).map V.lst=_ from eb)) λr' e3 e4=>?_;rw[<-e4,<-ae h];rfl
  |dct l=>
   refine mO (ms (show (te ι l).map V.dct=_ from eb)) λr' e3 e4=>?_;rw[<-e4,<-ae h];rfl
  |_=>rw[<-ae eb,<-ae h];rfl
 |.lst a=>λb a' b' t h ea eb=>by
  refine mO (ms (show (oA ι a).map V.lst=_ from ea)) λl' e1 e2=>?_;rw[<-e2]
  cases b with
  |lst l=>
   refine mO (ms (show (oA ι l).map V.lst=_ from eb)) λr' e3 e4=>?_;rw[<-e4];exact xJ H a _ _ _ _ h e1 e3
  |obj n=>exact mV h
  |tup l=>
   refine mO (ms (show (oA ι l).map V.tup=_ from eb)) λr' e3 e4=>?_;rw[<-e4,<-ae h];rfl
  |dct l=>
   refine mO (ms (show (te ι l).map V.dct=_ from eb)) λr' e3 e4=>?_;rw[<-e4,<-ae h];rfl
  |_=>rw[<-ae eb,<-ae h];rfl
 |.obj n=>λb a' b' t h ea eb=>by
  cases b with
  |tup l=>
   refine nE (nu h) λhc ht=>?_;refine mO (ms (show (oA ι l).map V.tup=_ from eb)) λr' e3 e4=>?_;rw[<-ht,<-e4];exact (HA H hc.2 e3 hc.1 ea).2
  |obj m=>
   refine nE (nu h) λhc ht=>?_;rw[<-hc.2] at eb;rw[<-ht,<-ae (lw (Eq.symm ea) eb)];exact zv (sC H hc.1 ea).1
  |none=>
   refine nE (nu h) λhc ht=>?_;refine m4 ((sC H hc ea).2) λl e1=>?_;rw[e1,<-ht,<-ae eb];rfl
  |_=>exact mV h
 |.none=>λb a' b' t h ea eb=>xI H (a:=.none) rfl h ea eb
 |.bool _=>λb a' b' t h ea eb=>xI H (a:=.bool _) rfl h ea eb
 |.int _=>λb a' b' t h ea eb=>xI H (a:=.int _) rfl h ea eb
 |.sym _=>λb a' b' t h ea eb=>xI H (a:=.sym _) rfl h ea eb
 |.txt _=>λb a' b' t h ea eb=>xI H (a:=.txt _) rfl h ea eb
 |.dct _=>λb a' b' t h ea eb=>by
  refine mO (ms (show (te ι _).map V.dct=_ from ea)) λl' e1 e2=>?_;rw[<-e2]
  cases b with
  |obj n=>exact mV h
  |_=>rw[<-ae h];rfl
theorem xJ(H:nR K ι σ σ'):∀a:List V,PM ι σ a
 |[]=>λb a' b' t h ea eb=>by
  rw[oa ea]
  cases b with
  |nil=>rw[oa eb,<-ae h];rfl
  |cons w b=>
   refine mU (nW eb) λw' r e Z Z=>?_;rw[e,<-ae h];rfl
 |x::a=>λb a' b' t h ea eb=>by
  refine mU (nW ea) λx' l' e1 e2 e3=>?_;rw[e1]
  cases b with
  |nil=>rw[oa eb,<-ae h];rfl
  |cons w b=>
   refine mU (nW eb) λw' r e e4 e5=>?_;rw[e];refine mO (bs (show (GB σ x w).bind _=_ from h)) λs h1 h2=>?_;show (pL x' w'&&vC l' r)=t;rw[Fq H x _ _ _ _ h1 e2 e4]
   cases s with
   |true=>exact xJ H a _ _ _ _ h2 e3 e5
   |false=>exact ae h2
end
end
section
variable {K:Ctx}{ι:List V}{σ σ':St}{v v' a b a' b' x x':V}{l l':List V}{P:Pg}
theorem Fa(H:nR K ι σ σ')(h:Vr ι v v')(hs:uu σ 40 (uf σ v)=true):Vr ι (uf σ v) (uf σ' v'):=by
 unfold uf at hs ⊢
 cases e:pV σ v with
 |some l=>
  rw[e] at hs;refine nP (AZ H h l e) λl' e1 h1 Z=>?_;rw[e1];show (oA ι l).map V.lst=_;rw[h1];rfl
 |none=>
  rw[e] at hs
  have:pV σ' v'=none:=by
   cases v with
   |obj n=>
    refine IY (sC H (b2 (show (decide (30<=40)&&MC σ n)=true from hs)).2 h) λZ l e1=>?_;rw[e1];rfl
   |tup l=>
    refine mO (ms (show (oA ι l).map V.tup=_ from h)) λr' e3 e4=>?_;rw[<-e4];rfl
   |lst l=>
    refine mO (ms (show (oA ι l).map V.lst=_ from h)) λr' e3 e4=>?_;rw[<-e4];rfl
   |dct l=>exact mP hs
   |_=>rw[<-ae h];rfl
  rw[this];exact h
theorem Gi{a b a' b':V}(ha:Vr ι a a')(hb:Vr ι b b'){t:Bool}(e:H0 a b=some t):Ct σ' a' b'=some t:=by
 cases a with
 |sym i=>cases b with
  |sym j=>
   have h:a'=.sym i:=(ae ha).symm;have k:b'=.sym j:=(ae hb).symm;rw[h,k];exact e
  |_=>exact mV e
 |_=>exact mV e
theorem RI(H:nR K ι σ σ')(ha:Vr ι a a')(hb:Vr ι b b'):LO Eq (SH σ a b) (Ct σ' a' b'):=λt e=>by
 rcases m8 e with e | e
 .exact⟨t,Gi ha hb e,rfl⟩
 refine mO (bs e) λs e1 e2=>?_;refine nE (nu e2) λhc e2=>?_;have hc:=b2 hc;have na:=Fa H ha hc.1;have nb:=Fa H hb hc.2;refine⟨t,?_,rfl⟩;unfold Ct;rw[Fq H _ _ _ _ _ e1 na nb,e2];exact if_pos (by rw[t9 H hc.1 na,t9 H hc.2 nb];rfl)
theorem S3(H:nR K ι σ σ')(ha:Vr ι a a')(hb:Vr ι b b'):LO Eq (Cu σ a b) (Cu σ' a' b'):=by
 refine LO.orElse ((wA H hb).bind λl l' hl=>(tV ha).map λi j e=>?_) (λt e=>?_) λt e=>?_
 .have:∀{l:List (Nat×V)},(l.any λp=>p.1==i)=(l.map (·.1)).any (·==i):=λ{l}=>by induction l with
   |nil=>rfl
   |cons p l ih=>exact congrArg (_||·) ih
  rw[<-e,this,this,vt hl]
 .refine mO (bs e) λl e1 e2=>?_;refine nE (nu e2) λhc e2=>?_;have hc':=b2 hc;refine mO (zx H hb l e1) λl' e3 h3=>?_;have h4:=Rm h3 (qN hc'.2);refine⟨t,?_,rfl⟩;unfold Ie;rw[e3,h4,Rl ha (vD hc'.1)];show og _ _=_;rw[e2];exact if_pos hc
 .refine mO (bs e) λl e1 e2=>?_;exact pE (Ev H hb e1).2.2
theorem Kh(H:nR K ι σ σ')(ha:Vr ι a a'):(pJ a').isSome=(pJ a).isSome:=by
 cases a with
 |obj n=>
  rcases H.is (show ι[n]?=some a' from ha) with ⟨l,e⟩ | ⟨m,_,e,_⟩<;>rw[e]<;>rfl
 |tup l=>
  refine mO (ms (show (oA ι l).map V.tup=_ from ha)) λr' e3 e4=>?_;rw[<-e4];rfl
 |lst l=>
  refine mO (ms (show (oA ι l).map V.lst=_ from ha)) λr' e3 e4=>?_;rw[<-e4];rfl
 |dct l=>
  refine mO (ms (show (te ι l).map V.dct=_ from ha)) λr' e3 e4=>?_;rw[<-e4];rfl
 |_=>rw[<-ae ha]
theorem RK(H:nR K ι σ σ')(ha:Vr ι a a')(hb:Vr ι b b'):LO Eq (Jh a b) (Jh a' b'):=
 LO.orElse ((Ki hb).map λZ Z Z=>(Kh H ha).symm) ((tU ha).bind λi j e=>(tU hb).map λk m e'=>by rw[e,e']) λt e=>by
  refine mO (bs e) λi Z e=>?_;refine mO (ms e) λj e Z=>?_;refine m4 (oU (tU hb) e) λj' e=>?_;show (pJ b').map _=none;rw[pP e];rfl
theorem CO{k:Nat}:∀{l:List V} {t:Bool},JQ k l=some t->Vs ι l l/\nD 39 l=true/\(l.any λy=>pL y (.sym k))=t
 |[],t,e=>⟨rfl,rfl,ae e⟩
 |v::l,t,e=>by
  cases v with
  |sym j=>
   refine mO (ms (show (JQ k l).map _=_ from e)) λb e1 e2=>?_;refine sH (CO e1) λh1 h2 h3=>?_;exact⟨m6 rfl h1,h2,by rw[<-e2];show (j==k||_)=_;rw[h3]⟩
  |_=>exact mV e
theorem t7(H:nR K ι σ σ'):∀{l l':List V} {t:Bool},ve σ l=some t->Vs ι l l'->nD 39 l'=true/\(l'.any λy=>pL y .none)=t
 |[],_,t,e,h=>by rw[oa h];exact⟨rfl,ae e⟩
 |v::l,_,t,e,h=>by
  refine mU (nW h) λv' l' e1 e2 e3=>?_;rw[e1]
  cases v with
  |none=>
   refine mO (ms (show (ve σ l).map _=_ from e)) λb e4 e5=>?_;rw[<-ae e2,<-e5];exact⟨(t7 H e4 e3).1,rfl⟩
  |obj n=>
   have e:(if MC σ n=true then ve σ l else none)=some t:=e
   split at e
   .rename_i hT;refine nE (t7 H e e3) λh1 h2=>?_;refine IY (sC H hT e2) λh3 r h4=>?_;rw[<-h2];refine⟨?_,?_⟩
    .show (nM 39 v'&&nD 39 l')=true;rw[nn (by decide:30<=39) h3,h1];rfl
    .rw[h4];rfl
   .exact mV e
  |tup r=>
   have e:(if uu σ 39 (.tup r)=true then ve σ l else none)=some t:=e
   split at e
   .rename_i hT;refine nE (t7 H e e3) λh1 h2=>?_;refine mO (ms (show (oA ι r).map V.tup=_ from e2)) λr' e6 e7=>?_;rw[<-h2];refine⟨?_,?_⟩
    .show (nM 39 v'&&nD 39 l')=true;rw[t9 H hT e2,h1];rfl
    .rw[<-e7];rfl
   .exact mV e
  |_=>exact mV e
theorem MW(H:nR K ι σ σ')(ha:Vr ι a a')(hb:Vr ι b b'):LO Eq (SI σ a b) (Cu σ' a' b'):=λt e=>by
 rcases m8 e with e | e
 .cases a with
  |sym i=>cases b with
   |tup l=>
    refine sH (CO (ι:=ι) e) λh1 h2 h3=>?_;have h:a'=.sym i:=(ae ha).symm
    have k:b'=.tup l:=by
     have hb:(oA ι l).map V.tup=some b':=hb;rw[h1] at hb;exact (ae hb).symm
    rw[h,k];refine⟨t,?_,rfl⟩;show orElse none (og (nM 40 (.sym i)&&nD 40 l) (l.any λy=>pL y (.sym i)))=_;rw[h3,qB (by decide:39<=40) h2];rfl
   |_=>exact mV e
  |none=>cases b with
   |lst l=>
    have h:a'=.none:=(ae ha).symm;refine mO (ms (show (oA ι l).map V.lst=_ from hb)) λl' k1 k2=>?_;refine nE (t7 H e k1) λh2 h3=>?_;rw[h,<-k2];refine⟨t,?_,rfl⟩;show orElse none (og (nM 40 .none&&nD 40 l') (l'.any λy=>pL y .none))=_;rw[h3,qB (by decide:39<=40) h2];rfl
   |_=>exact mV e
  |_=>exact mV e
 .exact S3 H ha hb t e
theorem DB{o o':Option Bool}(h:LO Eq o o'):LO Eq (o.map not) (o'.map not):=h.map λZ Z e=>congrArg not e
theorem MV(H:nR K ι σ σ')(ha:Vr ι a a')(hb:Vr ι b b'):LO Eq (OD σ op a b) (Cs σ' op a' b'):=by
 cases op with
 |eq=>exact RI H ha hb
 |ne=>exact DB (RI H ha hb)
 |lt=>exact (pR ha).bind λi j e=>(pR hb).map λk m e'=>by rw[e,e']
 |gt=>exact (pR ha).bind λi j e=>(pR hb).map λk m e'=>by rw[e,e']
 |isin=>exact MW H ha hb
 |notin=>exact DB (MW H ha hb)
 |is=>exact RK H ha hb
 |isnt=>exact DB (RK H ha hb)
theorem SX(h:Vs ι l l'){i j:Int}(e:i=j):LO (Vr ι) (Hf l i) (Hf l' j):=by
 subst e;unfold Hf;rw[nQ h]
 split
 .exact (rt _ h).lo
 .split
  .exact (rt _ h).lo
  .exact .none
theorem RJ(H:nR K ι σ σ')(ha:Vr ι a a')(hb:Vr ι b b'):LO (Vr ι) (tL P σ a b) (tL P σ' a' b'):=by
 refine LO.orElse ((pR hb).bind λi j e=>(tV ha).bind λk m e'=>by subst e;subst e';exact LO.map (A:=Eq) .refl λZ Z e=>by rw[e];rfl)
  (LO.orElse ((pR hb).bind λi j e=>(zx H ha).bind λl l' h=>SX h e) ((tV hb).bind λi j e=>(wA H ha).bind λl l' h=>by subst e;exact (ub h).lo) λt e=>?_) λt e=>?_
 .refine mO (bs e) λk e Z=>?_;exact pE (FN (oU (tV hb) e).choose_spec)
 .rcases m8 e with e | e
  .refine mO (bs e) λi Z e=>?_;refine mO (bs e) λl e Z=>?_;exact xc (Ev H ha e).1
  .refine mO (bs e) λk e Z=>?_;exact pE (FN (oU (tV hb) e).choose_spec)
theorem wb{i:Int}{v:V}(h:Hf l i=some v):tL P σ' (.tup l) (.int i)=some v:=by
 show orElse none (orElse (Hf l i) _)=_;rw[h];rfl
theorem Pt(ha:Vr ι a a')(hb:Vr ι b b'):LO (Vr ι) (ER a b) (tL P σ' a' b'):=λt e=>by
 cases a with
 |tup l=>
  refine mO (ms (show (oA ι l).map V.tup=_ from ha)) λl' e1 e2=>?_
  cases b with
  |int j=>cases j with
   |ofNat n=>
    have hb:b'=.int (.ofNat n):=(ae hb).symm;have h:=rt n e1;have e:l[n]?=some t:=e;rw[e] at h;rw[<-e2,hb]
    cases e3:l'[n]? with
    |none=>rw[e3] at h;exact h.elim
    |some t'=>
     rw[e3] at h;refine⟨t',wb ?_,h⟩;have hn:n < l'.length:=(aq.mp e3).1;unfold Hf;rw[if_pos (by constructor<;>omega)];exact e3
   |_=>exact mV e
  |_=>exact mV e
 |_=>exact mV e
theorem Pw(H:nR K ι σ σ')(ha:Vr ι a a')(hb:Vr ι b b'):LO (Vr ι) (Rc P σ a b) (tL P σ' a' b'):=λt e=>by
 rcases m8 e with e | e
 .exact Pt ha hb t e
 rcases m8 e with e | e
 .exact RJ H ha hb t e
 .refine mO (bs e) λn e1 e=>?_;refine mO (bs e) λi e2 e=>?_;refine mO (pR hb i e2) λi' e3 hi=>?_;subst hi;rw[nJ e1] at ha;rw[nS e3];replace e:=EW e;obtain ⟨c,d,e4,e⟩:=e
  split at e
  .rename_i hc;have hi:=(tq H e4 (by unfold xo;rw[decide_eq_true (by omega:998<=c)];rfl) ha).2;unfold Hb at hi;rw[if_pos hc] at hi;refine m4 hi λl h=>?_;rw[h]
   split at e
   .rename_i h0;subst h0;rw[<-ae e];exact⟨_,wb rfl,rfl⟩
   .refine nE (nu e) λh1 e9=>?_;rw[h1,<-e9];exact⟨_,wb rfl,rfl⟩
  .split at e
   .rename_i hc;subst hc;refine nr ((tq H e4 rfl ha).2) λs l h Z=>?_;refine nE (nu e) λh1 e9=>?_;rw[h1,h,<-e9];exact⟨_,wb rfl,rfl⟩
   .split at e
    .rename_i hc;refine nE (nu e) λh1 e9=>?_;subst hc;refine xK ((tq H e4 rfl ha).2) λx l h=>?_;rw[h1,h,<-e9];exact⟨_,wb rfl,rfl⟩
    .refine nE (nu e) λVy e9=>?_;obtain ⟨hc,h1⟩:=Vy;subst hc;refine xL ((tq H e4 rfl ha).2) λx y l h=>?_;rw[h1,h,<-e9];exact⟨_,wb rfl,rfl⟩
theorem Py(H:nR K ι σ σ')(ha:Vr ι a a')(hb:Vr ι b b'):LO (Vr ι) (uB σ a b) (uB σ' a' b'):=by
 refine LO.orElse ((pR hb).bind λi j e=>(tc ha).bind λl l' h=>LO.og λc=>⟨by rw[<-e,nQ h];exact c,rfl⟩)
  ((pR hb).bind λi j e=>(vF H ha).bind λl l' h=>LO.og λc=>⟨by rw[<-e,nQ h];exact c,?_⟩) λt e=>?_
 .rw[<-e,nQ h];show (oA ι _).map V.lst=_;rw[vv _ h];rfl
 .refine mO (bs e) λi Z e=>?_;refine mO (bs e) λl e Z=>?_;refine m4 (oU (vF H ha) e) λl' e=>?_;refine xc ?_
  rcases zZ e with ⟨l,e⟩ | ⟨m,e,_⟩<;>rw[e]<;>rfl
theorem ym(h:Vr ι v v'):LO Eq (AT P v) (AT P v'):=LO.orElse ((tV h).map λZ Z e=>congrArg _ e) (MY h) λt e=>by
 refine m4 (oU (MY h) e) λZ e=>?_;rw[vA e];rfl
theorem FQ{n:Nat}(e:AT P v=some n):nI v=none/\pQ v=none:=by
 rcases m8 e with e | e
 .refine mO (ms e) λk e Z=>?_;rw[oF e];exact⟨rfl,rfl⟩
 .rw[vA e];exact⟨rfl,rfl⟩
theorem Le(e:r4 σ v=some l):nI v=none/\pQ v=none/\pC v=none/\AT P v=none:=by
 rcases zZ e with ⟨l,e⟩ | ⟨m,e,_⟩<;>rw[e]<;>exact⟨rfl,rfl,rfl,rfl⟩
theorem RG(H:nR K ι σ σ')(ha:Vr ι a a')(hb:Vr ι b b'):LO (Vr ι) (Hu P σ a b) (Hu P σ' a' b'):=by
 have L:LO (Vr ι) (w8 σ a b) (w8 σ' a' b'):=(vF H ha).bind λl l' h=>(vF H hb).bind λr r' k=>LO.og λc=>⟨by rw[aL] at c ⊢;rw[nQ h,nQ k];exact c,by
  show (oA ι _).map V.lst=_
  rw[r9 h k];rfl⟩
 have T:LO (Vr ι) (w9 P a b) (w9 P a' b'):=(ym ha).bind λm m' e=>(ym hb).bind λn n' e'=>by subst e;subst e';exact LO.og λc=>⟨c,rfl⟩
 have nL:∀t,w8 σ a b=some t->nI a'=none/\pQ a'=none/\pC a'=none/\AT P a'=none:=λt e=>by
  refine mO (bs e) λl e Z=>?_;refine m4 (oU (vF H ha) e) λl' e=>?_;exact Le e
 have nT:∀t,w9 P a b=some t->nI a'=none/\pQ a'=none:=λt e=>by
  refine mO (bs e) λl e Z=>?_;refine m4 (oU (ym ha) e) λl' e=>?_;exact FQ e
 refine LO.orElse ((pR ha).bind λi j e=>(pR hb).map λk m e'=>by rw[e,e'];rfl) (LO.orElse ((tc ha).bind λl l' h=>(tc hb).bind λr r' k=>LO.og λc=>⟨by rw[aL] at c ⊢;rw[nQ h,nQ k];exact c,by
  show (oA ι _).map V.tup=_
  rw[r9 h k];rfl⟩) (LO.orElse T L λt e=>pE (nL t e).2.2.2) λt e=>?_) λt e=>?_
 .rcases m8 e with e | e
  .exact pE (nT t e).2
  .exact pE (nL t e).2.1
 .rcases m8 e with e | e
  .refine mO (bs e) λl e Z=>?_;refine m4 (oU (tc ha) e) λl' e=>?_;rw[oy e];rfl
  .rcases m8 e with e | e
   .exact pE (nT t e).1
   .exact pE (nL t e).1
theorem RH(H:nR K ι σ σ'){op:Kn}(ha:Vr ι a a')(hb:Vr ι b b'):LO (Vr ι) (wv P σ op a b) (wv P σ' op a' b'):=by
 cases op with
 |add=>exact RG H ha hb
 |sub=>exact (pR ha).bind λi j e=>(pR hb).map λk m e'=>by rw[e,e'];rfl
 |mod=>exact (pR ha).bind λi j e=>(pR hb).bind λk m e'=>by subst e;subst e';exact LO.og λc=>⟨c,rfl⟩
 |mul=>
  refine LO.orElse ((pR ha).bind λi j e=>(pR hb).bind λk m e'=>by subst e;subst e';exact LO.og λc=>⟨c,rfl⟩) ((tc ha).bind λl l' h=>(pR hb).bind λk m e'=>by
   subst e'
   exact LO.og λc=>⟨c,by show (oA ι _).map V.tup=_;rw[h];rfl⟩) λt e=>?_
  refine mO (bs e) λl e Z=>?_;refine m4 (oU (tc ha) e) λl' e=>?_;rw[oy e];rfl
theorem Px(h:Vr ι v v'):LO Eq (vl P v) (vl P v'):=LO.orElse ((pR h).bind λi j e=>by subst e;exact LO.og λc=>⟨c,rfl⟩) (ym h) λt e=>by
 refine m4 (oU (ym h) e) λZ e=>?_;exact pE (FQ e).1
theorem Eu{A:α->β->Prop}(H:nR K ι σ σ')(h:Vr ι v v'){f:Nat->List (Nat×V)->Nat->Option α}{g:Nat->List (Nat×V)->Nat->Option β}(k:∀c l l' d d',ι[d]?=some (.obj d')->Vd ι l l'->LO A (f c l d) (g c l' d')):LO A (E6 σ v f) (rN σ' v' g):=λa e=>by
 refine mO (bs e) λn e1 e=>?_;refine mO (bs e) λc e2 e=>?_;refine mO (bs e) λc' e3 e=>?_;refine nE (nu e3) λhc e3=>?_;subst e3;refine mO (bs e) λl e4 e=>?_;rw[nJ e1] at h;refine mU (No H h e2 hc) λm m' h1 h2 h3=>?_;refine mU (zC H h3 e4) λm2 l' h4 h5 h6=>?_;refine mO (k c.1 l l' c.2 m' h3 h6 a e) λb h7 h8=>?_;refine⟨b,?_,h8⟩;have hm:=sV h4;subst hm;rw[h1];show (uq σ' m).bind _=_;rw[h2];show (dictAt σ' m').bind _=_;rw[h5];exact h7
theorem Ps(H:nR K ι σ σ')(h:Vr ι v v'){k:Nat}:LO (Vr ι) (MH σ v k) (Db σ' v' k):=Eu H h λc l l' d d' Z h=>(ub h).lo
theorem Pv(H:nR K ι σ σ')(h:Vr ι v v'){k:Nat}:LO Eq (MI P σ v k) (DH P σ' v' k):=Eu H h λc l l' d d' Z h=>λa e=>by
 refine⟨a,?_,rfl⟩;have g:=ub (k:=k) h
 cases e1:qj l k with
 |some _=>rw[e1] at e;exact mV e
 |none=>
  rw[e1] at e g
  cases e2:qj l' k with
  |some _=>rw[e2] at g;exact g.elim
  |none=>exact e
def RM(K:Ctx)(ι:List V)(σ' τ T0:St):Prop:=nR K ι τ T0/\ti ι σ' ι T0
theorem RM.set(H:nR K ι σ σ'){n:Nat}{o o':O}(e:ι[n]?=some (.obj m))(h:oz K ι o (.obj m) (some o')):RM K ι σ' (σ.set n o) (σ'.set m o'):=⟨H.set e h,.set (aF e)⟩
theorem Ml(H:nR K ι σ σ')(h:Vr ι v v'){k:Nat}(hx:Vr ι x x'):LO (RM K ι σ') (IH σ v k x) (JI σ' v' k x'):=
 Eu H h λc l l' d d' hd h=>LO.og λc=>⟨by rw[uc h];exact c,.set H hd ⟨_,rfl,wY hx h⟩⟩
theorem vM{k:Nat}{x:V}:∀{l:List (Nat×V)} (p:Nat×V),p∈rW l k x->p.1=k\/∃q∈l,q.1=p.1
 |[],p,h=>.inl (by rw[am.mp h])
 |(j,v)::l,p,h=>by
  unfold rW at h
  split at h
  .rename_i c
   rcases aA.mp h with h | h
   .exact .inl (by rw[h];exact eq_of_beq c)
   .exact .inr ⟨p,ao _ h,rfl⟩
  .rcases aA.mp h with h | h
   .exact .inr ⟨_,ah,by rw[h]⟩
   .exact (vM p h).imp id λzq=>mO zq λq hq e=>⟨q,ao _ hq,e⟩
theorem xi{k:Nat}{x:V}:∀{l:List (Nat×V)},(l.map (·.1)).Nodup->((rW l k x).map (·.1)).Nodup
 |[],_=>by show [k].Nodup;exact bM.mpr (And.intro (λh=>nomatch h) jg)
 |(j,v)::l,h=>by
  have h:=bM.mp h;unfold rW
  split
  .exact bM.mpr h
  .rename_i c;refine bM.mpr ⟨λhm=>?_,xi h.2⟩;refine mO (bK.mp hm) λp hp e=>?_;have e:p.1=j:=e
   rcases vM p hp with e1 | ⟨q,hq,e1⟩
   .rw[<-e,e1] at c;exact c (beq_self_eq_true _)
   .exact h.1 (bK.mpr ⟨q,hq,e1.trans e⟩)
theorem yZ{w:List Nat}:∀{l:List Nat},l.Nodup->(∀x∈l,x∈w)->l.length<=w.length
 |[],_,_=>bc _
 |a::l,h,k=>by
  have h:=bM.mp h;have ha:=k a ah;have:l.length<=(w.erase a).length:=yZ (w:=w.erase a) h.2 λx hx=>(List.mem_erase_of_ne λe=>h.1 (by rw[<-e];exact hx)).mpr (k x (ao _ hx));rw[List.length_erase_of_mem ha] at this;exact az (dg this) (dv (Nat.sub_add_cancel (List.length_pos_of_mem ha)))
theorem F0.set{l:List (Nat×V)}{k:Nat}(h:F0 l)(hk:ud.contains k=true):F0 (rW l k x):=⟨xi h.1,λp hp=>by
 rcases vM p hp with e | ⟨q,hq,e⟩
 .rw[e];exact cV.mp hk
 .rw[<-e];exact h.2 q hq⟩
theorem F0.len{l:List (Nat×V)}(h:F0 l):l.length < ni:=by
 have:=yZ (w:=ud) h.1 λx hx=>by
  refine mO (bK.mp hx) λp hp e=>?_;rw[<-e];exact h.2 p hp
 rw[aU] at this;exact dy this (by decide)
theorem Mm(H:nR K ι σ σ')(ha:Vr ι a a')(hb:Vr ι b b')(hx:Vr ι x x'):LO (RM K ι σ') (II σ a b x) (yb σ' a' b' x'):=λτ e=>by
 refine mO (bs e) λn e1 e=>?_;refine mO (bs e) λk e2 e=>?_;refine mO (tV hb k e2) λk' e3 hk=>?_;subst hk;rw[nJ e1] at ha
 have go:∀{m l' T0},a'=.obj m->dictAt σ' m=some l'->l'.length < ni->T0=σ'.set m (.dict (rW l' k x'))->yb σ' a' b' x'=some T0:=λ{m l' T0} e e1 hl e2=>by
  unfold yb;rw[e,e3];show (dictAt σ' m).bind _=_;rw[e1,e2];exact if_pos hl
 rcases m8 e with e | e
 .refine mO (bs e) λl e4 e=>?_;refine nE (nu e) λhl e=>?_;refine mU (zC H ha e4) λm l' h1 h2 h3=>?_;refine⟨_,go h1 h2 (by rw[uc h3];exact hl) rfl,?_⟩;rw[<-e];exact .set H (ha.trans (congrArg some h1)) ⟨_,rfl,wY hx h3⟩
 .replace e:=EW e;obtain ⟨c,d,e4,e⟩:=e;refine nE (nu e) λhc e=>?_;refine mO (H.slot n _ e4) λw e5 h=>?_;rw[show ι[n]?=some a' from ha] at e5
  cases e5
  unfold oz at h;dsimp only at h;rw[hc.1,if_neg (by decide)] at h;unfold Sp at h;rw[if_neg (by decide),if_pos rfl] at h;refine mO h λl e6 h=>?_;refine mO (bs e6) λm e7 e8=>?_;have hm:=nJ e7;refine⟨_,go hm (show (σ'[m]?).bind O.d?=_ by rw[e8];rfl) h.len rfl,?_⟩
  have hs:=nR.set (o:=.inst c d) H (ha.trans (congrArg some hm)) (o':=.dict (rW l k x')) (by
   unfold oz;dsimp only;rw[hc.1,if_neg (by decide)];unfold Sp;rw[if_neg (by decide),if_pos rfl]
   exact⟨_,rfl,h.set hc.2⟩)
  rw[<-e]
  have:σ.set n (.inst c d)=σ:=by
   obtain ⟨hn,e9⟩:=aq.mp e4;rw[<-e9];exact List.set_getElem_self hn
  rw[this] at hs;exact⟨hs,.set (aF (ha.trans (congrArg some hm)))⟩
end
def Hd(ι:List V):It->It->Prop
 |.items l,it=>match it with
  |.items l'=>Vs ι l l'
  |_=>False
 |.live n,it=>match it with
  |.live m=>ι[n]?=some (.obj m)
  |_=>False
def n7(ι:List V)(ρ ρ':mQ):Prop:=ρ'.length=ρ.length/\∀(i:Nat) (v:V),ρ[i]?.join=some v->∃v',ρ'[i]?.join=some v'/\Vr ι v v'
abbrev uI:List V->V->V->Prop:=Vr
abbrev Mp{α:Type}:List V->α->α->Prop:=λZ a b=>a=b
abbrev UU:List V->Unit->Unit->Prop:=λZ Z Z=>True
section
variable {K:Ctx}{v v' a b a' b' x x':V}{l':List V}{P:Pg}{ρ':mQ}
theorem n7.mono(h:n7 ι ρ ρ')(s:∃κ,TZ=ι++κ):n7 TZ ρ ρ':=⟨h.1,λi v e=>(h.2 i v e).elim λv' h=>⟨v',h.1,nZ s h.2⟩⟩
theorem n7.get(h:n7 ι ρ ρ')(i:Nat):LO (Vr ι) (ρ[i]?.join) (ρ'[i]?.join):=h.2 i
theorem n7.set(h:n7 ι ρ ρ'){i:Nat}(hv:Vr ι v v'):n7 ι (ρ.set i (some v)) (ρ'.set i (some v')):=by
 refine⟨by rw[bG,bG];exact h.1,λj w e=>?_⟩
 by_cases hj:i=j
 .subst hj
  rcases bE i ρ.length with hi | hi
  .rw[bh hi] at e;rw[bh (by rw[h.1];exact hi)];exact⟨v',rfl,by rw[<-show v=w from ae e];exact hv⟩
  .rw[bx (by rw[bG];exact hi)] at e;exact mV e
 .rw[bl hj] at e ⊢;exact h.2 j w e
theorem H4{F:C6}(h:Vs ι l l'):n7 ι (qX F l) (qX F l'):=by
 unfold qX;refine⟨by simp only[aL,aU,nQ h],λi v e=>?_⟩;have g:=rt i h
 rcases bE i l.length with hi | hi
 .rw[ay (by rw[aU];exact hi),br] at e;rw[ay (by rw[aU,nQ h];exact hi),br]
  cases e1:l[i]? with
  |none=>rw[e1] at e;exact mV e
  |some w=>
   rw[e1] at e g
   cases e2:l'[i]? with
   |none=>rw[e2] at g;exact g.elim
   |some w'=>rw[e2] at g;exact⟨w',rfl,by rw[<-show w=v from ae e];exact g⟩
 .rw[aE (by rw[aU];exact hi),ir] at e
  split at e<;>exact mV e
theorem Bi:∀{is:List Nat} {l l':List V} {ρ ρ':mQ},Vs ι l l'->n7 ι ρ ρ'->LO (n7 ι) (bindL is l ρ) (bindL is l' ρ')
 |[],l,l',ρ,ρ',h,hr=>(tT h).map λZ Z Z=>hr
 |i::is,l,l',ρ,ρ',h,hr=>(Et h).bind λv v' hv=>(LO.og (A:=n7 ι) λc=>⟨by rw[hr.1];exact c,hr.set hv⟩).bind λZ Z hr=>Bi (uH h) hr
theorem Bk{t:MX}(hv:Vr ι v v')(hr:n7 ι ρ ρ'):LO (n7 ι) (qo t v ρ) (qo t v' ρ'):=(LO.refl (o:=wZ t)).bind λis ZG e=>by
 subst e;refine LO.bind (A:=Vs ι) ?_ λl l' h=>Bi h hr
 cases t with
 |tup ts=>exact tc hv
 |_=>exact LO.some (m6 hv rfl)
theorem Dl{m:Bool}(H:nR K ι σ σ')(h:Vs ι l l'):SD K ι σ' uI (newL m l σ) (newL m l' σ'):=by
 have hl:Vr ι (.lst l) (.lst l'):=congrArg (cj V.lst) h
 cases m with
 |true=>exact .newO H (λTZ s=>⟨l',rfl,qU s h⟩) (by
   show (ι++[V.obj σ'.length])[σ.length]?=_
   rw[<-H.len,aE (aQ _),dB];rfl)
 |false=>exact .ok H hl
theorem HN(H:nR K ι σ σ'){l l':List (Nat×V)}(h:Vd ι l l'):SD K ι σ' uI (newO σ (.dict l):R Unit V) (newO σ' (.dict l'):R Unit V):=
 .newO H (λTZ s=>⟨l',rfl,vu s h⟩) (by
   show (ι++[V.obj σ'.length])[σ.length]?=_
   rw[<-H.len,aE (aQ _),dB];rfl)
theorem KU(H:nR K ι σ σ')(h:Vs ι l l'):SD K ι σ' uI (ul ks l σ) (ul ks l' σ'):=
 .gd (λc=>by rw[nQ h];exact c) λZ=>HN H (AH (l:=[]) (l':=[]) rfl (FC h))
theorem Sd(H:nR K ι σ σ')(h:Vr ι v v'):SD K ι σ' Hd (xp v σ) (xp v' σ'):=by
 cases v with
 |tup l=>
  refine mO (tc h l rfl) λl' e e1=>?_;rw[oy e];exact .ok H e1
 |lst l=>
  refine mO (Pu h l rfl) λl' e e1=>?_;rw[u3 e];exact .ok H e1
 |obj n=>
  intro a τ e
  cases e1:listAt σ n with
  |none=>rw[show xp (.obj n) σ=R.opt (listAt σ n) λZ=>.ok (.live n) σ from rfl,e1] at e;exact nomatch e
  |some l=>
   refine mU (xe H h e1) λm l' h1 h2 h3=>?_;rw[show xp (.obj n) σ=R.opt (listAt σ n) λZ=>.ok (.live n) σ from rfl,e1] at e
   cases e
   refine⟨ι,.live m,σ',?_,.refl _ _,H,h.trans (congrArg some h1)⟩;rw[h1];show R.opt (listAt σ' m) _=_;rw[h2];rfl
 |_=>exact λZ Z e=>nomatch e
theorem ww{n:Nat}{f:Nat->Int}:Vs ι ((aM n).map λi=>V.int (f i)) ((aM n).map λi=>V.int (f i)):=by
 have:∀{r:List Nat},oh (r.map λi=>V.int (f i))=true:=λ{r}=>by induction r with
  |nil=>rfl
  |cons _ r ih=>exact ih
 exact qf this
theorem Qb(H:nR K ι σ σ')(h:Vs ι l l'):SD K ι σ' Hd (xZ l σ) (xZ l' σ'):=by
 have one:∀{l l':List V},Vs ι l l'->LO Eq ((hd l).bind nI) ((hd l').bind nI):=λh=>(Et h).bind λZ Z h=>pR h
 have e0:sP (tl l')=sP (tl l):=by
  have:=uH h
  cases e:tl l with
  |nil=>rw[e] at this;rw[oa this]
  |cons w r=>
   rw[e] at this;refine mU (nW this) λw' r' e1 Z Z=>?_;rw[e1];rfl
 unfold xZ;rw[e0]
 split
 .exact .opt (one h) λn m e=>by subst e;exact .gd id λZ=>.ok H ww
 .exact .opt (one h) λn m e=>.opt (one (uH h)) λp p' e'=>.opt (one (uH (uH h))) λo o' Vc=>.opt (tT (uH (uH (uH h)))) λZ Z Z=>by
   subst e;subst e';subst Vc;exact .gd id λZ=>.ok H ww
theorem Km:∀{l l' r r':List V},Vs ι l l'->Vs ι r r'->Vs ι (yE l r) (yE l' r')
 |[],_,_,_,h,k=>by rw[oa h];rfl
 |v::l,_,[],_,h,k=>by
  rw[oa k];refine mU (nW h) λv' l' e Z Z=>?_;rw[e];rfl
 |v::l,_,w::r,_,h,k=>by
  refine mU (nW h) λv' l' e e1 h=>?_;refine mU (nW k) λw' r' e' e1' k=>?_;rw[e,e'];exact m6 (v:=.tup [v,w]) (v':=.tup [v',w']) (congrArg (cj V.tup) (m6 e1 (m6 e1' rfl))) (Km h k)
theorem KX(h:Vs ι l l'):Vs ι (uT l) (uT l'):=by
 have:∀{l l':List V} {n:Nat},Vs ι l l'->Vs ι ((l.zipIdx n).map λp=>.tup [.int p.2,p.1]) ((l'.zipIdx n).map λp=>.tup [.int p.2,p.1]):=λ{l}=>by
  induction l with
  |nil=>intro l' n h;rw[oa h];rfl
  |cons v l ih=>
   intro l' n h;refine mU (nW h) λv' r e e1 h=>?_;rw[e];exact m6 (v:=.tup [.int n,v]) (v':=.tup [.int n,v']) (congrArg (cj V.tup) (m6 rfl (m6 e1 rfl))) (ih h)
 exact this h
theorem Qc(H:nR K ι σ σ')(ha:Vr ι a a')(hb:Vr ι b b'):SD K ι σ' Hd (FX a b σ) (FX a' b' σ'):=.opt (Pu ha) λl l' h=>.opt (tc hb) λr r' k=>.gd (λc=>by rw[nQ h,nQ k];exact c) λZ=>.ok H (Km h k)
theorem yg{l:List Nat}:oh (l.map V.sym)=true:=by induction l with
 |nil=>rfl
 |cons _ l ih=>exact ih
theorem NF(H:nR K ι σ σ')(ha:Vr ι a a')(hb:Vr ι b b'):SD K ι σ' uI (uF a b σ) (uF a' b' σ'):=.opt (tV ha) λi i' e=>.opt (tV hb) λj j' e'=>by
 subst e;subst e';exact .ok H (o7 (show pZ (.lst _)=true from yg))
theorem HP{A:List V->V->V->Prop}{f f':Nat->List V->R Unit V}(H:nR K ι σ σ')(h:Vr ι v v')(k:∀n m l l',ι[n]?=some (.obj m)->Vs ι l l'->SD K ι σ' A (f n l) (f' m l')):SD K ι σ' A (onL σ v f) (onL σ' v' f'):=by
 unfold onL
 cases e:pB v with
 |none=>exact λZ Z e=>nomatch e
 |some n=>
  rw[nJ e] at h;show SD K ι σ' A (R.opt (listAt σ n) _) _
  cases e1:listAt σ n with
  |none=>exact λZ Z e=>nomatch e
  |some l=>
   refine mU (xe H h e1) λm l' h1 h2 h3=>?_;rw[h1];show SD K ι σ' A _ (R.opt (listAt σ' m) _);rw[h2];exact k n m l l' (h.trans (congrArg some h1)) h3
theorem MA{A:List V->V->V->Prop}{f f':Nat->List (Nat×V)->R Unit V}(H:nR K ι σ σ')(h:Vr ι v v')(k:∀n m l l',ι[n]?=some (.obj m)->Vd ι l l'->SD K ι σ' A (f n l) (f' m l')):
  SD K ι σ' A (R.opt (pB v) λn=>R.opt (dictAt σ n) λl=>f n l) (R.opt (pB v') λn=>R.opt (dictAt σ' n) λl=>f' n l):=by
 cases e:pB v with
 |none=>exact λZ Z e=>nomatch e
 |some n=>
  rw[nJ e] at h;show SD K ι σ' A (R.opt (dictAt σ n) _) _
  cases e1:dictAt σ n with
  |none=>exact λZ Z e=>nomatch e
  |some l=>
   refine mU (zC H h e1) λm l' h1 h2 h3=>?_;rw[h1];show SD K ι σ' A _ (R.opt (dictAt σ' m) _);rw[h2];exact k n m l l' (h.trans (congrArg some h1)) h3
theorem HO(H:nR K ι σ σ')(h:Vr ι v v'):SD K ι σ' uI (Af v σ) (Af v' σ'):=MA H h λn m l l' Z h=>.gd (λc=>by rw[uc h];exact c) λZ=>.ok H rfl
theorem Bl:∀{l l':List V},Vs ι l l'->LO Eq (tX l) (tX l')
 |[],_,h=>by rw[oa h];exact .refl
 |v::l,_,h=>by
  refine mU (nW h) λv' r e e1 h=>?_
  rw[e];exact (tU e1).bind λi j e=>(Bl h).map λZ Z e'=>by rw[e,e']
theorem FO:∀{l l':List V},Vs ι l l'->LO Eq (yf l) (yf l')
 |[],_,h=>by rw[oa h];exact .refl
 |v::l,_,h=>by
  refine mU (nW h) λv' r e e1 h=>?_
  rw[e];exact (tV e1).bind λi j e=>(FO h).map λZ Z e'=>by rw[e,e']
theorem Sb{bb:BI}(H:nR K ι σ σ')(h:Vr ι v v'):SD K ι σ' uI (DX σ bb v) (DX σ' bb v'):=by
 cases bb with
 |len=>exact .of H ((zx H h).map λl l' h=>by rw[nQ h];rfl)
 |any=>exact .of H ((vF H h).bind λl l' h=>(Bl h).map λi j e=>by rw[e];rfl)
 |tuple=>exact .of H ((vF H h).bind λl l' h=>LO.og λc=>⟨by rw[nQ h];exact c,congrArg (cj V.tup) h⟩)
 |list m=>exact .opt (zx H h) λl l' h=>.gd (λc=>by rw[nQ h];exact c) λZ=>Dl H h
 |dict=>exact .opt (wA H h) λl l' h=>.gd (λc=>by rw[uc h];exact c) λZ=>HN H h
 |sorted m=>
  refine .opt (D:=Eq) (LO.orElse ((wA H h).map λl l' h=>(vt h).symm) ((zx H h).bind λl l' h=>FO h) λt e=>?_) λks UX e=>by
   subst e;exact .gd id λZ=>Dl H (qf yg)
  refine mO (bs e) λl e Z=>?_;have:=(Ev H h e).2.2;rw[this];rfl
theorem Ld(h:Vs ι l l'):LO (Vr ι) l.getLast? l'.getLast?:=by
 rw[eJ,eJ,nQ h];exact (rt _ h).lo
theorem Sc{m:BM}(H:nR K ι σ σ')(h:Vr ι v v')(hl:Vs ι l l'):SD K ι σ' uI (xU σ m v l) (xU σ' m v' l'):=by
 have hI:=(Et hl).bind (B:=Eq) (f:=nI) (g:=nI) λZ Z h=>pR h;have hS:=(Et hl).bind (B:=Eq) (f:=pC) (g:=pC) λZ Z h=>tV h
 cases m with
 |append=>
  exact .opt (Et hl) λx x' hx=>.opt (tT (uH hl)) λZ Z Z=>HP H h λn m r r' hn hr=>.gd (λc=>by rw[nQ hr];exact c) λZ=>.setO H hn ⟨_,rfl,r9 hr (m6 hx rfl)⟩ rfl
 |pop0=>
  exact .opt (tT hl) λZ Z Z=>HP H h λn m r r' hn hr=>.opt (Ld hr) λw w' hw=>.setO H hn ⟨_,rfl,by rw[dX,dX,nQ hr];exact vv _ hr⟩ hw
 |pop1=>
  exact .opt hI λi j e=>.opt (tT (uH hl)) λZ Z Z=>HP H h λn m r r' hn hr=>by
   subst e;exact .gd id λZ=>.opt (rt _ hr).lo λw w' hw=>.setO H hn ⟨_,rfl,by rw[fC,fC];exact r9 (vv _ hr) (CB _ hr)⟩ hw
 |get1=>
  exact .opt hS λk k' e=>.opt (tT (uH hl)) λZ Z Z=>.of H ((wA H h).map λr r' hr=>by
   subst e;have g:=ub (k:=k) hr
   cases e1:qj r k<;>cases e2:qj r' k<;>rw[e1,e2] at g<;>first | exact g | exact g.elim | rfl)
 |get2=>
  exact .opt hS λk k' e=>.opt (Et (uH hl)) λx x' hx=>.opt (tT (uH (uH hl))) λZ Z Z=>.of H ((wA H h).map λr r' hr=>by
   subst e;have g:=ub (k:=k) hr
   cases e1:qj r k<;>cases e2:qj r' k<;>rw[e1,e2] at g<;>first | exact g | exact g.elim | exact hx)
 |update=>
  exact .opt (Et hl) λx x' hx=>.opt (tT (uH hl)) λZ Z Z=>MA H h λn m r r' hn hr=>.opt (wA H hx) λs s' hs=>.gd (λc=>⟨by rw[uc hr,uc hs];exact c.1,by
    have c2:(pB x != some n)=true:=c.2;show (pB x' != some m)=true;refine bne_iff_ne.mpr λe=>bne_iff_ne.mp c2 ?_
    cases x with
    |obj i=>exact congrArg some (H.inj i n m (lw hx (congrArg some (nJ e))) hn)
    |tup l=>refine mO (ms (show (oA ι l).map V.tup=_ from hx)) λr' Z e4=>?_;rw[<-e4] at e;exact mV e
    |lst l=>refine mO (ms (show (oA ι l).map V.lst=_ from hx)) λr' Z e4=>?_;rw[<-e4] at e;exact mV e
    |dct l=>refine mO (ms (show (te ι l).map V.dct=_ from hx)) λr' Z e4=>?_;rw[<-e4] at e;exact mV e
    |_=>rw[<-ae hx] at e;exact mV e⟩) λZ=>.setO H hn ⟨_,rfl,AH hr hs⟩ rfl
theorem KF{m:BM}(H:nR K ι σ σ')(h:Vr ι v v'):HB σ m v=true->HB σ' m v'=true:=by
 have L:(pV σ v).isSome=true->(pV σ' v').isSome=true:=λc=>by
  refine m4 (aV.mp c) λl e=>?_;refine m4 (oU (AZ H h) e) λl' e=>?_;rw[e];rfl
 have D:(sU σ v).isSome=true->(sU σ' v').isSome=true:=λc=>by
  refine m4 (aV.mp c) λl e=>?_;refine m4 (oU (Es H h) e) λl' e=>?_;rw[e];rfl
 have DD:(qr σ v).isSome=true->(qr σ' v').isSome=true:=λc=>by
  refine m4 (aV.mp c) λl e=>?_;refine m4 (oU (wA H h) e) λl' e=>?_;rw[e];rfl
 cases m with
 |get1=>exact DD
 |get2=>exact DD
 |update=>exact D
 |_=>exact L
end
def yJ{α β:Type}(K:Ctx)(A:List V->α->β->Prop)(f:mQ->St->N Unit α)(g:mQ->St->R Unit β):Prop:=
 ∀{ι:List V} {σ σ':St} {ρ ρ':mQ},nR K ι σ σ'->n7 ι ρ ρ'->Sm K ι σ' A UU (f ρ σ) (g ρ' σ')
structure oS(K:Ctx)(D:nh)(D':wB):Prop where
 E:yJ K uI D.E D'.E
 T:yJ K Mp D.T D'.T
 L:yJ K Vs D.L D'.L
 F:yJ K Mp D.F D'.F
 and:yJ K uI D.and D'.and
 or:yJ K uI D.or D'.or
 all:yJ K Mp D.all D'.all
 any:yJ K Mp D.any D'.any
 I:yJ K Hd D.I D'.I
 A:∀{ι:List V} {σ σ':St} {ρ ρ':mQ} {v v':V},nR K ι σ σ'->n7 ι ρ ρ'->Vr ι v v'->Sm K ι σ' n7 n7 (D.A v ρ σ) (D'.A v' ρ' σ')
 As:∀{ι:List V} {σ σ':St} {ρ ρ':mQ} {v v':List V},nR K ι σ σ'->n7 ι ρ ρ'->Vs ι v v'->Sm K ι σ' n7 n7 (D.As v ρ σ) (D'.As v' ρ' σ')
 nil:D.nil=D'.nil
section
variable {K:Ctx}{P:Pg}{q:Bool}
theorem oS.ofT{f:mQ->St->N Unit V}{t:mQ->St->N Unit Bool}{f':mQ->St->R Unit V}{t':mQ->St->R Unit Bool}{A:V->mQ->St->N mQ mQ}{A':V->mQ->St->R mQ mQ}(hf:yJ K uI f f')(ht:yJ K Mp t t')(hA:∀{ι:List V} {σ σ':St} {ρ ρ':mQ} {v v':V},nR K ι σ σ'->n7 ι ρ ρ'->Vr ι v v'->Sm K ι σ' n7 n7 (A v ρ σ) (A' v' ρ' σ')):oS K (nh.ofTA f t A) {wB.ofT f' t' with A:=A'}:=
 ⟨hf,ht,λZ Z=>.bad,λZ Z=>.bad,λZ Z=>.bad,λZ Z=>.bad,λZ Z=>.bad,λZ Z=>.bad,λH hr=>(hf H hr).bind λTZ a b τ T0 x H hv=>.did (Sd H hv),hA,λZ Z Z=>.bad,rfl⟩
theorem yJ.tr{f:mQ->St->N Unit V}{f':mQ->St->R Unit V}(hf:yJ K uI f f'):yJ K Mp (λρ σ=>(f ρ σ).bind λv σ=>.of (pp v) σ) (λρ σ=>(f' ρ σ).bind λv σ=>.of (pp v) σ):=
 λH hr=>(hf H hr).bind λTZ a b τ T0 x H hv=>.of H (tU hv)
theorem oS.ofEA{f:mQ->St->N Unit V}{f':mQ->St->R Unit V}{A:V->mQ->St->N mQ mQ}{A':V->mQ->St->R mQ mQ}(hf:yJ K uI f f')(hA:∀{ι:List V} {σ σ':St} {ρ ρ':mQ} {v v':V},nR K ι σ σ'->n7 ι ρ ρ'->Vr ι v v'->Sm K ι σ' n7 n7 (A v ρ σ) (A' v' ρ' σ')):oS K (nh.ofEA f A) {wB.ofE f' with A:=A'}:=.ofT hf hf.tr hA
theorem oS.ofE{f:mQ->St->N Unit V}{f':mQ->St->R Unit V}(hf:yJ K uI f f'):oS K (nh.ofE f) (wB.ofE f'):=.ofEA (A:=OC) (A':=wB.no.A) hf λZ Z Z=>.bad
theorem oS.ofT'{f:mQ->St->N Unit V}{t:mQ->St->N Unit Bool}{f':mQ->St->R Unit V}{t':mQ->St->R Unit Bool}(hf:yJ K uI f f')(ht:yJ K Mp t t'):oS K (nh.ofT f t) (wB.ofT f' t'):=.ofT (A:=OC) (A':=wB.no.A) hf ht λZ Z Z=>.bad
theorem oS.ofI{f:mQ->St->N Unit It}{f':mQ->St->R Unit It}(hf:yJ K Hd f f'):oS K (nh.ofI f) (wB.ofI f'):=
 ⟨λZ Z=>.bad,λZ Z=>.bad,λZ Z=>.bad,λZ Z=>.bad,λZ Z=>.bad,λZ Z=>.bad,λZ Z=>.bad,λZ Z=>.bad,hf,λZ Z Z=>.bad,λZ Z Z=>.bad,rfl⟩
theorem Mu(H:nR K ι σ σ')(h:Hd ι it U0){i:Nat}:LO (OR (Vr ι)) (it.at i σ) (U0.at i σ'):=by
 cases it with
 |items l=>cases U0 with
  |items l'=>exact LO.some (rt i h)
  |live _=>exact h.elim
 |live n=>cases U0 with
  |items _=>exact h.elim
  |live m=>exact LO.map (A:=Vs ι) (λl e=>by
    refine mU (xe H h e) λm' l' h1 h2 h3=>?_
    exact⟨l',by rw[sV h1];exact h2,h3⟩) λl l' h=>rt i h
theorem ET(H:nR K ι σ σ')(h:Hd ι it U0):U0.fuel σ'=it.fuel σ\/it.fuel σ=0:=by
 cases it with
 |items l=>cases U0 with
  |items l'=>exact .inl (congrArg (·+1) (nQ h))
  |live _=>exact h.elim
 |live n=>cases U0 with
  |items _=>exact h.elim
  |live m=>
   show ((listAt σ' m).map _).getD 0=((listAt σ n).map _).getD 0\/((listAt σ n).map _).getD 0=0
   cases e:listAt σ n with
   |none=>exact .inr rfl
   |some l=>
    refine mU (xe H h e) λm' l' h1 h2 h3=>?_;rw[sV h1,h2];exact .inl (congrArg (·+1) (nQ h3))
theorem Hd.mono(h:Hd ι it U0)(s:∃κ,TZ=ι++κ):Hd TZ it U0:=by
 cases it with
 |items l=>cases U0 with
  |items l'=>exact qU s h
  |live _=>exact h.elim
 |live n=>cases U0 with
  |items _=>exact h.elim
  |live m=>exact nZ (v:=.obj n) s h
theorem Sm.loopC{f:V->St->N Unit (Option V)}{g:V->St->R Unit (Option V)}{ι0:List V}(hf:∀{ι σ σ' v v'},(∃κ,ι=ι0++κ)->nR K ι σ σ'->Vr ι v v'->Sm K ι σ' (λι=>OR (Vr ι)) UU (f v σ) (g v' σ'))(k:Nat):
  ∀{ι σ σ' i acc VG},(∃κ,ι=ι0++κ)->nR K ι σ σ'->Hd ι it U0->Vs ι acc VG->Sm K ι σ' Vs UU (Ad it f k i acc σ) (Mine.Internal.loopC U0 g k i VG σ'):=by
 induction k with
 |zero=>exact λZ Z Z Z=>.bad
 |succ k ih=>
  intro ι σ σ' i acc VG s H hi ha;refine .opt (Mu H hi) λw w' hw=>?_
  cases w with
  |none=>cases w' with
   |none=>exact .ok H ha
   |some _=>exact hw.elim
  |some v=>cases w' with
   |none=>exact hw.elim
   |some v'=>
    refine (hf s H hw).bind λTZ a b τ T0 x H Vh=>?_
    have s1:∃κ,TZ=ι0++κ:=by
     refine m4 s λκ e=>?_;refine m4 x.sub λU8 e'=>?_;exact⟨κ++U8,by rw[e',e,aP]⟩
    have ha:=qU x.sub ha
    cases a with
    |none=>cases b with
     |none=>exact ih s1 H (hi.mono x.sub) ha
     |some _=>exact Vh.elim
    |some y=>cases b with
     |none=>exact Vh.elim
     |some y'=>exact .gd (λc=>by rw[nQ ha];exact c) λZ=>ih s1 H (hi.mono x.sub) (r9 ha (m6 Vh rfl))
def Ko(ι:List V)(p p':Fl×mQ):Prop:=n7 ι p.2 p'.2/\match p.1 with
 |.next=>p'.1=.next
 |.ret v=>∃v',p'.1=.ret v'/\Vr ι v v'
abbrev R3(K:Ctx)(g:mQ->St->N mQ (Fl×mQ))(g':mQ->St->R mQ (Fl×mQ)):Prop:=∀{ι σ σ' ρ ρ'},nR K ι σ σ'->n7 ι ρ ρ'->Sm K ι σ' Ko n7 (g ρ σ) (g' ρ' σ')
theorem Sm.after{g:mQ->St->N mQ (Fl×mQ)}{g':mQ->St->R mQ (Fl×mQ)}{ι σ σ'}{p p':Fl×mQ}(hg:∀{ρ ρ'},n7 ι ρ ρ'->Sm K ι σ' Ko n7 (g ρ σ) (g' ρ' σ'))(H:nR K ι σ σ')(hp:Ko ι p p'):Sm K ι σ' Ko n7 (Ab g p σ) (Mine.Internal.after g' p' σ'):=by
 obtain ⟨fl,ρ⟩:=p;obtain ⟨Vl,ρ'⟩:=p'
 cases fl with
 |next=>
  have:Vl=.next:=hp.2;rw[this];exact hg hp.1
 |ret v=>
  refine mO hp.2 λv' e hv=>?_;have e:Vl=.ret v':=e;rw[e];exact .ok H ⟨hp.1,v',rfl,hv⟩
theorem Sm.loopS{f:V->mQ->St->N mQ (Fl×mQ)}{g:V->mQ->St->R mQ (Fl×mQ)}(hf:∀{ι σ σ' ρ ρ' v v'},nR K ι σ σ'->n7 ι ρ ρ'->Vr ι v v'->Sm K ι σ' Ko n7 (f v ρ σ) (g v' ρ' σ'))(k:Nat):
  ∀{ι σ σ' i ρ ρ'},nR K ι σ σ'->Hd ι it U0->n7 ι ρ ρ'->Sm K ι σ' Ko n7 (DJ it f k i ρ σ) (Mine.Internal.loopS U0 g k i ρ' σ'):=by
 induction k with
 |zero=>exact λZ Z Z=>.bad
 |succ k ih=>
  intro ι σ σ' i ρ ρ' H hi hr;refine .opt (Mu H hi) λw w' hw=>?_
  cases w with
  |none=>cases w' with
   |none=>exact .ok H ⟨hr,rfl⟩
   |some _=>exact hw.elim
  |some v=>cases w' with
   |none=>exact hw.elim
   |some v'=>exact (hf H hr hw).bind λTZ a b τ T0 x H Vh=>.after (λhr=>ih H (hi.mono x.sub) hr) H Vh
theorem Sm.loopW{c:mQ->St->N Unit Bool}{c':mQ->St->R Unit Bool}{f:mQ->St->N mQ (Fl×mQ)}{g:mQ->St->R mQ (Fl×mQ)}(hc:yJ K Mp c c')(hf:R3 K f g)(k:Nat):R3 K (DK c f k) (Mine.Internal.loopW c' g k):=by
 induction k with
 |zero=>exact λZ Z=>.bad
 |succ k ih=>
  intro ι σ σ' ρ ρ' H hr;refine (Sm.lift (X:=n7) (hc H hr) λTZ Z x=>hr.mono x.sub).bind λTZ a b τ T0 x H Vh=>?_;have Vh:a=b:=Vh;subst Vh
  cases a with
  |true=>exact (hf H (hr.mono x.sub)).bind λU4 a b τ T0 x H Vh=>.after (λhr=>ih H hr) H Vh
  |false=>exact .ok H ⟨hr.mono x.sub,rfl⟩
theorem Sm.ift{Us:Type}{A:List V->α->β->Prop}{X:List V->ε->Us->Prop}{a b:Bool}{m m':N ε α}{r r':R Us β}(e:a=b)(h:Sm K ι σ' A X m r)(h':Sm K ι σ' A X m' r'):Sm K ι σ' A X (if a=true then m else m') (if b=true then r else r'):=by
 subst e;exact .ite (λZ=>h) λZ=>h'
variable {Q:we}{C:Call}
theorem Sm.gd1{Us:Type}{A:List V->α->β->Prop}{X:List V->ε->Us->Prop}{p:Prop}[Decidable p]{m:N ε α}{r:R Us β}(k:p->Sm K ι σ' A X m r):Sm K ι σ' A X (N.gd p m) r:=by
 unfold N.gd
 split
 .rename_i c;exact k c
 .exact .bad
theorem Sm.shift{Us:Type}{A:List V->α->β->Prop}{X:List V->ε->Us->Prop}{m:N ε α}{r:R Us β}(E:ti ι σ' TZ T0)(h:Sm K TZ T0 A X m r):Sm K ι σ' A X m r:=λk x e=>h.from E e
theorem QR{v:V}:oS K (Fg v) (nF P q C (.lit v)):=.ofE λH hr=>.gd1 λc=>.ok H (o7 c)
theorem Oj{k:Nat}(hG:∀k,pZ (P.const k)=true):oS K (Cc P k) (nF P q C (.glob k)):=.ofE λH hr=>.ok H (o7 (hG k))
theorem QY{i:Nat}:oS K (Fo i) (nF P q C (.var i)):=.ofEA (λH hr=>.of H (hr.get i)) λ{ι σ σ' ρ ρ' v v'} H hr hv=>.gd (p':=i < ρ'.length) (r:=.ok (ρ'.set i (some v')) σ') (λc=>by rw[hr.1];exact c) λZ=>.ok H (hr.set hv)
theorem QU:oS K (Fj) (nF P q C (.nil)):=by
  exact⟨λZ Z=>.bad,λH Z=>.ok H rfl,λH Z=>.ok H rfl,λH Z=>.ok H rfl,λZ Z=>.bad,λZ Z=>.bad,λH Z=>.ok H rfl,λH Z=>.ok H rfl,λZ Z=>.bad,λZ Z Z=>.bad,λ{ι σ σ' ρ ρ' v v'} H hr hv=>by
   cases v with
   |nil=>rw[oa hv];exact .ok H hr
   |cons _ _=>exact .bad,rfl⟩
theorem Of(T7:oS K N0 (nF P q C e))(T4:oS K N1 (nF P q C es)):oS K (B8 P e es N0 N1) (nF P q C (.cons e es)):=by
  refine⟨λZ Z=>.bad,λZ Z=>.bad,λH hr=>(T7.E H hr).bind λTZ a b τ T0 x H hv=>(T4.L H (hr.mono x.sub)).bind λU4 l l' υ Vf y H hl=>.ok H (m6 (nZ y.sub hv) hl),
   λH hr=>(T7.E H hr).bind λTZ a b τ T0 x H hv=>.opt (Px hv) λk k' e=>?_,λH hr=>?_,λH hr=>?_,
   λH hr=>(T7.T H hr).bind λTZ a b τ T0 x H hv=>.ift hv (T4.all H (hr.mono x.sub)) (.ok H rfl),
   λH hr=>(T7.T H hr).bind λTZ a b τ T0 x H hv=>.ift hv (.ok H rfl) (T4.any H (hr.mono x.sub)),λZ Z=>.bad,λZ Z Z=>.bad,λ{ι σ σ' ρ ρ' v v'} H hr hv=>?_,rfl⟩
  .subst e;exact .gd id λZ=>(T4.F H (hr.mono x.sub)).bind λU4 n n' υ Vf y H hn=>.ok H (congrArg (k+·) hn)
  .show Sm K _ _ uI UU (if _ then _ else _) (if _ then _ else _);refine .ift T4.nil (T7.E H hr) ((T7.E H hr).bind λTZ a b τ T0 x H hv k y c=>?_)
   cases e1:pp a with
   |none=>rw[e1] at c;exact mP c
   |some t=>
    refine mO (tU hv t e1) λt' e2 e3=>?_;subst e3;rw[e1] at c;rw[e2]
    cases t with
    |true=>exact T4.and H (hr.mono x.sub) k y c
    |false=>exact (Sm.ok (A:=uI) (X:=UU) H hv) k y c
  .show Sm K _ _ uI UU (if _ then _ else _) (if _ then _ else _);refine .ift T4.nil (T7.E H hr) ((T7.E H hr).bind λTZ a b τ T0 x H hv k y c=>?_)
   cases e1:pp a with
   |none=>rw[e1] at c;exact mP c
   |some t=>
    refine mO (tU hv t e1) λt' e2 e3=>?_;subst e3;rw[e1] at c;rw[e2]
    cases t with
    |true=>exact (Sm.ok (A:=uI) (X:=UU) H hv) k y c
    |false=>exact T4.or H (hr.mono x.sub) k y c
  .cases v with
   |nil=>exact .bad
   |cons w v=>
    refine mU (nW hv) λw' r e e1 e2=>?_;rw[e];exact (T7.A H hr e1).bind λTZ a b τ T0 x H hr=>T4.As H hr (qU x.sub e2)
theorem QX(ih:oS K N0 (nF P q C es)):oS K (Fn q es N0) (nF P q C (.tup es)):=by
  exact .ofEA (λH hr=>(ih.L H hr).bind λTZ l l' τ T0 x H hl=>.gd (λc=>by rw[nQ hl];exact c) λZ=>.ok H (congrArg (cj V.tup) hl))
   λH hr hv=>.gd id λZ=>.opt (tc hv) λl l' hl=>.gd (λc=>by rw[nQ hl];exact c) λZ=>ih.As H hr hl
theorem QS{m:Bool}(ih:oS K N0 (nF P q C es)):oS K (Fh m es N0) (nF P q C (.lst m es)):=.ofE λH hr=>(ih.L H hr).bind λTZ l l' τ T0 x H hl=>.gd (λc=>by rw[nQ hl];exact c) λZ=>.did (Dl H hl)
theorem Og(ih:oS K N0 (nF P q C es)):oS K (B9 ks es N0) (nF P q C (.dict ks es)):=.ofE λH hr=>(ih.L H hr).bind λTZ l l' τ T0 x H hl=>.did (KU H hl)
theorem Oc{k:Nat}(ih:oS K N0 (nF P q C e)):oS K (B5 e k N0) (nF P q C (.attr e k)):=by
  exact .ofEA (λH hr=>(ih.E H hr).bind λTZ a b τ T0 x H hv=>.of H (Ps H hv)) λH hr hv=>(Sm.lift (X:=n7) (ih.E H hr) λTZ Z x=>hr.mono x.sub).bind λTZ a b τ T0 x H ha=>.opt (Ml H ha (nZ x.sub hv)) λυ Vf h k y c=>
   ⟨_,_,_,h.2,h.1,hr.mono x.sub,c⟩
theorem QP{i:MX}(T7:oS K N0 (nF P q C e))(T4:oS K N1 (nF P q C i)):oS K (Fe P e i N0 N1) (nF P q C (.idx e i)):=by
  exact .ofEA (λH hr=>(T7.E H hr).bind λTZ a b τ T0 x H hv=>(T4.E H (hr.mono x.sub)).bind λU4 c d υ Vf y H hw=>.of H (Pw H (nZ y.sub hv) hw)) λH hr hv=>
   (Sm.lift (X:=n7) (T7.E H hr) λTZ Z x=>hr.mono x.sub).bind λTZ a b τ T0 x H ha=>(Sm.lift (X:=n7) (T4.E H (hr.mono x.sub)) λU4 Z y=>(hr.mono x.sub).mono y.sub).bind λU4 c d υ Vf y H hw=>
    .opt (Mm H (nZ y.sub ha) hw (nZ y.sub (nZ x.sub hv))) λω Zr h k z cc=>⟨_,_,_,h.2,h.1,(hr.mono x.sub).mono y.sub,cc⟩
theorem Om{i:MX}(T7:oS K N0 (nF P q C e))(T4:oS K N1 (nF P q C i)):oS K (Cf e i N0 N1) (nF P q C (.upto e i)):=.ofE λH hr=>(T7.E H hr).bind λTZ a b τ T0 x H hv=>(T4.E H (hr.mono x.sub)).bind λU4 c d υ Vf y H hw=>.of H (Py H (nZ y.sub hv) hw)
theorem QN{op:Kn}{i:MX}(T7:oS K N0 (nF P q C e))(T4:oS K N1 (nF P q C i)):oS K (Fc P op e i N0 N1) (nF P q C (.bin op e i)):=.ofE λH hr=>(T7.E H hr).bind λTZ a b τ T0 x H hv=>(T4.E H (hr.mono x.sub)).bind λU4 c d υ Vf y H hw=>.of H (RH H (nZ y.sub hv) hw)
theorem QO{i:MX}(T7:oS K N0 (nF P q C e))(T4:oS K N1 (nF P q C i)):oS K (Fd op e i N0 N1) (nF P q C (.cmp op e i)):=by
  exact .ofT' (λH hr=>(T7.E H hr).bind λTZ a b τ T0 x H hv=>(T4.E H (hr.mono x.sub)).bind λU4 c d υ Vf y H hw=>.of H ((MV H (nZ y.sub hv) hw).map λi j e=>by rw[e];rfl))
   λH hr=>(T7.E H hr).bind λTZ a b τ T0 x H hv=>(T4.E H (hr.mono x.sub)).bind λU4 c d υ Vf y H hw=>.of H (MV H (nZ y.sub hv) hw)
theorem QV(ih:oS K N0 (nF P q C e)):oS K (Fk e N0) (nF P q C (.not e)):=.ofT' (λH hr=>(ih.E H hr).bind λTZ a b τ T0 x H hv=>.of H ((tU hv).map λi j e=>by rw[e];rfl)) λH hr=>(ih.T H hr).bind λTZ a b τ T0 x H hv=>.ok H (congrArg not hv)
theorem QM(ih:oS K N0 (nF P q C e)):oS K (Fb e N0) (nF P q C (.and e)):=.ofT' ih.and ih.all
theorem SG(ih:oS K N0 (nF P q C e)):oS K (IV e N0) (nF P q C (.or e)):=.ofT' ih.or ih.any
theorem QQ{c i:MX}{N2:nh}(VT:oS K N0 (nF P q C c))(T7:oS K N1 (nF P q C e))(T4:oS K N2 (nF P q C i)):oS K (Ff c e i N0 N1 N2) (nF P q C (.ite c e i)):=.ofT' (λH hr=>(VT.T H hr).bind λTZ a b τ T0 x H hv=>.ift hv (T7.E H (hr.mono x.sub)) (T4.E H (hr.mono x.sub))) λH hr=>(VT.T H hr).bind λTZ a b τ T0 x H hv=>.ift hv (T7.T H (hr.mono x.sub)) (T4.T H (hr.mono x.sub))
theorem Od{f:Nat}(hC:∀{f args Ud ι σ σ'},nR K ι σ σ'->Vs ι args Ud->Sm K ι σ' uI UU (Q f args σ) (C f Ud σ'))(ih:oS K N0 (nF P q C es)):oS K (B6 Q f es N0) (nF P q C (.call f es)):=.ofE λH hr=>(ih.L H hr).bind λTZ l l' τ T0 x H hl=>hC H hl
theorem Ok{k:Nat}(hC:∀{f args Ud ι σ σ'},nR K ι σ σ'->Vs ι args Ud->Sm K ι σ' uI UU (Q f args σ) (C f Ud σ'))(T7:oS K N0 (nF P q C e))(T4:oS K N1 (nF P q C es)):oS K (Cd P Q e k es N0 N1) (nF P q C (.meth e k es)):=by
  exact .ofE λH hr=>(T7.E H hr).bind λTZ a b τ T0 x H hv=>.opt (Pv H hv) λf f' e=>by
   subst e;exact (T4.L H (hr.mono x.sub)).bind λU4 l l' υ Vf y H hl=>hC H (m6 (nZ y.sub hv) hl)
theorem SC{b:BI}(ih:oS K N0 (nF P q C e)):oS K (IT q b e N0) (nF P q C (.bi b e)):=.ofE λH hr=>.gd id λZ=>(ih.E H hr).bind λTZ a b τ T0 x H hv=>.did (Sb H hv)
theorem SE{m:BM}(T7:oS K N0 (nF P q C e))(T4:oS K N1 (nF P q C es)):oS K (IU m e es N0 N1) (nF P q C (.bm m e es)):=.ofE λH hr=>(T7.E H hr).bind λTZ a b τ T0 x H hv=>.gd (KF H hv) λZ=>(T4.L H (hr.mono x.sub)).bind λU4 l l' υ Vf y H hl=>.did (Sc H (nZ y.sub hv) hl)
theorem QT(hC:∀{f args Ud ι σ σ'},nR K ι σ σ'->Vs ι args Ud->Sm K ι σ' uI UU (Q f args σ) (C f Ud σ')):oS K (Fi P Q c) (nF P q C (.new c)):=by
  refine .ofE λ{ι σ σ' ρ ρ'} H hr=>.opt .refl λf f' e=>.gd1 λhc=>?_;subst e;have h1:nR K (ι++[.obj σ'.length]) (σ++[.dict []]) (σ'++[.dict []]):=H.push ⟨[],rfl,rfl⟩
  have e1:(σ'++[O.dict []]).length=σ'.length+1:=by rw[aL];rfl
  have h2:=h1.push (o:=.inst c σ.length) (o':=.inst c σ'.length) (by
   unfold oz;dsimp only;rw[if_pos hc];refine⟨_,rfl,?_⟩
   rw[aP,<-H.len,aE (aQ _),dB];rfl)
  have x2:=(ti.push (ι:=ι) (σ':=σ') (o':=.dict [])).trans (ti.push (o':=.inst c σ'.length));rw[e1,aP σ,aP σ'] at h2;rw[e1,aP σ'] at x2
  have hs:Vr (ι++[.obj σ'.length]++[.obj (σ'.length+1)]) (.obj (σ.length+1)) (.obj (σ'.length+1)):=by
   show (ι++[.obj σ'.length]++[.obj (σ'.length+1)])[σ.length+1]?=_
   have:σ.length+1=(ι++[V.obj σ'.length]).length:=by rw[aL,H.len];rfl
   rw[this,aE (aQ _),dB];rfl
  refine .shift x2 ((hC h2 (m6 hs rfl)).bind λTZ a b τ T0 x H hv k y cc=>?_)
  cases e:pJ a with
  |none=>rw[e] at cc;exact mP cc
  |some u=>
   refine mO (Ki hv u e) λu' e2 Z=>?_;rw[e] at cc;rw[rF e2];exact (Sm.ok (A:=uI) (X:=UU) H (nZ x.sub hs)) k y cc
theorem Ol{a b:MX}(T7:oS K N0 (nF P q C a))(T4:oS K N1 (nF P q C b)):oS K (Ce q a b N0 N1) (nF P q C (.sset a b)):=.ofE λH hr=>.gd id λZ=>(T7.E H hr).bind λTZ a b τ T0 x H hv=>(T4.E H (hr.mono x.sub)).bind λU4 c d υ Vf y H hw=>.did (NF H (nZ y.sub hv) hw)
theorem Iy(ih:oS K N0 (nF P q C T8)):oS K (xG q T8 j N0) (nF P q C (.inEach T8 j)):=.ofE λH hr=>.gd id λZ=>(ih.E H hr).bind λTZ a b τ T0 x H hv=>.did (HO H hv)
theorem Oi{n:Nat}(ih:oS K N0 (nF P q C es)):oS K (Cb n es N0) (nF P q C (.fstr n es)):=by
  exact .ofE λH hr=>(ih.F H hr).bind λTZ a b τ T0 x H hn=>by
   have hn:a=b:=hn;subst hn;exact .gd id λZ=>.ok H rfl
theorem Oe{t Uv:MX}{N2 N3:nh}(VT:oS K N0 (nF P q C t))(T7:oS K N1 (nF P q C T8))(T4:oS K N2 (nF P q C cond))(Xo:oS K N3 (nF P q C Uv)):oS K (B7 q t T8 cond Uv N0 N1 N2 N3) (nF P q C (.comp t T8 cond Uv)):=by
  refine .ofE λH hr=>.gd id λZ=>(T7.I H hr).bind λTZ it U0 τ T0 x H hi=>Sm.bind (A:=Vs) (X:=UU) ?_ λU4 l l' υ Vf y H hl=>.ok H (congrArg (cj V.lst) hl)
  rcases ET H hi with e | e
  .rw[e];refine Sm.loopC (ι0:=TZ) (λ{ι σ σ' v v'} s H hv=>.opt (Bk hv ((hr.mono x.sub).mono s)) λρ1 Zt hr=>(T4.T H hr).bind λι3 a b ω Zr z H hb=>.ift hb ((Xo.E H (hr.mono z.sub)).bind (B:=λι=>OR (Vr ι)) λι4 a b Z Z w H Vh=>.ok (A:=λι=>OR (Vr ι)) (a:=some a) (b:=some b) H Vh) (.ok (A:=λι=>OR (Vr ι)) (a:=none) (b:=none) H trivial)) _ ⟨[],(ba _).symm⟩ H hi rfl
  .rw[e];exact .bad
theorem QW(ih:oS K N0 (nF P q C es)):oS K (Fm es N0) (nF P q C (.rng es)):=.ofI λH hr=>(ih.L H hr).bind λTZ l l' τ T0 x H hl=>.did (Qb H hl)
theorem Oh(ih:oS K N0 (nF P q C e)):oS K (Ca e N0) (nF P q C (.enum e)):=.ofI λH hr=>(ih.E H hr).bind λTZ l l' τ T0 x H hl=>.of H ((tc hl).map λl l' h=>KX h)
theorem QZ{a b:MX}(T7:oS K N0 (nF P q C a))(T4:oS K N1 (nF P q C b)):oS K (Fp a b N0 N1) (nF P q C (.zip a b)):=.ofI λH hr=>(T7.E H hr).bind λTZ a b τ T0 x H hv=>(T4.E H (hr.mono x.sub)).bind λU4 c d υ Vf y H hw=>.did (Qc H (nZ y.sub hv) hw)
theorem Lk(hG:∀k,pZ (P.const k)=true)(hC:∀{f args Ud ι σ σ'},nR K ι σ σ'->Vs ι args Ud->Sm K ι σ' uI UU (Q f args σ) (C f Ud σ')):∀e:MX,oS K (wJ P q Q e) (nF P q C e):=by
 intro e
 induction e with
 |lit v=>exact QR
 |glob k=>exact Oj hG
 |var i=>exact QY
 |nil=>exact QU
 |cons e es T7 T4=>exact (Of T7 T4 :)
 |tup es ih=>exact (QX ih :)
 |lst m es ih=>exact (QS ih :)
 |dict ks es ih=>exact (Og ih :)
 |attr e k ih=>exact (Oc ih :)
 |idx e i T7 T4=>exact (QP T7 T4 :)
 |upto e i T7 T4=>exact (Om T7 T4 :)
 |bin op e i T7 T4=>exact (QN T7 T4 :)
 |cmp op e i T7 T4=>exact (QO T7 T4 :)
 |not e ih=>exact (QV ih :)
 |and e ih=>exact (QM ih :)
 |or e ih=>exact (SG ih :)
 |ite c e i VT T7 T4=>exact (QQ VT T7 T4 :)
 |call f es ih=>exact (Od (Q:=Q) (C:=C) hC ih :)
 |meth e k es T7 T4=>exact (Ok (Q:=Q) (C:=C) hC T7 T4 :)
 |bi b e ih=>exact (SC ih :)
 |bm m e es T7 T4=>exact (SE T7 T4 :)
 |new c=>exact QT (Q:=Q) (C:=C) hC
 |sset a b T7 T4=>exact (Ol T7 T4 :)
 |inEach T8 j ih=>exact (Iy ih :)
 |fstr n es ih=>exact (Oi ih :)
 |comp t T8 cond Uv VT T7 T4 Xo=>exact (Oe VT T7 T4 Xo :)
 |rng es ih=>exact (QW ih :)
 |enum e ih=>exact (Oh ih :)
 |zip a b T7 T4=>exact (QZ T7 T4 :)
theorem Cg{m:N mQ (Fl×mQ)}{r:R mQ (Fl×mQ)}{k:mQ->St->N mQ (Fl×mQ)}{k':mQ->St->R mQ (Fl×mQ)}(h:Sm K ι σ' Ko n7 m r)(hk:∀{TZ τ T0 ρ ρ'},ti ι σ' TZ T0->nR K TZ τ T0->n7 TZ ρ ρ'->Sm K TZ T0 Ko n7 (k ρ τ) (k' ρ' T0)):Sm K ι σ' Ko n7 (IW m k) (vz r k'):=λkk x c=>by
 have:=h _ _ c
 cases r with
 |bad=>exact this
 |exc e τ=>
  refine mZ this λZ Z Z Z Z Z h=>?_;exact mP h
 |ok p' T0=>
  refine mZ this λTZ p τ x1 H hp c=>?_;obtain ⟨fl,ρ⟩:=p;obtain ⟨Vl,ρ'⟩:=p'
  cases fl with
  |ret v=>exact mP c
  |next=>
   have e:Vl=.next:=hp.2;rw[e];exact (hk x1 H hp.1).from x1 c
section
variable {Q:Bool->we}{C:Bool->Call}
def w6(K:Ctx)(S:qi)(D:Bool->mQ->St->R mQ (Fl×mQ)):Prop:=∀{q},R3 K (S q) (D q)
def yo(K:Ctx)(P:Pg)(Q:Bool->we)(C:Bool->Call):Prop:=∀{q} (e:MX),oS K (wJ P q (Q q) e) (nF P q (C q) e)
theorem yo.LE(X:yo K P Q C){q:Bool}(e:MX){ι σ σ' ρ ρ'}(H:nR K ι σ σ')(hr:n7 ι ρ ρ'):Sm K ι σ' uI n7 (((wJ P q (Q q) e).E ρ σ).lift ρ) ((dE P q (C q) e ρ' σ').lift ρ'):=.lift ((X (q:=q) e).E H hr) λTZ Z x=>hr.mono x.sub
theorem Ou: w6 K (CG) (λq=>dS P C q (.skip)):=by
 intro q;exact λH hr=>.ok H ⟨hr,rfl⟩
theorem Q7{a b:MS}(T7:w6 K S0 (λq=>dS P C q a))(T4:w6 K S1 (λq=>dS P C q b)):w6 K (FI a b S0 S1) (λq=>dS P C q (.seq a b)):=by
 intro q;exact λH hr=>(T7 H hr).bind λTZ p p' τ T0 x H hp=>.after (λhr=>T4 H hr) H hp
theorem Oq(X:yo K P Q C):w6 K (CE P Q e) (λq=>dS P C q (.expr e)):=by
 intro q;exact λH hr=>(X.LE e H hr).bind λTZ a b τ T0 x H Z=>.ok H ⟨hr.mono x.sub,rfl⟩
theorem Q3{t:MX}(X:yo K P Q C):w6 K (FE P Q t e) (λq=>dS P C q (.asg t e)):=by
 intro q;exact λH hr=>(X.LE e H hr).bind λTZ a b τ T0 x H hv=>((X t).A H (hr.mono x.sub) hv).bind λU4 Z Z Z Z Z H hr=>.ok H ⟨hr,rfl⟩
theorem Q6(X:yo K P Q C):w6 K (FH P Q e) (λq=>dS P C q (.ret e)):=by
 intro q;exact λH hr=>(X.LE e H hr).bind λTZ a b τ T0 x H hv=>.ok H ⟨hr.mono x.sub,b,rfl,hv⟩
theorem Q5{c:MX}{a b:MS}(X:yo K P Q C)(T7:w6 K S0 (λq=>dS P C q a))(T4:w6 K S1 (λq=>dS P C q b)):w6 K (FG P Q c a b S0 S1) (λq=>dS P C q (.iff c a b)):=by
 intro q;exact λH hr=>(Sm.lift (X:=n7) ((X c).T H hr) λTZ Z x=>hr.mono x.sub).bind λTZ t t' τ T0 x H ht=>.ift ht (T7 H (hr.mono x.sub)) (T4 H (hr.mono x.sub))
theorem Q8{c:MX}{b:MS}(X:yo K P Q C)(ih:w6 K S0 (λq=>dS P C q b)):w6 K (FJ P Q c b S0) (λq=>dS P C q (.whl c b)):=by
 intro q;exact λH hr=>.gd id λZ=>Sm.loopW (X c).T ih _ H hr
theorem Q4{t it:MX}{b:MS}(X:yo K P Q C)(ih:w6 K S0 (λq=>dS P C q b)):w6 K (FF P Q t it b S0) (λq=>dS P C q (.for t it b)):=by
 intro q;intro ι σ σ' ρ ρ' H hr;refine .gd id λZ=>(Sm.lift (X:=n7) ((X it).I H hr) λTZ Z x=>hr.mono x.sub).bind λTZ i i' τ T0 x H hi=>?_
 rcases ET H hi with e | e
 .rw[e];exact Sm.loopS (λH hr hv=>.opt (Bk hv hr) λZ Z hr=>ih H hr) _ H hi (hr.mono x.sub)
 .rw[e];exact .bad
theorem Lh{a b:MX}(X:yo K P Q C):w6 K (zj P Q a b) (λq=>dS P C q (.raise a b)):=by
 intro q
 exact λH hr=>.gd id λZ=>(X.LE a H hr).bind λTZ v v' τ T0 x H hv=>(X.LE b H (hr.mono x.sub)).bind λU4 w w' υ Vf y H hw=>.gd (λc=>by
  have c:=b2 c;refine bj.mpr ⟨?_,?_⟩
  .cases v<;>first | exact mP c.1 | (rw[<-ae hv];rfl)
  .cases w<;>first | exact mP c.2 | (rw[<-ae hw];rfl)) λZ=>.exc H ((hr.mono x.sub).mono y.sub)
theorem Ov{b f:MS}(T7:w6 K S0 (λq=>dS P C q b))(T4:w6 K S1 (λq=>dS P C q f)):w6 K (CH b f S0 S1) (λq=>dS P C q (.tryf b f)):=by
 intro q
 exact λH hr=>.gd id λZ=>(T7 H hr).fin (λTZ p p' τ T0 x H hp=>Cg (T4 H hp.1) λ{U4 _ _ _ _} y H hr=>.ok H ⟨hr,by
  obtain ⟨fl,ρ⟩:=p;have h2:=hp.2
  cases fl with
  |next=>exact h2
  |ret v=>exact h2.elim λv' h=>⟨v',h.1,nZ y.sub h.2⟩⟩) λTZ p p' τ T0 x H hp=>Cg (T4 H hp) λy H hr=>.exc H hr
theorem Ow{b h:MS}(T7:w6 K S0 (λq=>dS P C q b))(T4:w6 K S1 (λq=>dS P C q h)):w6 K (CI b h S0 S1) (λq=>dS P C q (.tryx b h)):=by
 intro q;exact λH hr=>.gd id λZ=>(T7 H hr).fin (λTZ p p' τ T0 x H hp=>.ok H hp) λTZ p p' τ T0 x H hp=>(T4 H hp).fin (λZ Z Z Z Z Z H hp=>.ok H hp) λZ Z Z Z Z Z Z Z=>.bad
theorem Ot: w6 K (CF) (λq=>dS P C q (.hole)):=by
 intro q;exact λZ Z=>.bad
end
theorem DI{Q:Bool->we}{C:Bool->Call}(hG:∀k,pZ (P.const k)=true)(hC:∀{q f args Ud ι σ σ'},nR K ι σ σ'->Vs ι args Ud->Sm K ι σ' uI UU (Q q f args σ) (C q f Ud σ')):∀(b:MS),w6 K (λq=>RQ P Q q b) (λq=>dS P C q b):=by
 intro b;have X:yo K P Q C:=λ{q} e=>Lk (Q:=Q q) (C:=C q) hG (λH hv=>hC H hv) e
 induction b with
 |skip=>exact Ou
 |seq a b T7 T4=>exact Q7 T7 T4
 |expr e=>exact Oq X
 |asg t e=>exact Q3 X
 |ret e=>exact Q6 X
 |iff c a b T7 T4=>exact Q5 X T7 T4
 |whl c b ih=>exact Q8 X ih
 | «for» t it b ih=>exact Q4 X ih
 |raise a b=>exact Lh X
 |tryf b f T7 T4=>exact Ov T7 T4
 |tryx b h T7 T4=>exact Ow T7 T4
 |hole=>exact Ot
theorem Gy{m:N mQ (Fl×mQ)}{r:R mQ (Fl×mQ)}(h:Sm K ι σ' Ko n7 m r):Sm K ι σ' uI UU (IL m) (ended r):=λk x c=>by
 refine WR.ended ((h _ _ c).mono (λp' T0 h=>?_) λZ T0 h=>?_)
 rotate_left
 .refine mZ h λTZ Z τ x1 H hp c=>?_;exact⟨TZ,(),τ,x1,H,trivial,c⟩
 refine mZ h λTZ p τ x1 H hp c=>?_;obtain ⟨fl,ρ⟩:=p;obtain ⟨Vl,ρ'⟩:=p'
 cases fl with
 |next=>
  have e:Vl=.next:=hp.2;rw[e];exact⟨TZ,.none,τ,x1,H,rfl,c⟩
 |ret v=>
  refine mO hp.2 λv' e hv=>?_;have e:Vl=.ret v':=e;rw[e];exact⟨TZ,v,τ,x1,H,hv,c⟩
def w2(K:Ctx)(P:Pg)(O:PN)(D:Nat):Prop:=∀{q f args σ m},O q f args σ=some m->∀{d ι σ' Ud},D<=d->nR K ι σ σ'->Vs ι args Ud->Sm K ι σ' uI UU m (oP P d q f Ud σ')
theorem vc{O:PN}(hG:∀k,pZ (P.const k)=true)(hO:w2 K P O D)(n:Nat):∀{d:Nat},D+n<=d->∀{q f args Ud ι σ σ'},nR K ι σ σ'->Vs ι args Ud->Sm K ι σ' uI UU (q9 P O n q f args σ) (oP P d q f Ud σ'):=by
 induction n with
 |zero=>intros;exact .bad
 |succ n ih=>
  intro d hd q f args Ud ι σ σ' H hv;show Sm K ι σ' uI UU (match O q f args σ with | some m=>m | none=>_) _
  cases e:O q f args σ with
  |some m=>exact hO e (az (aN _ _) hd) H hv
  |none=>
   cases d with
   |zero=>exact absurd hd (eh _)
   |succ d=>
    exact .opt .refl λF F' e=>by
     subst e;exact .gd (λc=>by rw[nQ hv];exact c) λZ=>Gy (DI (Q:=q9 P O n) (C:=oP P d) (q:=q) hG (λH hv=>ih (d:=d) (dw hd) H hv) F.body H (H4 hv))
end
noncomputable def same(ps:List Nat)(a:V):V->Bool:=V.rec (motive_1:=λZ=>V->Bool) (motive_2:=λZ=>List V->Bool) (motive_3:=λZ=>List (Nat×V)->Bool) (motive_4:=λZ=>Nat×V->Bool)
 (λb=>(pJ b).isSome)
 (λt b=>match b with
  |.bool s=>t==s
  |_=>false)
 (λt b=>match b with
  |.int s=>decide (t=s)
  |_=>false)
 (λt b=>match b with
  |.sym s=>t==s
  |_=>false)
 (λZ Z=>false)
 (λZ f b=>match b with
  |.tup r=>f r
  |_=>false)
 (λZ f b=>match b with
  |.lst r=>f r
  |_=>false)
 (λZ f b=>match b with
  |.dct r=>f r
  |_=>false)
 (λa b=>match b with
  |.obj m=>decide (ps[a]?=some m)
  |_=>false)
 (λr=>match r with
  |[]=>true
  |_=>false)
 (λZ Z f g r=>match r with
  |w::r=>f w&&g r
  |_=>false)
 (λr=>match r with
  |[]=>true
  |_=>false)
 (λZ Z f g r=>match r with
  |w::r=>f w&&g r
  |_=>false)
 (λi Z f p=>i==p.1&&f p.2) a
noncomputable abbrev x9(ps:List Nat)(l r:List V):Bool:=same ps (.tup l) (.tup r)
noncomputable abbrev FB(ps:List Nat)(l r:List (Nat×V)):Bool:=same ps (.dct l) (.dct r)
section
mutual
theorem rq(hp:∀i n:Nat,ps[i]?=some n->κ[i]?=ι[n]?):∀{a b:V},same ps a b=true->sb κ a=sb ι b
 |.none,b,h=>by
  refine m4 (aV.mp (show (pJ b).isSome=true from h)) λZ e=>?_;rw[rF e];rfl
 |.bool t,b,h=>by
  cases b with
  |bool s=>rw[eq_of_beq (show (t==s)=true from h)];rfl
  |_=>exact mP h
 |.int t,b,h=>by
  cases b with
  |int s=>rw[of_decide_eq_true (show decide (t=s)=true from h)];rfl
  |_=>exact mP h
 |.sym t,b,h=>by
  cases b with
  |sym s=>rw[eq_of_beq (show (t==s)=true from h)];rfl
  |_=>exact mP h
 |.tup l,b,h=>by
  cases b with
  |tup r=>exact congrArg (cj V.tup) (vq hp (show x9 ps l r=true from h))
  |_=>exact mP h
 |.lst l,b,h=>by
  cases b with
  |lst r=>exact congrArg (cj V.lst) (vq hp (show x9 ps l r=true from h))
  |_=>exact mP h
 |.dct l,b,h=>by
  cases b with
  |dct r=>exact congrArg (cj V.dct) (x8 hp (show FB ps l r=true from h))
  |_=>exact mP h
 |.obj a,b,h=>by
  cases b with
  |obj m=>exact hp a m (of_decide_eq_true (show decide (ps[a]?=some m)=true from h))
  |_=>exact mP h
 |.txt _,b,h=>mP h
theorem vq(hp:∀i n:Nat,ps[i]?=some n->κ[i]?=ι[n]?):∀{a b:List V},x9 ps a b=true->oA κ a=oA ι b
 |[],b,h=>by
  cases b with
  |nil=>rfl
  |cons _ _=>exact mP h
 |v::l,b,h=>by
  cases b with
  |nil=>exact mP h
  |cons w r=>
   have h:=b2 (show (same ps v w&&x9 ps l r)=true from h);show (sb κ v).bind _=(sb ι w).bind _;rw[rq hp h.1];refine congrArg (mF (sb ι w)) (funext λv'=>congrArg (cj (v'::·)) (vq hp h.2))
theorem x8(hp:∀i n:Nat,ps[i]?=some n->κ[i]?=ι[n]?):∀{a b:List (Nat×V)},FB ps a b=true->te κ a=te ι b
 |[],b,h=>by
  cases b with
  |nil=>rfl
  |cons _ _=>exact mP h
 |(i,v)::l,b,h=>by
  cases b with
  |nil=>exact mP h
  |cons w r=>
   obtain ⟨j,w⟩:=w;have h:=b2 (show ((i==j&&same ps v w)&&FB ps l r)=true from h);have h1:=b2 h.1;show (sb κ v).bind _=(sb ι w).bind _;rw[rq hp h1.2,eq_of_beq h1.1];refine congrArg (mF (sb ι w)) (funext λv'=>congrArg (cj ((j,v')::·)) (x8 hp h.2))
end
end
noncomputable def FA(ps:List Nat):O->O->Bool
 |.list l,o=>match o with
  |.list r=>x9 ps l r
  |_=>false
 |.dict l,o=>match o with
  |.dict r=>FB ps l r
  |_=>false
 |.inst c d,o=>match o with
  |.inst c' d'=>c==c'&&(if c < 900 then decide (ps[d]?=some d') else c==997)
  |_=>false
theorem CA{K K':Ctx}(hp:∀i n:Nat,ps[i]?=some n->κ[i]?=ι[n]?){f o:O}{v:V}{w:Option O}(h:FA ps f o=true):oz K' κ f v w↔oz K ι o v w:=by
 cases f with
 |list l=>cases o with
  |list r=>
   show (∃l',_/\oA κ l=_)↔(∃l',_/\oA ι r=_);rw[vq hp h]
  |_=>exact mP h
 |dict l=>cases o with
  |dict r=>
   show (∃l',_/\te κ l=_)↔(∃l',_/\te ι r=_);rw[x8 hp h]
  |_=>exact mP h
 |inst c d=>cases o with
  |inst c' d'=>
   have h:=b2 h;rw[<-eq_of_beq h.1];have h:=h.2;unfold oz;dsimp only
   split at h
   .rename_i hc;rw[if_pos hc,if_pos hc,hp d d' (of_decide_eq_true h)]
   .rename_i hc;rw[if_neg hc,if_neg hc,eq_of_beq h];unfold Sp;rw[if_neg (by decide),if_pos rfl,if_neg (by decide),if_pos rfl]
  |_=>exact mP h
noncomputable def zN(qs:List Nat)(σ:St):List Nat->St->Bool
 |[],F=>match F with
  |[]=>true
  |_=>false
 |n::ps,F=>match F with
  |o::F=>(match σ[n]? with
   |some o'=>FA qs o o'
   |none=>false)&&zN qs σ ps F
  |_=>false
noncomputable def uU(ps:List Nat)(F σ:St):Bool:=zN ps σ ps F
theorem t6{qs:List Nat}{σ:St}:∀{ps:List Nat} {F:St},zN qs σ ps F=true->F.length=ps.length/\∀i n:Nat,ps[i]?=some n->∃f o,F[i]?=some f/\σ[n]?=some o/\FA qs f o=true
 |[],F,h=>by
  cases F with
  |nil=>exact⟨rfl,λi n e=>mV e⟩
  |cons _ _=>exact mP h
 |n::ps,F,h=>by
  cases F with
  |nil=>exact mP h
  |cons f F=>
   have h:=b2 (show ((match σ[n]? with
    |some o'=>FA qs f o'
    |none=>false)&&zN qs σ ps F)=true from h)
   refine nE (t6 h.2) λh1 h2=>?_;refine⟨congrArg (·+1) h1,λi m e=>?_⟩
   cases i with
   |zero=>
    have e:=ae e;subst e
    cases e1:σ[n]? with
    |none=>rw[e1] at h;exact mP h.1
    |some o=>rw[e1] at h;exact⟨f,o,rfl,rfl,h.1⟩
   |succ i=>exact h2 i m e
def mX(v:V):Prop:=nM 30 v=true/\∃l,v=.tup l
noncomputable def KB(base:List V):Ctx:=⟨λZ=>mX,λZ Z h=>h,0,base⟩
noncomputable def pk(ps:List Nat)(ι:List V):List V:=ps.map λn=>(ι[n]?).getD .none
section
variable {K:Ctx}{F:St}
theorem vn(h:∀n∈ps,n < ι.length)(i n:Nat)(e:ps[i]?=some n):(pk ps ι)[i]?=ι[n]?:=by
 unfold pk;rw[br,e];show some ((ι[n]?).getD .none)=_;rw[au (h n (aF e))];rfl
theorem Az(h:∀n∈ps,n < ι.length){i:Nat}{v:V}(e:(pk ps ι)[i]?=some v):∃n,ps[i]?=some n/\ι[n]?=some v:=by
 have e':=e;unfold pk at e';rw[br] at e';refine mO (ms e') λn e1 Z=>?_;exact⟨n,e1,by rw[<-vn h i n e1];exact e⟩
theorem uV(H:nR K ι σ σ')(h:uU ps F σ=true):∀n∈ps,n < ι.length:=λn hn=>by
 refine m4 (cE hn) λi e=>?_;refine mU ((t6 h).2 i n e) λf o Z e1 Z=>?_;rw[H.len];exact (aq.mp e1).1
theorem nR.pick(H:nR K ι σ σ')(hn:ps.Nodup)(h:uU ps F σ=true):nR (KB (pk ps ι)) (pk ps ι) F σ':=by
 have hi:=uV H h;refine nE (t6 h) λhl hf=>?_;refine⟨⟨[],(ba _).symm⟩,by rw[hl];exact aU _,λi j m ei ej=>?_,λi f e=>?_⟩
 .refine mO (Az hi ei) λa e1 e2=>?_;refine mO (Az hi ej) λb e3 e4=>?_;have:=H.inj a b m e2 e4;subst this;have l1:=(aq.mp e1);have l2:=(aq.mp e3);exact (kq hn).mp (l1.2.trans l2.2.symm)
 .have ZY:i < ps.length:=by rw[<-hl];exact (aq.mp e).1
  have ep:=au ZY;refine mU (hf i _ ep) λf' o e1 e2 e3=>?_;rw[e] at e1
  cases e1
  refine mO (H.slot _ o e2) λv e4 h4=>?_;exact⟨v,(vn hi i _ ep).trans e4,(CA (vn hi) e3).mpr h4⟩
theorem nR.again(H:nR K ι σ σ')(h:uU ps F σ=true)(G:nR (KB (pk ps ι)) (pk ps ι) F T0)(E:ti (pk ps ι) σ' (pk ps ι) T0):nR K ι σ T0/\ti ι σ' ι T0:=by
 have hi:=uV H h;refine nE (t6 h) λhl hf=>?_;refine⟨⟨H.base,H.len,H.inj,λn o e=>?_⟩,⟨⟨[],(ba _).symm,λZ h=>nomatch h⟩,E.len,λm hm hn=>E.fr m hm λhh=>?_⟩⟩
 .refine mO (H.slot n o e) λv e1 h1=>?_;refine⟨v,e1,?_⟩
  by_cases hn:n∈ps
  .refine m4 (cE hn) λi ei=>?_;refine mU (hf i n ei) λf o' e2 e3 e4=>?_;rw[e] at e3
   cases e3
   refine mO (G.slot i f e2) λv' e5 h5=>?_;rw[vn hi i n ei,e1] at e5
   cases e5
   exact (CA (vn hi) e4).mp h5
  .have:um T0 v=um σ' v:=by
    rcases h1.is with ⟨l,e2⟩ | ⟨m,o',e2,e3⟩
    .rw[e2];rfl
    .rw[e2];refine E.fr m (aq.mp e3).1 λhh=>?_;refine m4 (cE hh) λi ei=>?_;refine mO (Az hi ei) λn' e4 e5=>?_;rw[e2] at e1;have:=H.inj n n' m e1 e5;subst this;exact hn (aF e4)
   rw[this];exact h1
 .refine m4 (cE hh) λi ei=>?_;refine mO (Az hi ei) λn' e4 e5=>?_;exact hn (aF e5)
end
noncomputable def weak(ak:Nat)(σ:St):St:=match σ[ak]? with
 |some (.dict [])=>σ.set ak (.inst 997 0)
 |_=>σ
set_option tactic.hygienic true in
theorem nR.weak{K:Ctx}{ak:Nat}(H:nR K ι σ σ'):nR K ι (Mine.Internal.weak ak σ) σ':=by
 unfold Mine.Internal.weak
 split
 .rename_i e;refine⟨H.base,by rw[bG];exact H.len,H.inj,λn o e1=>?_⟩
  by_cases hn:ak=n
  .subst hn;have hl:=(aq.mp e).1;rw[bh hl] at e1;refine Ah (H.slot _ _ e) λv e2 l' h3 h4=>?_;refine⟨v,e2,?_⟩;rw[<-ae e1];unfold oz;dsimp only;rw[if_neg (by decide)];unfold Sp;rw[if_neg (by decide),if_pos rfl];rw[show l'=[] from (ae h4).symm] at h3;exact⟨[],h3,jg,λp hp=>nomatch hp⟩
  .rw[bl hn] at e1;exact H.slot n o e1
 .exact H
noncomputable abbrev Kw:=Option V
def Tj(F:St)(ι:List V)(σ':St)(os:List Kw)(r:R Unit V):Prop:=WR r (λv T0=>some v∈os/\nR (KB ι) ι F T0/\ti ι σ' ι T0) λZ T0=>none∈os/\nR (KB ι) ι F T0/\ti ι σ' ι T0
set_option genCtorIdx false in
set_option genCtorIdx false in
inductive pH(α:Type)where
 |v (a:V)
 |o (x:α)
 |i
def M7(ι:List V):pH V->V->Prop
 |.v a,b=>sb ι a=some b
 |.o x,b=>x=b
 |.i,b=>∃n,b=.int n
noncomputable def yH(ι:List V):List (pH V)->List V->Prop
 |[],[]=>True
 |p::ps,b::l=>M7 ι p b/\yH ι ps l
 |_,_=>False
structure o3(F:St)(f:Nat)(as:List (pH V))(os:List Kw)(D:Nat):Prop where
 run:∀{d:Nat} {ι l:List V} {σ':St},D<=d->yH ι as l->nR (KB ι) ι F σ'->Tj F ι σ' os (oP L2.pg d false f l σ')
theorem o3.le{F:St}{f:Nat}{as:List (pH V)}{os:List Kw}{D':Nat}(h:o3 F f as os D)(k:D<=D'):o3 F f as os D':=⟨λhd=>h.run (az k hd)⟩
set_option genCtorIdx false in
set_option genCtorIdx false in
inductive Ar where
 |no
 |val (v:V)
 |at (j:Nat)
structure sv where
 ps:List Nat
 F:St
 ak:Nat
 f:Nat
 as:List (pH V)
 os:List Ar
noncomputable def Qy(qs ps:List Nat):pH V->V->Bool
 |.v a,b=>same ps a b
 |.o S,b=>same qs S b
 |.i,b=>match b with
  |.int _=>true
  |_=>false
noncomputable def NV(qs ps:List Nat):List (pH V)->List V->Bool
 |[],l=>match l with
  |[]=>true
  |_=>false
 |p::as,l=>match l with
  |b::l=>Qy qs ps p b&&NV qs ps as l
  |_=>false
noncomputable def sv.fits(qs:List Nat)(w:sv)(f:Nat)(args:List V)(σ:St):Bool:=w.f==f&&(NV qs w.ps w.as args&&uU w.ps w.F σ)
noncomputable def Ar.sm(n0:Nat):Ar->Kw
 |.no=>none
 |.val v=>some v
 |.at j=>some (.obj (n0+j))
noncomputable def Ar.real(ts:List V):Ar->Kw
 |.no=>none
 |.val v=>some v
 |.at j=>some ((ts[j]?).getD .none)
noncomputable def pH.real(ts:List V):pH V->pH V
 |.v a=>.v a
 |.o S=>.o ((sb ts S).getD .none)
 |.i=>.i
noncomputable def Su(n0:Nat)(os:List Ar)(σ:St):N Unit V:=λk x=>os.all λo=>match o.sm n0 with
 |some v=>k v σ
 |none=>x () σ
noncomputable def Aw(n0 m:Nat)(rows:List sv):PN:=λq f args σ=>if q then none else (rows.find? λw=>w.fits (dn n0 m) f args (weak w.ak σ)).map λw=>Su n0 w.os (weak w.ak σ)
noncomputable def Ar.wf(m:Nat):Ar->Bool
 |.no=>true
 |.val v=>pZ v
 |.at j=>decide (j < m)
noncomputable def sv.wf(m:Nat)(w:sv):Bool:=decide w.ps.Nodup&&w.os.all (Ar.wf m)
structure nU(ts:List V)(D:Nat)(w:sv):Prop where
 wf:w.wf ts.length=true
 con:o3 w.F w.f (w.as.map (pH.real ts)) (w.os.map (Ar.real ts)) D
section
variable {n0:Nat}
theorem xu(Vq:κ.length=n0)(VH:∃U8,ι=(κ++ts)++U8)(hj:j < ts.length):ι[n0+j]?=some ((ts[j]?).getD .none):=by
 refine m4 VH λU8 e=>?_;rw[e,ay (by rw[aL,Vq];exact jy hj n0),aE (by rw[Vq];exact aN n0 j),show n0+j - κ.length=j by rw[Vq];exact fi n0 j,au hj];rfl
theorem Jo(Vq:κ.length=n0)(VH:∃U8,ι=(κ++ts)++U8)(i n:Nat)(e:(dn n0 ts.length)[i]?=some n):ts[i]?=ι[n]?:=by
 have hi:=(aq.mp e).1;rw[jL] at hi;rw[jd hi] at e;have e:=ae e;rw[<-e,Nat.one_mul,xu Vq VH hi,au hi];rfl
theorem K0(Vq:κ.length=n0)(VH:∃U8,ι=(κ++ts)++U8)(hi:∀n∈ps,n < ι.length){p:pH V}{b b':V}(h:Qy (dn n0 ts.length) ps p b=true)(hb:sb ι b=some b'):M7 (pk ps ι) (p.real ts) b':=by
 cases p with
 |v a=>exact (rq (vn hi) h).trans hb
 |o S=>
  show (sb ts S).getD .none=b';rw[rq (Jo Vq VH) h,hb];rfl
 |i=>cases b with
  |int n=>exact⟨n,(ae hb).symm⟩
  |_=>exact mP h
theorem ES{ps:List Nat}(Vq:κ.length=n0)(VH:∃U8,ι=(κ++ts)++U8)(hi:∀n∈ps,n < ι.length):∀{as:List (pH V)} {l l':List V},NV (dn n0 ts.length) ps as l=true->oA ι l=some l'->yH (pk ps ι) (as.map (pH.real ts)) l'
 |[],l,l',h,hb=>by
  cases l with
  |nil=>rw[oa hb];exact trivial
  |cons _ _=>exact mP h
 |p::as,l,l',h,hb=>by
  cases l with
  |nil=>exact mP h
  |cons b l=>
   have h:=b2 h;refine mU (nW hb) λb' r e e1 e2=>?_;rw[e];exact⟨K0 Vq VH hi h.1 e1,ES Vq VH hi h.2 e2⟩
theorem LR(Vq:κ.length=n0)(VH:∃U8,ι=(κ++ts)++U8){o:Ar}{v:V}(hw:o.wf ts.length=true)(e:o.real ts=some v):∃u,o.sm n0=some u/\sb ι u=some v:=by
 cases o with
 |no=>exact mV e
 |val u=>exact⟨u,rfl,by rw[o7 hw];exact e⟩
 | «at» j=>exact⟨.obj (n0+j),rfl,(xu Vq VH (of_decide_eq_true hw)).trans e⟩
theorem LQ{o:Ar}(e:o.real ts=none):o.sm n0=none:=by
 cases o with
 |no=>rfl
 |val u=>exact mV e.symm
 | «at» j=>exact mV e.symm
theorem Ax{rows:List sv}{tree:∀n v,T n v->nM 30 v=true/\∃l,v=.tup l}{B:Nat}(Vq:κ.length=n0)(hr:∀w∈rows,nU ts D w):w2 ⟨T,tree,B,κ++ts⟩ L2.pg (Aw n0 ts.length rows) D:=by
 intro q f args σ m e d ι σ' Ud hd H hv;unfold Aw at e
 cases q with
 |true=>exact mV e
 |false=>
  refine mO (ms (show (rows.find? _).map _=_ from e)) λw e1 e2=>?_;have hw:=hr w (gX e1);have h:w.fits (dn n0 ts.length) f args (weak w.ak σ)=true:=lf (p:=λw:sv=>w.fits (dn n0 ts.length) f args (weak w.ak σ)) e1;have h:=b2 (show (w.f==f&&_)=true from h);have h1:=b2 h.2;have Y4:=b2 hw.wf;have H1:nR ⟨T,tree,B,κ++ts⟩ ι (weak w.ak σ) σ':=H.weak;have hi:=uV H1 h1.2;have hp:=ES Vq H.base hi h1.1 hv;have hc:=hw.con.run hd hp (H1.pick (of_decide_eq_true Y4.1) h1.2);rw[<-e2,<-eq_of_beq h.1];refine λk x c=>WR.mono hc (λv T0 zq=>sH zq λh2 h3 h4=>?_) λu T0 zq=>sH zq λh2 h3 h4=>?_
  .refine mO (bK.mp h2) λo h5 h6=>?_;refine mO (LR Vq H.base (aJ.mp Y4.2 o h5) h6) λu h7 h8=>?_;have hh:=H1.again h1.2 h3 h4;have:=aJ.mp c o h5;rw[h7] at this;exact⟨ι,u,_,hh.2,hh.1,h8,this⟩
  .refine mO (bK.mp h2) λo h5 h6=>?_;have hh:=H1.again h1.2 h3 h4;have:=aJ.mp c o h5;rw[LQ h6] at this;exact⟨ι,(),_,hh.2,hh.1,trivial,this⟩
end
variable {as:List (pH V)}{rows:List sv}{os:List Ar}
theorem KA{l:List α}{p:α->Bool}{x:α}(h:l.all p=true)(hx:p x=true)(k:Nat):p ((l[k]?).getD x)=true:=by
 cases e:l[k]? with
 |none=>exact hx
 |some a=>exact aJ.mp h a (aF e)
theorem sJ(k:Nat):pZ (L2.pg.const k)=true:=by
 have h:L2.consts.all pZ=true:=by kernel_rfl
 exact KA h rfl k
noncomputable def Ar.isB(n0:Nat)(v:V):Ar->Bool
 |.no=>false
 |.val a=>same [] a v
 |.at j=>match v with
  |.obj m=>m==n0+j
  |_=>false
noncomputable def Ar.isNo:Ar->Bool
 |.no=>true
 |_=>false
noncomputable def fin(F:St)(os:List Ar)(v:V)(σ:St):Bool:=uU (aM F.length) F σ&&os.any (Ar.isB F.length v)
noncomputable def Qx(F:St)(os:List Ar)(_:Unit)(σ:St):Bool:=uU (aM F.length) F σ&&os.any Ar.isNo
structure Known(cs:St)(ts:List V):Prop where
 len:cs.length=ts.length
 is:∀(j:Nat) (o:O),cs[j]?=some o->∃c d v,o=.inst c d/\xo c=true/\ts[j]?=some v/\mX v/\Hb c d v
section
theorem Known.nil:Known [] []:=⟨rfl,λj o e=>mV e⟩
theorem Known.cons{v:V}(h:Known cs ts)(hc:xo c=true)(hv:mX v)(hi:Hb c d v):Known (.inst c d::cs) (v::ts):=⟨congrArg (·+1) h.len,λj o e=>by
 cases j with
 |zero=>exact⟨c,d,v,(ae e).symm,hc,rfl,hv,hi⟩
 |succ j=>exact h.is j o e⟩
theorem Known.tup(h:Known cs ts){v:V}(hv:v∈ts):∃l,v=.tup l:=by
 refine m4 (cE hv) λj e=>?_
 have hj:j < cs.length:=by rw[h.len];exact (aq.mp e).1
 refine nk (h.is j _ (au hj)) λc d v' Z Z e2 e3 Z=>?_;rw[e] at e2
 cases e2
 exact e3.2
theorem nR.known{F:St}(h:Known cs ts)(H:nR (KB ι) ι F σ'):nR (KB (ι++ts)) (ι++ts) (F++cs) σ':=by
 have no:∀{i m:Nat},(ι++ts)[i]?=some (V.obj m)->ι[i]?=some (V.obj m):=λ{i m} e=>by
  rcases bE i ι.length with hi | hi
  .rw[ay hi] at e;exact e
  .rw[aE hi] at e;refine m4 (h.tup (aF e)) λl e1=>?_;exact nomatch e1
 refine⟨⟨[],(ba _).symm⟩,by rw[aL,aL,H.len,h.len],λi j m ei ej=>H.inj i j m (no ei) (no ej),λn o e=>?_⟩
 rcases bE n F.length with hn | hn
 .rw[ay hn] at e;refine mO (H.slot n o e) λv e1 h1=>?_;exact⟨v,by rw[ay (aq.mp e1).1];exact e1,oz.mono (K:=KB (ι++ts)) (show oz (KB (ι++ts)) ι o v _ from h1) ⟨_,rfl⟩⟩
 .rw[aE hn] at e;refine nk (h.is _ _ e) λc d v e1 e2 e3 e4 e5=>?_;refine⟨v,by rw[aE (by rw[H.len];exact hn),H.len];exact e3,?_⟩;rw[e1];unfold oz;dsimp only;rw[if_neg (gN.mpr (BD e2))];unfold Sp;rw[if_pos e2];exact⟨e4,e5⟩
end
theorem Jj:pk (aM ι.length) (ι++κ)=ι:=by
 refine fm λi=>?_;unfold pk;rw[br]
 rcases bE i ι.length with hi | hi
 .rw[gc hi,au hi];show some (((ι++κ)[i]?).getD .none)=_;rw[ay hi,au hi];rfl
 .rw[bx (by rw[d4];exact hi),bx hi];rfl
theorem nR.front_back{F τ:St}(h:Known cs ts)(hl:ι.length=F.length)(G:nR (KB (ι++ts)) TZ τ T0)(E:ti (ι++ts) σ' TZ T0)(hf:uU (aM F.length) F τ=true):nR (KB ι) ι F T0/\ti ι σ' ι T0:=by
 refine m4 E.sub λκ e=>?_;have g:=G.pick bC hf
 have hp:pk (aM F.length) TZ=ι:=by rw[e,<-hl,aP];exact Jj
 rw[hp] at g;refine⟨g,⟨[],(ba _).symm,λZ h=>nomatch h⟩,E.len,λm hm hn=>E.fr m hm λhh=>?_⟩
 rcases aG.mp hh with hh | hh
 .exact hn hh
 .refine m4 (h.tup hh) λl e1=>?_;exact nomatch e1
theorem Ik(VH:∃U8,TZ=(ι++ts)++U8){o:Ar}{a b:V}(hw:o.wf ts.length=true)(h:o.isB ι.length a=true)(hb:sb TZ a=some b):some b=o.real ts:=by
 cases o with
 |no=>exact mP h
 |val v=>
  have:sb TZ v=sb TZ a:=rq (ps:=[]) (κ:=TZ) (λi n e=>mV e) h;rw[o7 hw,hb] at this;exact this.symm
 | «at» j=>cases a with
  |obj m=>
   have hm:m=ι.length+j:=eq_of_beq h;subst hm;have:TZ[ι.length+j]?=some b:=hb;rw[xu rfl VH (of_decide_eq_true hw)] at this;exact this.symm
  |_=>exact mP h
theorem NE{F:St}{f:Nat}{n:Nat}(hk:Known cs ts)(hr:∀w∈rows,nU ts D w)(Vk:os.all (Ar.wf ts.length)=true)(hrun:∀{ι l:List V},ι.length=F.length->yH ι as l->∃xs,oA (ι++ts) xs=some l/\q9 L2.pg (Aw F.length ts.length rows) n false f xs (F++cs) (fin F os) (Qx F os)=true):o3 F f as (os.map (Ar.real ts)) (D+n):=⟨λ{d ι l σ'} hd hp H=>by
 refine mO (hrun H.len hp) λxs hx hc=>?_;have ho:w2 (KB (ι++ts)) L2.pg (Aw F.length ts.length rows) D:=Ax H.len hr;refine WR.mono (vc sJ ho n hd (H.known hk) hx _ _ hc) (λb T0 zq=>mZ zq λTZ a τ E G hv hb=>?_) λZ T0 zq=>mZ zq λTZ a τ E G Z hb=>?_
 .have hb:=b2 hb;refine mO (bU.mp hb.2) λo ho h1=>?_;have h2:=Ik E.sub (aJ.mp Vk o ho) (by rw[H.len];exact h1) hv;exact⟨by rw[h2];exact eP ho,nR.front_back hk H.len G E hb.1⟩
 .have hb:=b2 hb;refine mO (bU.mp hb.2) λo ho h1=>?_
  have h2:none=o.real ts:=by
   cases o with
   |no=>rfl
   |_=>exact mP h1
  exact⟨by rw[h2];exact eP ho,nR.front_back hk H.len G E hb.1⟩⟩
section
open L2
mutual
noncomputable def SQ(k:Nat):V->V
 |.obj n=>.obj (k+n)
 |.tup l=>.tup (PC k l)
 |.lst l=>.lst (PC k l)
 |.dct _=>.obj 0
 |v=>v
noncomputable def PC(k:Nat):List V->List V
 |[]=>[]
 |v::l=>SQ k v::PC k l
end
mutual
noncomputable def okS(m:Nat):V->Bool
 |.dct _=>false
 |.obj n=>decide (n < m)
 |.tup l=>Ai m l
 |.lst l=>Ai m l
 |_=>true
noncomputable def Ai(m:Nat):List V->Bool
 |[]=>true
 |v::l=>okS m v&&Ai m l
end
mutual
theorem JF{ι ts:List V}:∀{S:V},okS ts.length S=true->sb (ι++ts) (SQ ι.length S)=some ((sb ts S).getD .none)
 |.none,_=>rfl
 |.bool _,_=>rfl
 |.int _,_=>rfl
 |.sym _,_=>rfl
 |.txt _,_=>rfl
 |.obj n,h=>by
  have h:=of_decide_eq_true (show decide (n < ts.length)=true from h);show (ι++ts)[ι.length+n]?=some ((ts[n]?).getD .none);rw[aE (aN _ _),fi,au h];rfl
 |.tup l,h=>by
  refine mO (ya (ι:=ι) (S:=l) h) λl' e1 e2=>?_;show (oA (ι++ts) (PC ι.length l)).map V.tup=some (((oA ts l).map V.tup).getD .none);rw[e1,e2];rfl
 |.lst l,h=>by
  refine mO (ya (ι:=ι) (S:=l) h) λl' e1 e2=>?_;show (oA (ι++ts) (PC ι.length l)).map V.lst=some (((oA ts l).map V.lst).getD .none);rw[e1,e2];rfl
 |.dct l,h=>mP h
theorem ya{ι ts:List V}:∀{S:List V},Ai ts.length S=true->∃l,oA (ι++ts) (PC ι.length S)=some l/\oA ts S=some l
 |[],_=>⟨[],rfl,rfl⟩
 |v::l,h=>by
  have h:=b2 h;refine mO (ya (ι:=ι) h.2) λl' e1 e2=>?_;have h1:=JF (ι:=ι) h.1;have h0:=JF (ι:=[]) (ts:=ts) (S:=v) h.1
  have h2:sb ts v=some ((sb ts v).getD .none):=by
   cases e:sb ts v with
   |some w=>rfl
   |none=>
    exfalso
    rw[LJ h.1] at e;exact mV e.symm
  exact⟨_,m6 h1 e1,m6 h2 e2⟩
theorem LJ{ts:List V}:∀{S:V},okS ts.length S=true->sb ts S=some ((sb ts S).getD .none)
 |.none,_=>rfl
 |.bool _,_=>rfl
 |.int _,_=>rfl
 |.sym _,_=>rfl
 |.txt _,_=>rfl
 |.obj n,h=>by
  have h:=of_decide_eq_true (show decide (n < ts.length)=true from h);show ts[n]?=some ((ts[n]?).getD .none);rw[au h];rfl
 |.tup l,h=>by
  refine mO (ya (ι:=[]) (S:=l) h) λl' e1 e2=>?_;show (oA ts l).map V.tup=some (((oA ts l).map V.tup).getD .none);rw[e2];rfl
 |.lst l,h=>by
  refine mO (ya (ι:=[]) (S:=l) h) λl' e1 e2=>?_;show (oA ts l).map V.lst=some (((oA ts l).map V.lst).getD .none);rw[e2];rfl
 |.dct l,h=>mP h
end
noncomputable def pH.okS(m:Nat):pH V->Bool
 |.o S=>Mine.Internal.okS m S
 |_=>true
noncomputable def Ro(n0:Nat)(g:Nat->Int):List (pH V)->Nat->List V
 |[],_=>[]
 |.v a::as,i=>a::Ro n0 g as (i+1)
 |.o S::as,i=>SQ n0 S::Ro n0 g as (i+1)
 |.i::as,i=>.int (g i)::Ro n0 g as (i+1)
theorem AK{ι ts:List V}:∀{as:List (pH V)} {l:List V} (i:Nat),as.all (pH.okS ts.length)=true->yH ι (as.map (pH.real ts)) l->∀g0:Nat->Int,∃g:Nat->Int,(∀j,j < i->g j=g0 j)/\oA (ι++ts) (Ro ι.length g as i)=some l
 |[],l,i,ha,hp,g0=>by
  cases l with
  |nil=>exact⟨g0,λZ Z=>rfl,rfl⟩
  |cons _ _=>exact hp.elim
 |p::as,l,i,ha,hp,g0=>by
  cases l with
  |nil=>exact hp.elim
  |cons b l=>
   have ha:=b2 ha;have hp:M7 ι (p.real ts) b/\yH ι (as.map (pH.real ts)) l:=hp
   cases p with
   |v a=>
    refine mO (AK (i+1) ha.2 hp.2 g0) λg h1 h2=>?_;exact⟨g,λj hj=>h1 j (ci hj),m6 (nZ ⟨_,rfl⟩ hp.1) h2⟩
   |o S=>
    refine mO (AK (i+1) ha.2 hp.2 g0) λg h1 h2=>?_;refine⟨g,λj hj=>h1 j (ci hj),m6 ?_ h2⟩;rw[JF ha.1];exact congrArg some hp.1
   |i=>
    refine m4 hp.1 λn hn=>?_;refine mO (AK (i+1) ha.2 hp.2 λj=>if j=i then n else g0 j) λg h1 h2=>?_;refine⟨g,λj hj=>?_,m6 ?_ h2⟩
    .rw[h1 j (ci hj),if_neg (aS hj)]
    .show some (V.int (g i))=some b;rw[h1 i (aR i),if_pos rfl,hn]
noncomputable def run(F:St)(f n:Nat)(as:List (pH V))(cs:St)(rows:List sv)(os:List Ar)(g:Nat->Int):Bool:=q9 pg (Aw F.length cs.length rows) n false f (Ro F.length g as 0) (F++cs) (fin F os) (Qx F os)
theorem o3.sub{F:St}{f:Nat}{os XU:List Kw}(h:o3 F f as os D)(k:∀o∈os,o∈XU):o3 F f as XU D:=⟨λhd hp H=>WR.mono (h.run hd hp H) (λv T0 h=>⟨k _ h.1,h.2⟩) λv T0 h=>⟨k _ h.1,h.2⟩⟩
theorem con{F:St}{f n:Nat}(hk:Known cs ts)(hr:∀w∈rows,nU ts D w)(Vk:os.all (Ar.wf cs.length)=true)(ha:as.all (pH.okS cs.length)=true)(hrun:∀g,run F f n as cs rows os g=true):o3 F f (as.map (pH.real ts)) (os.map (Ar.real ts)) (D+n):=by
 rw[hk.len] at Vk ha;refine NE hk hr Vk λhl hp=>?_;refine mO (AK 0 ha hp λZ=>0) λg Z h=>?_;have hc:=hrun g;unfold run at hc;rw[hk.len] at hc;rw[hl] at h;exact⟨_,h,hc⟩
theorem nt:∀w∈([]:List sv),nU ts D w:=λZ h=>nomatch h
theorem mY{w:sv}{l:List sv}(h:nU ts D w)(k:∀w∈l,nU ts D w):∀w'∈w::l,nU ts D w':=λw' hw=>by
 rcases aA.mp hw with e | e
 .rw[e];exact h
 .exact k w' e
noncomputable def uJ(b:Nat)(v:Bool)(d:Int):V:=.tup [.sym b,.bool v,.int d]
noncomputable def R5(c:Nat):List (Nat×V):=[(90,uJ 103 false 0),(192,uJ 103 (c != 2) 0),(40,uJ 42 false 0),(195,uJ 42 (c != 2) 0),(160,uJ 163 false 0),(20,uJ 103 false 1),(184,uJ 103 true 1),(155,uJ 103 false 2),(188,uJ 42 true 2),(175,uJ 170 false 0),(178,uJ 170 false 1)]
noncomputable def Tm:List (Nat×V):=[(20,uJ 103 false 1),(40,uJ 42 false 0),(90,uJ 103 false 0),(155,uJ 103 false 2),(160,uJ 163 false 0),(175,uJ 170 false 0),(178,uJ 170 false 1),(184,uJ 103 true 1),(188,uJ 42 true 2),(192,uJ 103 true 0),(195,uJ 42 true 0)]
noncomputable def My:List (Nat×V):=[(192,uJ 103 false 0),(195,uJ 42 false 0)]
noncomputable def FM(c:Nat):St:=[.dict [(129,.obj 3),(149,.obj 7),(34,.obj 8),(37,.obj 9),(107,.bool (c==0)),(45,.obj 10)],.inst 1 0,.dict [(162,.obj 5),(32,.obj 6)],.inst 0 2,.dict Tm,.list (if c==2 then [.obj 4,.obj 11] else [.obj 4]),.inst 997 0,.dict [],.dict [],.dict [],.dict []]++if c==2 then [.dict My] else []
noncomputable def FL(c:Nat):St:=if c==0 then [] else [.dict (R5 c)]
noncomputable def RL(c:Nat):List (pH V):=if c==0 then [.v (.dct (R5 0)),.v (.bool true)] else [.v (.obj 0),.v (.bool false)]
noncomputable def KS:List Kd:=([Bs.int,.bool].flatMap λb=>[true,false].flatMap λv=>[Dm.d0,.d1,.d2].map λd=>⟨b,v,d⟩)++([Bs.str,.set].flatMap λb=>[Dm.d0,.d1,.d2].map λd=>⟨b,false,d⟩)++[⟨.none,false,.d1⟩,⟨.none,false,.d2⟩]
noncomputable def KO:List (Option Kd):=none::KS.map some
noncomputable def rU:Option Kd->Ar
 |some k=>.val k.val
 |none=>.no
noncomputable def qF(o:Option Kd):Ar:=.val (ov o)
noncomputable def qk(o:Option Kd):Kw:=o.map Kd.val
noncomputable def rX(o:Option Kd):Kw:=some (ov o)
theorem uL:(rU o).real ts=qk o:=by cases o<;>rfl
noncomputable def o9(c j:Nat)(os:List Ar):sv:=⟨aM (FM c).length,FM c,6,11,[.v (.obj 1),.o (.obj j)],os⟩
noncomputable def pY(c j:Nat)(os:List Ar):sv:=⟨aM (FL c).length,FL c,1000,49,.o (.obj j)::RL c,os⟩
noncomputable def GO(c f:Nat)(as:List (pH V))(os:List Ar):sv:=⟨aM (FM c).length,FM c,6,f,as,os⟩
noncomputable def pq(f:Nat)(as:List (pH V))(os:List Ar):sv:=⟨[],[],1000,f,as,os⟩
theorem yK{F:St}{f n:Nat}(hk:Known cs ts)(hr:∀w∈rows,nU ts D w)(ha:as.all (pH.okS cs.length)=true)(hrun:∀g,run F f n as cs rows [rU o] g=true):o3 F f (as.map (pH.real ts)) [qk o] (D+n):=by
 have:=con hk hr (os:=[rU o]) (by cases o<;>rfl) ha hrun;rw[show [rU o].map (Ar.real ts)=[qk o] from congrArg (λa=>[a]) uL] at this;exact this
theorem HL{F:St}{f n:Nat}(hk:Known cs ts)(hr:∀w∈rows,nU ts D w)(ha:as.all (pH.okS cs.length)=true)(hrun:∀g,run F f n as cs rows [qF o] g=true):o3 F f (as.map (pH.real ts)) [rX o] (D+n):=
 con hk hr (os:=[qF o]) (by cases o<;>rfl) ha hrun
theorem sq{w:sv}{o:Kw}(hw:w.wf ts.length=true)(h:o3 w.F w.f (w.as.map (pH.real ts)) [o] D)(ho:o∈w.os.map (Ar.real ts)):nU ts D w:=⟨hw,h.sub λx hx=>by rw[am.mp hx];exact ho⟩
theorem Fz{ak f:Nat}{F:St}(hw:decide ps.Nodup=true)(h:o3 F f (as.map (pH.real ts)) [qk o] D):nU ts D ⟨ps,F,ak,f,as,[rU o]⟩:=by
 refine sq ?_ h (by rw[<-uL (ts:=ts)];exact ah);show (decide ps.Nodup&&[rU o].all (Ar.wf ts.length))=true
 rw[hw];cases o<;>rfl
theorem Jx{ak f:Nat}{F:St}(hw:decide ps.Nodup=true)(h:o3 F f (as.map (pH.real ts)) [rX o] D):nU ts D ⟨ps,F,ak,f,as,[qF o]⟩:=by
 refine sq ?_ h ah;show (decide ps.Nodup&&[qF o].all (Ar.wf ts.length))=true
 rw[hw];cases o<;>rfl
def n6(c:Nat)(t:V)(o:Option Kd)(D:Nat):Prop:=o3 (FM c) 11 [.v (.obj 1),.o t] [qk o] D
def om(c:Nat)(t:V)(o:Option Kd)(D:Nat):Prop:=o3 (FL c) 49 (.o t::RL c) [rX o] D
theorem pT(k:Kd):mX k.val:=by
 obtain ⟨b,v,d⟩:=k;exact⟨rfl,_,rfl⟩
end
section
open L2
noncomputable def Ii:Kd:=⟨.int,false,.d0⟩
noncomputable def Mv:Kd:=⟨.bool,false,.d0⟩
noncomputable def JH:Kd:=⟨.set,false,.d0⟩
noncomputable def r6:Kd:=⟨.none,false,.d0⟩
noncomputable def txt(d:Dm):Kd:=⟨.str,false,d⟩
noncomputable def nY(x y:Option Kd):Option Kd:=(ou x y).bind λk=>if k.d.beq .d1||(k.d.beq .d0&&k.b.beq .str) then some k else none
noncomputable def TS(x:Option Kd):Option Kd:=(ou x (some Ii)).bind λk=>if k.d.beq .d0 then some ⟨.bool,k.v,.d0⟩ else none
noncomputable def q8(k:Kd)(b:Bs)(d:Dm):Bool:=((k.b.beq b||k.b.beq .none)&&!k.v)&&k.d.beq d
noncomputable def R6(x:Option Kd):Option Kd:=x.bind λk=>if k.d.beq .d0 then none else some ⟨k.b,k.v,.d1⟩
noncomputable def rS(s x:Option Kd):Option Kd:=s.bind λs=>x.bind λk=>if q8 s .set .d0&&!k.d.beq .d0 then some ⟨k.b,k.v,.d1⟩ else none
noncomputable def MO(sh:Bool)(x:Option Kd):Option Kd:=x.bind λk=>if sh||!k.v then some (txt .d0) else none
noncomputable def O5(x:Option Kd):Option Kd:=x.bind λk=>if q8 k .str .d1 then some (txt .d0) else none
noncomputable def KN:List Kd:=r6::KS
noncomputable def pt:List Bool:=[true,false]
theorem m7(b:Bool):b∈pt:=by cases b<;>simp [pt]
theorem wD{l:List α}{p:α->Bool}(h:l.all p=true){x:α}(hx:x∈l):p x=true:=aJ.mp h x hx
theorem tm{l:List α}{m:List β}{p:α->β->Bool}(h:(l.all λx=>m.all λy=>p x y)=true){x:α}{y:β}(hx:x∈l)(hy:y∈m):p x y=true:=wD (wD h hx) hy
theorem vG{l:List α}{m:List β}{n:List γ}{p:α->β->γ->Bool}(h:(l.all λx=>m.all λy=>n.all λz=>p x y z)=true){x:α}{y:β}{z:γ}(hx:x∈l)(hy:y∈m)(hz:z∈n):p x y z=true:=tm (wD h hx) hy hz
noncomputable def w5:List Nat:=[4,26,91,76]
theorem Bp{x y:Kd}(hx:x∈KN)(hy:y∈KN){w:Nat}(hw:w∈w5):o3 [] 3 [.o x.val,.o y.val,.i,.v (.sym w)] [qk (cm x y)] 20:=by
 have h:∀g,(KN.all λx=>KN.all λy=>w5.all λw=>run [] 3 8 [.o x.val,.o y.val,.i,.v (.sym w)] [] [] [rU (cm x y)] g)=true:=λg=>by kernel_rfl
 have:=con (D:=12) (ts:=[]) (rows:=[]) (os:=[rU (cm x y)]) (as:=[.o x.val,.o y.val,.i,.v (.sym w)]) .nil nt (by cases cm x y<;>rfl) rfl λg=>vG (h g) hx hy hw;rw[show [rU (cm x y)].map (Ar.real [])=[qk (cm x y)] from congrArg (λa=>[a]) uL] at this;exact this
theorem MF{x y:Option Kd}(hx:x∈none::KN.map some)(hy:y∈none::KN.map some):o3 [] 44 [.o (ov x),.o (ov y)] [rX (ou x y)] 20:=by
 have h:∀g,((none::KN.map some).all λx=>(none::KN.map some).all λy=>run [] 44 8 [.o (ov x),.o (ov y)] [] [] [qF (ou x y)] g)=true:=λg=>by kernel_rfl
 have:=con (D:=12) (ts:=[]) (rows:=[]) (os:=[qF (ou x y)]) (as:=[.o (ov x),.o (ov y)]) .nil nt (by cases ou x y<;>rfl) (by cases x<;>cases y<;>rfl) λg=>tm (h g) hx hy
 cases x<;>cases y<;>exact this
end
section
open L2
noncomputable def Hi(l:List (Option Kd))(o:Option Kd):Bool:=l.any λo'=>Ci o' o
theorem qt{l:List (Option Kd)}(h:Hi l o=true):o∈l:=by
 refine mO (bU.mp h) λo' h1 h2=>?_;rw[<-sT h2];exact h1
theorem rQ{k:Kd}(h:k∈KS):k∈KN:=ao _ h
theorem oE{k:Kd}(h:some k∈KO):k∈KS:=by
 rcases aA.mp h with e | e
 .exact mV e.symm
 .refine mO (bK.mp e) λk' h1 h2=>?_;rw[<-ae h2];exact h1
theorem qu{k:Kd}(h:k∈KS):some k∈KO:=ao _ (eP h)
noncomputable def nz(o:Option Kd):Kd:=match o with
 |some k=>k
 |none=>JH
theorem qA(h:o∈KO):nz o∈KS:=by
 cases o with
 |none=>simp [nz,KS,JH]
 |some k=>exact oE h
theorem Nc{p:Option Kd->Option Kd->Bool}(h:(KO.all λx=>KO.all λy=>p x y)=true){x y:Option Kd}(hx:x∈KO)(hy:y∈KO):p x y=true:=tm h hx hy
theorem qG{x y:Option Kd}(hx:x∈KO)(hy:y∈KO):ou x y∈KO:=by
 have h:(KO.all λx=>KO.all λy=>Hi KO (ou x y))=true:=by kernel_rfl
 exact qt (Nc h hx hy)
theorem uN{x y:Option Kd}(hx:x∈KO)(hy:y∈KO):nY x y∈KO:=by
 have h:(KO.all λx=>KO.all λy=>Hi KO (nY x y))=true:=by kernel_rfl
 exact qt (Nc h hx hy)
theorem HG{x y:Option Kd}(hx:x∈KO)(hy:y∈KO):nY (some (nz x)) (some (nz y))=nY x y:=by
 have h:(KO.all λx=>KO.all λy=>Ci (nY (some (nz x)) (some (nz y))) (nY x y))=true:=by kernel_rfl
 exact sT (Nc h hx hy)
noncomputable def bn(b:Bool):Nat:=if b then 1 else 0
theorem ur(k:Kd):Hb 998 (bn k.v) k.val:=by
 obtain ⟨b,v,d⟩:=k
 cases v<;>exact⟨_,_,rfl⟩
noncomputable def xr(d:Dm):Nat:=match d with
 |.d0=>0
 |.d1=>1
 |.d2=>2
theorem u0(k:Kd):Hb 993 (xr k.d) k.val:=by
 obtain ⟨b,v,d⟩:=k
 cases d<;>exact⟨_,_,_,rfl⟩
noncomputable def c3:List Nat:=[0,1,2]
theorem P6(hc:c∈c3){x y:Kd}(hx:x∈KS)(hy:y∈KS):o3 (FM c) 14 [.v (.obj 1),.v (.sym 4),.o x.val,.o y.val,.i] [qk (nY (some x) (some y))] 32:=by
 have h:∀g,(c3.all λc=>pt.all λv=>pt.all λw=>KO.all λm=>run (FM c) 14 12 [.v (.obj 1),.v (.sym 4),.o (.obj 0),.o (.obj 1),.i] [.inst 998 (bn v),.inst 998 (bn w)]
   [pq 3 [.o (.obj 0),.o (.obj 1),.i,.v (.sym 4)] [rU m]] [rU (m.bind λk=>if k.d.beq .d1||(k.d.beq .d0&&k.b.beq .str) then some k else none)] g)=true:=λg=>by kernel_rfl
 have hm:cm x y∈KO:=qG (qu hx) (qu hy);have hcm:=Bp (rQ hx) (rQ hy) (w:=4) (by decide);exact yK (D:=20) (ts:=[x.val,y.val]) (as:=[.v (.obj 1),.v (.sym 4),.o (.obj 0),.o (.obj 1),.i]) (o:=nY (some x) (some y)) (.cons (.cons .nil rfl (pT y) (ur y)) rfl (pT x) (ur x))
  (mY (Fz rfl hcm) nt) rfl λg=>wD (vG (h g) hc (m7 x.v) (m7 y.v)) hm
end
section
open L2
noncomputable def wP(pr:Bool)(j:Nat):List Ar:=if pr then [.at j] else [.no,.at j]
noncomputable def rT(pr:Bool)(j:Nat):List Ar:=if pr then [.at j] else [.no]
theorem Hx{i:Nat}(ei:ts[i]?=some (nz o).val)(hp:pr=true->o.isSome=true):qk o∈(wP pr i).map (Ar.real ts):=by
 cases pr with
 |true=>
  cases o with
  |none=>exact mP (hp rfl)
  |some k=>
   show some k.val∈[some ((ts[i]?).getD .none)];rw[ei];exact ah
 |false=>
  show qk o∈[none,some ((ts[i]?).getD .none)];rw[ei]
  cases o with
  |none=>exact ah
  |some k=>exact ao _ ah
theorem qD{i:Nat}(ei:ts[i]?=some (nz o).val)(hp:pr=o.isSome):(rT pr i).map (Ar.real ts)=[qk o]:=by
 rw[hp]
 cases o with
 |none=>rfl
 |some k=>
  show [some ((ts[i]?).getD .none)]=[some k.val];rw[ei];rfl
theorem Hy{i:Nat}(h:i < m):(wP pr i).all (Ar.wf m)=true:=by
 have:=decide_eq_true h
 cases pr
 .show (true&&(decide (i < m)&&true))=true;rw[this];rfl
 .show (decide (i < m)&&true)=true;rw[this];rfl
theorem qE{i:Nat}(h:i < m):(rT pr i).all (Ar.wf m)=true:=by
 have:=decide_eq_true h
 cases pr
 .rfl
 .show (decide (i < m)&&true)=true;rw[this];rfl
theorem uW{l:List α}{i:Nat}{x:α}(h:l[i]?=some x):i < l.length:=(aq.mp h).1
section
variable {ts:List V}{c D:Nat}{pr:Bool}
theorem qx{t:V}{i:Nat}(h:n6 c t o D)(ej:ts[j]?=some t)(ei:ts[i]?=some (nz o).val)(hp:pr=true->o.isSome=true):nU ts D (o9 c j (wP pr i)):=by
 refine sq (o:=qk o) ?_ ?_ (Hx ei hp)
 .show (decide (aM (FM c).length).Nodup&&(wP pr i).all (Ar.wf ts.length))=true;rw[decide_eq_true bC,Hy (uW ei)];rfl
 .show o3 (FM c) 11 [.v (.obj 1),.o ((ts[j]?).getD .none)] _ D;rw[ej];exact h
noncomputable def Cz(c i j:Nat)(os:List Ar):sv:=GO c 14 [.v (.obj 1),.v (.sym 4),.o (.obj i),.o (.obj j),.i] os
theorem ME(hc:c∈c3)(hD:32<=D){x y:Option Kd}(hx:x∈KO)(hy:y∈KO){i:Nat}(ei:ts[i]?=some (nz x).val)(ej:ts[j]?=some (nz y).val):o3 (FM c) 14 ([pH.v (.obj 1),.v (.sym 4),.o (.obj i),.o (.obj j),.i].map (pH.real ts)) [qk (nY x y)] D:=by
 show o3 (FM c) 14 [.v (.obj 1),.v (.sym 4),.o ((ts[i]?).getD .none),.o ((ts[j]?).getD .none),.i] _ D;rw[ei,ej,<-HG hx hy];exact (P6 hc (qA hx) (qA hy)).le hD
theorem Jw(hc:c∈c3)(hD:32<=D){x y:Option Kd}(hx:x∈KO)(hy:y∈KO){i k:Nat}(ei:ts[i]?=some (nz x).val)(ej:ts[j]?=some (nz y).val)(ek:ts[k]?=some (nz (nY x y)).val)(hp:pr=true->(nY x y).isSome=true):nU ts D (Cz c i j (wP pr k)):=by
 refine sq (o:=qk (nY x y)) ?_ (ME hc hD hx hy ei ej) (Hx ek hp);show (decide (aM (FM c).length).Nodup&&(wP pr k).all (Ar.wf ts.length))=true;rw[decide_eq_true bC,Hy (uW ek)];rfl
theorem Jv(hc:c∈c3)(hD:32<=D){x y:Option Kd}(hx:x∈KO)(hy:y∈KO){i k:Nat}(ei:ts[i]?=some (nz x).val)(ej:ts[j]?=some (nz y).val)(ek:ts[k]?=some (nz (nY x y)).val)(hp:pr=(nY x y).isSome):nU ts D (Cz c i j (rT pr k)):=by
 refine sq (o:=qk (nY x y)) ?_ (ME hc hD hx hy ei ej) (by
  show qk (nY x y)∈(rT pr k).map (Ar.real ts)
  rw[qD ek hp];exact ah)
 show (decide (aM (FM c).length).Nodup&&(rT pr k).all (Ar.wf ts.length))=true;rw[decide_eq_true bC,qE (uW ek)];rfl
theorem oB{x y:Option Kd}(h:(nY x y).isSome=true):x.isSome=true/\y.isSome=true:=by
 cases x with
 |none=>exact mP h
 |some x=>cases y with
  |none=>exact mP h
  |some y=>exact⟨rfl,rfl⟩
end
theorem Known.t{v:V}(h:Known cs ts)(hv:mX v):Known (.inst 994 0::cs) (v::ts):=h.cons rfl hv trivial
theorem Known.k{k:Kd}(h:Known cs ts):Known (.inst 994 0::cs) (k.val::ts):=h.t (pT k)
noncomputable def heads:List Nat:=[26,28,44,55,91,128]
theorem head_tc(h:Nat):xo (1000+h)=true:=by
 unfold xo;rw[decide_eq_true (by omega:998<=1000+h)];rfl
theorem head_inf{h:Nat}{t:V}(e:∃l,t=.tup (.sym h::.int sp::l)):Hb (1000+h) sp t:=by
 unfold Hb;rw[if_pos (aN _ _),fi];exact e
noncomputable def sy(sp:Nat)(a b:V):V:=.tup [.sym 41,.int sp,.sym 4,a,b]
section
variable {c D h U2 s1 s2 s3:Nat}{a b1 b2 b3:V}{k0 k1 k2 k3:Option Kd}
noncomputable def Tx(c h U2 s1:Nat)(pr:Bool)(g:Nat->Int):Bool:=run (FM c) 11 12 [.v (.obj 1),.o (sy s1 (.obj 0) (.obj 1))] [.inst (1000+h) U2,.inst 994 0,.inst 994 0,.inst 994 0,.inst 994 0]
 [o9 c 0 (wP pr 2),o9 c 1 (wP pr 3),Cz c 2 3 (rT pr 4)] (rT pr 4) g
theorem Nw(hc:c∈c3)(hh:h∈heads)(hD:32<=D)(ea:∃l,a=.tup (.sym h::.int U2::l))(ta:mX a)(t1:mX b1)(m0:k0∈KO)(m1:k1∈KO)(h0:n6 c a k0 D)(h1:n6 c b1 k1 D):n6 c (sy s1 a b1) (nY k0 k1) (D+12):=by
 have hrun:∀U2 s1 g,(c3.all λc=>heads.all λh=>pt.all λpr=>Tx c h U2 s1 pr g)=true:=λU2 s1 g=>by kernel_rfl
 have:=con (ts:=[a,b1,(nz k0).val,(nz k1).val,(nz (nY k0 k1)).val]) (os:=rT (nY k0 k1).isSome 4) (.cons (Known.t (Known.k (Known.k (Known.k .nil))) t1) (head_tc h) ta (head_inf ea))
  (mY (qx h0 rfl rfl λe=>(oB e).1) (mY (qx h1 rfl rfl λe=>(oB e).2) (mY (Jv hc hD m0 m1 rfl rfl rfl rfl) nt))) (qE (cW rfl)) rfl λg=>vG (hrun U2 s1 g) hc hh (m7 _)
 rw[qD (o:=nY k0 k1) rfl rfl] at this;exact this
noncomputable def Tz(c h U2 s1 s2:Nat)(pr:Bool)(g:Nat->Int):Bool:=run (FM c) 11 12 [.v (.obj 1),.o (sy s2 (sy s1 (.obj 0) (.obj 1)) (.obj 2))] [.inst (1000+h) U2,.inst 994 0,.inst 994 0,.inst 994 0,.inst 994 0,.inst 994 0,.inst 994 0,.inst 994 0]
 [o9 c 0 (wP pr 3),o9 c 1 (wP pr 4),o9 c 2 (wP pr 5),Cz c 3 4 (wP pr 6),Cz c 6 5 (rT pr 7)] (rT pr 7) g
theorem Nx(hc:c∈c3)(hh:h∈heads)(hD:32<=D)(ea:∃l,a=.tup (.sym h::.int U2::l))(ta:mX a)(t1:mX b1)(t2:mX b2)(m0:k0∈KO)(m1:k1∈KO)(m2:k2∈KO)(h0:n6 c a k0 D)(h1:n6 c b1 k1 D)(h2:n6 c b2 k2 D):n6 c (sy s2 (sy s1 a b1) b2) (nY (nY k0 k1) k2) (D+12):=by
 have hrun:∀U2 s1 s2 g,(c3.all λc=>heads.all λh=>pt.all λpr=>Tz c h U2 s1 s2 pr g)=true:=λU2 s1 s2 g=>by kernel_rfl
 have m01:=uN m0 m1;have e1:(nY (nY k0 k1) k2).isSome=true->_:=λe=>(oB e).1;have:=con (ts:=[a,b1,b2,(nz k0).val,(nz k1).val,(nz k2).val,(nz (nY k0 k1)).val,(nz (nY (nY k0 k1) k2)).val]) (os:=rT (nY (nY k0 k1) k2).isSome 7)
  (.cons (Known.t (Known.t (Known.k (Known.k (Known.k (Known.k (Known.k .nil))))) t2) t1) (head_tc h) ta (head_inf ea))
  (mY (qx h0 rfl rfl λe=>(oB (e1 e)).1) (mY (qx h1 rfl rfl λe=>(oB (e1 e)).2) (mY (qx h2 rfl rfl λe=>(oB e).2)
   (mY (Jw hc hD m0 m1 rfl rfl rfl e1) (mY (Jv hc hD m01 m2 rfl rfl rfl rfl) nt))))) (qE (cW rfl)) rfl λg=>vG (hrun U2 s1 s2 g) hc hh (m7 _)
 rw[qD (o:=nY (nY k0 k1) k2) rfl rfl] at this;exact this
noncomputable def TB(c h U2 s1 s2 s3:Nat)(pr:Bool)(g:Nat->Int):Bool:=run (FM c) 11 12 [.v (.obj 1),.o (sy s3 (sy s2 (sy s1 (.obj 0) (.obj 1)) (.obj 2)) (.obj 3))] [.inst (1000+h) U2,.inst 994 0,.inst 994 0,.inst 994 0,.inst 994 0,.inst 994 0,.inst 994 0,.inst 994 0,.inst 994 0,.inst 994 0,.inst 994 0]
 [o9 c 0 (wP pr 4),o9 c 1 (wP pr 5),o9 c 2 (wP pr 6),o9 c 3 (wP pr 7),Cz c 4 5 (wP pr 8),Cz c 8 6 (wP pr 9),Cz c 9 7 (rT pr 10)] (rT pr 10) g
theorem Ny(hc:c∈c3)(hh:h∈heads)(hD:32<=D)(ea:∃l,a=.tup (.sym h::.int U2::l))(ta:mX a)(t1:mX b1)(t2:mX b2)(t3:mX b3)(m0:k0∈KO)(m1:k1∈KO)(m2:k2∈KO)(m3:k3∈KO)(h0:n6 c a k0 D)(h1:n6 c b1 k1 D)(h2:n6 c b2 k2 D)(h3:n6 c b3 k3 D):n6 c (sy s3 (sy s2 (sy s1 a b1) b2) b3) (nY (nY (nY k0 k1) k2) k3) (D+12):=by
 have hrun:∀U2 s1 s2 s3 g,(c3.all λc=>heads.all λh=>pt.all λpr=>TB c h U2 s1 s2 s3 pr g)=true:=λU2 s1 s2 s3 g=>by kernel_rfl
 have m01:=uN m0 m1;have m02:=uN m01 m2;have e1:(nY (nY (nY k0 k1) k2) k3).isSome=true->_:=λe=>(oB e).1;have e2:(nY (nY (nY k0 k1) k2) k3).isSome=true->_:=λe=>(oB (e1 e)).1;have:=con (ts:=[a,b1,b2,b3,(nz k0).val,(nz k1).val,(nz k2).val,(nz k3).val,(nz (nY k0 k1)).val,(nz (nY (nY k0 k1) k2)).val,(nz (nY (nY (nY k0 k1) k2) k3)).val]) (os:=rT (nY (nY (nY k0 k1) k2) k3).isSome 10)
  (.cons (Known.t (Known.t (Known.t (Known.k (Known.k (Known.k (Known.k (Known.k (Known.k (Known.k .nil))))))) t3) t2) t1) (head_tc h) ta (head_inf ea))
  (mY (qx h0 rfl rfl λe=>(oB (e2 e)).1) (mY (qx h1 rfl rfl λe=>(oB (e2 e)).2) (mY (qx h2 rfl rfl λe=>(oB (e1 e)).2) (mY (qx h3 rfl rfl λe=>(oB e).2)
   (mY (Jw hc hD m0 m1 rfl rfl rfl e2) (mY (Jw hc hD m01 m2 rfl rfl rfl e1) (mY (Jv hc hD m02 m3 rfl rfl rfl rfl) nt))))))) (qE (cW rfl)) rfl λg=>vG (hrun U2 s1 s2 s3 g) hc hh (m7 _)
 rw[qD (o:=nY (nY (nY k0 k1) k2) k3) rfl rfl] at this;exact this
end
end
section
open L2
noncomputable def rC(b:Bool)(j:Nat):Ar:=if b then .at j else .val .none
noncomputable def eb(b:Bool)(j:Nat):V:=if b then .obj j else .none
theorem wO:(RL c).map (pH.real ts)=RL c:=by unfold RL;split<;>rfl
theorem PO:(RL c).all (pH.okS m)=true:=by unfold RL;split<;>rfl
section
theorem sO{i:Nat}(ei:ts[i]?=some (nz o).val):(rC o.isSome i).real ts=rX o:=by
 cases o with
 |none=>rfl
 |some k=>
  show some ((ts[i]?).getD .none)=some k.val;rw[ei];rfl
theorem tn{b:Bool}{i:Nat}(h:i < m):(rC b i).wf m=true:=by
 cases b
 .rfl
 .exact decide_eq_true h
theorem EP{i:Nat}(ei:ts[i]?=some (nz o).val):(sb ts (eb o.isSome i)).getD .none=ov o:=by
 cases o with
 |none=>rfl
 |some k=>
  show (ts[i]?).getD .none=k.val;rw[ei];rfl
theorem oY{t:V}{i:Nat}(h:om c t o D)(ej:ts[j]?=some t)(ei:ts[i]?=some (nz o).val):nU ts D (pY c j [rC o.isSome i]):=by
 refine sq (o:=rX o) ?_ ?_ (by rw[<-sO ei];exact ah)
 .show (decide (aM (FL c).length).Nodup&&((rC o.isSome i).wf ts.length&&true))=true;rw[decide_eq_true bC,tn (uW ei)];rfl
 .show o3 (FL c) 49 (.o ((ts[j]?).getD .none)::(RL c).map (pH.real ts)) _ D;rw[ej,wO];exact h
theorem B1{S:V}{n:Nat}(hk:Known cs ts)(hr:∀w∈rows,nU ts D w)(hs:okS cs.length S=true)(hw:os.all (Ar.wf cs.length)=true)(ho:os.map (Ar.real ts)=[rX o])(hrun:∀g,run (FL c) 49 n (.o S::RL c) cs rows os g=true):om c ((sb ts S).getD .none) o (D+n):=by
 have:=con hk hr (os:=os) (as:=.o S::RL c) hw (by show (okS cs.length S&&(RL c).all _)=true;rw[hs,PO];rfl) hrun;rw[ho] at this;have h2:(pH.o S::RL c).map (pH.real ts)=.o ((sb ts S).getD .none)::RL c:=congrArg (_::·) wO;rw[h2] at this;exact this
end
theorem pK(h:o∈KO):o∈none::KN.map some:=by
 cases o with
 |none=>exact ah
 |some k=>exact ao _ (eP (rQ (oE h)))
section
variable {c D:Nat}{a b:V}{k0 k1:Option Kd}{sp:Nat}
noncomputable def lb(c sp:Nat)(b1 b2:Bool)(m:Option Kd)(g:Nat->Int):Bool:=run (FL c) 49 8 (.o (sy sp (.obj 0) (.obj 1))::RL c) [.inst 994 0,.inst 994 0,.inst 994 0,.inst 994 0]
 [pY c 0 [rC b1 2],pY c 1 [rC b2 3],pq 44 [.o (eb b1 2),.o (eb b2 3)] [qF m]] [qF (m.bind λk=>if k.d.beq .d1||(k.d.beq .d0&&k.b.beq .str) then some k else none)] g
theorem R7(hc:c∈c3)(hD:20<=D)(ta:mX a)(tb:mX b)(m0:k0∈KO)(m1:k1∈KO)(h0:om c a k0 D)(h1:om c b k1 D):om c (sy sp a b) (nY k0 k1) (D+8):=by
 have hrun:∀sp g,(c3.all λc=>pt.all λb1=>pt.all λb2=>KO.all λm=>lb c sp b1 b2 m g)=true:=λsp g=>by kernel_rfl
 refine B1 (S:=sy sp (.obj 0) (.obj 1)) (ts:=[a,b,(nz k0).val,(nz k1).val]) (os:=[qF (nY k0 k1)]) (.t (.t (.k (.k .nil)) tb) ta) (mY (oY h0 rfl rfl) (mY (oY h1 rfl rfl) (mY (Jx (o:=ou k0 k1) rfl ?_) nt))) rfl (by cases nY k0 k1<;>rfl) rfl λg=>wD (vG (hrun sp g) hc (m7 k0.isSome) (m7 k1.isSome)) (qG m0 m1);show o3 [] 44 [.o ((sb _ (eb k0.isSome 2)).getD .none),.o ((sb _ (eb k1.isSome 3)).getD .none)] _ D;rw[EP rfl,EP rfl];exact (MF (pK m0) (pK m1)).le hD
end
noncomputable def Hj:List Nat:=[27,165,57,109]
noncomputable def f1(nm:Nat)(sh:Bool)(x:Option Kd):Option Kd:=if nm=27 then R6 x else if nm=165 then MO sh x else O5 x
noncomputable def pre(nm:Nat):List V:=if nm=109 then [uJ 170 false 0] else []
noncomputable def o8(nm:Nat):List V:=if nm=109 then [.tup [.sym 170,.int 15,.sym 5]] else []
noncomputable def nC(sp nm:Nat)(l:List V):V:=.tup [.sym 44,.int sp,.sym nm,.tup l]
theorem NT{nm:Nat}(hn:nm∈Hj){x:Option Kd}(hx:x∈KO):f1 nm sh x∈KO:=by
 have h:(Hj.all λnm=>pt.all λsh=>KO.all λx=>Hi KO (f1 nm sh x))=true:=by kernel_rfl
 exact qt (vG h hn (m7 sh) hx)
theorem KH{nm:Nat}(hc:c∈c3)(hn:nm∈Hj){x:Kd}(hx:x∈KS):o3 (FM c) 23 [.v (.obj 1),.v (.sym nm),.o (.lst (pre nm++[x.val])),.i] [qk (f1 nm (c==0) (some x))] 20:=by
 have h:∀g,(c3.all λc=>Hj.all λnm=>KS.all λx=>run (FM c) 23 8 [.v (.obj 1),.v (.sym nm),.o (.lst (pre nm++[x.val])),.i] [] [] [rU (f1 nm (c==0) (some x))] g)=true:=λg=>by kernel_rfl
 have hs:∀{ts:List V},(sb ts (.lst (pre nm++[x.val]))).getD .none=.lst (pre nm++[x.val]):=λ{ts}=>by unfold pre;split<;>rfl
 have ho:okS 0 (.lst (pre nm++[x.val]))=true:=by unfold pre;split<;>rfl
 have:=yK (D:=12) (ts:=[]) (as:=[.v (.obj 1),.v (.sym nm),.o (.lst (pre nm++[x.val])),.i]) .nil nt (by show (true&&(true&&(okS 0 (.lst (pre nm++[x.val]))&&true)))=true;rw[ho];rfl) λg=>vG (h g) hc hn hx
 have h2:[pH.v (.obj 1),.v (.sym nm),.o (.lst (pre nm++[x.val])),.i].map (pH.real [])=[.v (.obj 1),.v (.sym nm),.o (.lst (pre nm++[x.val])),.i]:=by
  show [pH.v (.obj 1),.v (.sym nm),.o ((sb [] (.lst (pre nm++[x.val]))).getD .none),.i]=_;rw[hs]
 rw[h2] at this;exact this
theorem KI{nm:Nat}(hn:nm∈Hj){x:Option Kd}(hx:x∈KO):o3 [] 47 [.v (.sym nm),.o (.lst (pre nm++[ov x])),.v (.bool sh)] [rX (f1 nm sh x)] 20:=by
 have h:∀g,(Hj.all λnm=>pt.all λsh=>KO.all λx=>run [] 47 8 [.v (.sym nm),.o (.lst (pre nm++[ov x])),.v (.bool sh)] [] [] [qF (f1 nm sh x)] g)=true:=λg=>by kernel_rfl
 have hs:(sb [] (.lst (pre nm++[ov x]))).getD .none=.lst (pre nm++[ov x]):=by unfold pre;cases x<;>split<;>rfl
 have ho:okS 0 (.lst (pre nm++[ov x]))=true:=by unfold pre;cases x<;>split<;>rfl
 have:=HL (D:=12) (ts:=[]) (as:=[.v (.sym nm),.o (.lst (pre nm++[ov x])),.v (.bool sh)]) .nil nt (by show (true&&(okS 0 (.lst (pre nm++[ov x]))&&(true&&true)))=true;rw[ho];rfl) λg=>vG (h g) hn (m7 sh) hx
 have h2:[pH.v (.sym nm),.o (.lst (pre nm++[ov x])),.v (.bool sh)].map (pH.real [])=[.v (.sym nm),.o (.lst (pre nm++[ov x])),.v (.bool sh)]:=by
  show [pH.v (.sym nm),.o ((sb [] (.lst (pre nm++[ov x]))).getD .none),.v (.bool sh)]=_;rw[hs]
 rw[h2] at this;exact this
section
variable {c D:Nat}{a:V}{k:Option Kd}{sp nm:Nat}
noncomputable def Tq(c sp nm:Nat)(g:Nat->Int):Bool:=run (FM c) 11 8 [.v (.obj 1),.o (nC sp nm (o8 nm++[V.obj 0]))] [.inst 994 0] [o9 c 0 [.no]] [.no] g
noncomputable def Ts(c sp nm:Nat)(b:Bool)(g:Nat->Int):Bool:=run (FM c) 11 8 [.v (.obj 1),.o (nC sp nm (o8 nm++[V.obj 0]))] [.inst 994 0,.inst 994 0,.inst 994 0]
 [o9 c 0 (wP true 1),GO c 23 [.v (.obj 1),.v (.sym nm),.o (.lst (pre nm++[V.obj 1])),.i] (rT b 2)] (rT b 2) g
noncomputable def Tp(c sp nm:Nat)(b1 b2:Bool)(g:Nat->Int):Bool:=run (FL c) 49 8 (.o (nC sp nm (o8 nm++[V.obj 0]))::RL c) [.inst 994 0,.inst 994 0,.inst 994 0]
 [pY c 0 [rC b1 1],pq 47 [.v (.sym nm),.o (.lst (pre nm++[eb b1 1])),.v (.bool (c==0))] [rC b2 2]] [rC b2 2] g
theorem xg{x:V}(e:ts[j]?=some x):(sb ts (nC sp nm (o8 nm++[V.obj j]))).getD .none=nC sp nm (o8 nm++[x]):=by
 have h:sb ts (.obj j)=some x:=e;have h2:oA ts (o8 nm++[V.obj j])=some (o8 nm++[x]):=r9 (by unfold o8;split<;>rfl) (m6 h rfl)
 have h3:sb ts (nC sp nm (o8 nm++[V.obj j]))=some (nC sp nm (o8 nm++[x])):=by
  show (oA ts [_,_,_,.tup (o8 nm++[V.obj j])]).map V.tup=_;rw[m6 (v:=.sym 44) rfl (m6 (v:=.int sp) rfl (m6 (v:=.sym nm) rfl (m6 (show sb ts (.tup (o8 nm++[V.obj j]))=some (.tup (o8 nm++[x])) by show (oA ts _).map V.tup=_;rw[h2];rfl) rfl)))];rfl
 rw[h3];rfl
theorem xf(h:0 < m):okS m (nC sp nm (o8 nm++[V.obj 0]))=true:=by
 have:=decide_eq_true h;unfold o8
 split
 .show (decide (0 < m)&&true&&true)=true;rw[this];rfl
 .show (decide (0 < m)&&true&&true)=true;rw[this];rfl
theorem Jl{v x:V}(e:sb ts v=some x):(sb ts (.lst (pre nm++[v]))).getD .none=.lst (pre nm++[x]):=by
 have h2:oA ts (pre nm++[v])=some (pre nm++[x]):=r9 (by unfold pre;split<;>rfl) (m6 e rfl);show ((oA ts _).map V.lst).getD .none=_;rw[h2];rfl
theorem Nq(hc:c∈c3)(hn:nm∈Hj)(hD:20<=D)(ta:mX a)(m0:k∈KO)(h0:n6 c a k D):n6 c (nC sp nm (o8 nm++[a])) (f1 nm (c==0) k) (D+8):=by
 cases k with
 |none=>
  have hrun:∀sp g,(c3.all λc=>Hj.all λnm=>Tq c sp nm g)=true:=λsp g=>by kernel_rfl
  have e:f1 nm (c==0) none=none:=by unfold f1;split<;>(try split)<;>rfl
  rw[e];have:=yK (D:=D) (o:=none) (ts:=[a]) (rows:=[o9 c 0 [.no]]) (.t .nil ta) (mY (Fz (o:=none) (decide_eq_true bC) h0) nt) (as:=[.v (.obj 1),.o (nC sp nm (o8 nm++[V.obj 0]))]) (by show (true&&(okS 1 (nC sp nm (o8 nm++[V.obj 0]))&&true))=true;rw[xf (aR 0)];rfl) λg=>tm (hrun sp g) hc hn
  have h2:[pH.v (.obj 1),.o (nC sp nm (o8 nm++[V.obj 0]))].map (pH.real [a])=[.v (.obj 1),.o (nC sp nm (o8 nm++[a]))]:=by
   show [pH.v (.obj 1),.o ((sb [a] (nC sp nm (o8 nm++[V.obj 0]))).getD .none)]=_;rw[xg rfl]
  rw[h2] at this;exact this
 |some x=>
  have hrun:∀sp g,(c3.all λc=>Hj.all λnm=>pt.all λb=>Ts c sp nm b g)=true:=λsp g=>by kernel_rfl
  have:=con (ts:=[a,x.val,(nz (f1 nm (c==0) (some x))).val]) (rows:=[o9 c 0 (wP true 1),GO c 23 [.v (.obj 1),.v (.sym nm),.o (.lst (pre nm++[V.obj 1])),.i] (rT (f1 nm (c==0) (some x)).isSome 2)]) (os:=rT (f1 nm (c==0) (some x)).isSome 2) (.t (.k (.k .nil)) ta) (mY (qx (o:=some x) (i:=1) h0 rfl rfl λZ=>rfl) (mY (sq (o:=qk (f1 nm (c==0) (some x))) ?_ ?_ ?_) nt)) (qE (aR _)) (as:=[.v (.obj 1),.o (nC sp nm (o8 nm++[V.obj 0]))]) (by show (true&&(okS 3 (nC sp nm (o8 nm++[V.obj 0]))&&true))=true;rw[xf (kz 2)];rfl) λg=>vG (hrun sp g) hc hn (m7 _)
  .rw[qD (o:=f1 nm (c==0) (some x)) rfl rfl] at this
   have h2:[pH.v (.obj 1),.o (nC sp nm (o8 nm++[V.obj 0]))].map (pH.real [a,x.val,(nz (f1 nm (c==0) (some x))).val])=[.v (.obj 1),.o (nC sp nm (o8 nm++[a]))]:=by
    show [pH.v (.obj 1),.o ((sb _ (nC sp nm (o8 nm++[V.obj 0]))).getD .none)]=_;rw[xg rfl]
   rw[h2] at this;exact this
  .show (decide (aM (FM c).length).Nodup&&(rT (f1 nm (c==0) (some x)).isSome 2).all (Ar.wf 3))=true;rw[decide_eq_true bC,qE (aR _)];rfl
  .show o3 (FM c) 23 [.v (.obj 1),.v (.sym nm),.o ((sb _ (.lst (pre nm++[V.obj 1]))).getD .none),.i] _ D;rw[Jl (x:=x.val) rfl];exact (KH hc hn (oE m0)).le hD
  .show _∈(rT (f1 nm (c==0) (some x)).isSome 2).map (Ar.real _);rw[qD (o:=f1 nm (c==0) (some x)) rfl rfl];exact ah
theorem Np(hc:c∈c3)(hn:nm∈Hj)(hD:20<=D)(ta:mX a)(m0:k∈KO)(h0:om c a k D):om c (nC sp nm (o8 nm++[a])) (f1 nm (c==0) k) (D+8):=by
 have hrun:∀sp g,(c3.all λc=>Hj.all λnm=>pt.all λb1=>pt.all λb2=>Tp c sp nm b1 b2 g)=true:=λsp g=>by kernel_rfl
 have:=B1 (c:=c) (S:=nC sp nm (o8 nm++[V.obj 0])) (ts:=[a,(nz k).val,(nz (f1 nm (c==0) k)).val]) (o:=f1 nm (c==0) k) (rows:=[pY c 0 [rC k.isSome 1],pq 47 [.v (.sym nm),.o (.lst (pre nm++[eb k.isSome 1])),.v (.bool (c==0))] [rC (f1 nm (c==0) k).isSome 2]]) (os:=[rC (f1 nm (c==0) k).isSome 2]) (.t (.k (.k .nil)) ta) (mY (oY h0 rfl rfl) (mY (sq (o:=rX (f1 nm (c==0) k)) ?_ ?_ ?_) nt)) (xf (kz 2)) (by show ((rC (f1 nm (c==0) k).isSome 2).wf 3&&true)=true;rw[tn (aR _)];rfl) ?_ λg=>wD (vG (hrun sp g) hc hn (m7 k.isSome)) (m7 (f1 nm (c==0) k).isSome)
 .rw[xg rfl] at this;exact this
 .show (decide ([]:List Nat).Nodup&&((rC (f1 nm (c==0) k).isSome 2).wf 3&&true))=true;rw[tn (aR _)];rfl
 .show o3 [] 47 [.v (.sym nm),.o ((sb _ (.lst (pre nm++[eb k.isSome 1]))).getD .none),.v (.bool (c==0))] _ D;rw[Jl (x:=ov k) (by cases k<;>rfl)];exact (KI hn m0).le hD
 .show _∈[(rC (f1 nm (c==0) k).isSome 2).real _];rw[sO (o:=f1 nm (c==0) k) rfl];exact ah
 .show [(rC (f1 nm (c==0) k).isSome 2).real _]=_;rw[sO (o:=f1 nm (c==0) k) rfl]
end
end
section
open L2
section
theorem ro{t:V}{i:Nat}(h:n6 c t o D)(ej:ts[j]?=some t)(ei:ts[i]?=some (nz o).val):nU ts D (o9 c j (rT o.isSome i)):=by
 refine sq (o:=qk o) ?_ ?_ (by show _∈(rT o.isSome i).map _;rw[qD ei rfl];exact ah)
 .show (decide (aM (FM c).length).Nodup&&(rT o.isSome i).all (Ar.wf ts.length))=true;rw[decide_eq_true bC,qE (uW ei)];rfl
 .show o3 (FM c) 11 [.v (.obj 1),.o ((ts[j]?).getD .none)] _ D;rw[ej];exact h
theorem Rh{f:Nat}{W3:List (pH V)}{i:Nat}(h:o3 (FM c) f W3 [qk o] D)(ea:as.map (pH.real ts)=W3)(ei:ts[i]?=some (nz o).val):nU ts D (GO c f as (rT o.isSome i)):=by
 refine sq (o:=qk o) ?_ (by show o3 (FM c) f (as.map _) _ D;rw[ea];exact h) (by show _∈(rT o.isSome i).map _;rw[qD ei rfl];exact ah);show (decide (aM (FM c).length).Nodup&&(rT o.isSome i).all (Ar.wf ts.length))=true;rw[decide_eq_true bC,qE (uW ei)];rfl
theorem Rg{f:Nat}{W3:List (pH V)}{i:Nat}(h:o3 [] f W3 [rX o] D)(ea:as.map (pH.real ts)=W3)(ei:ts[i]?=some (nz o).val):nU ts D (pq f as [rC o.isSome i]):=by
 refine sq (o:=rX o) ?_ (by show o3 [] f (as.map _) _ D;rw[ea];exact h) (by show _∈[(rC o.isSome i).real ts];rw[sO ei];exact ah);show (true&&((rC o.isSome i).wf ts.length&&true))=true;rw[tn (uW ei)];rfl
end
noncomputable def NL:List Kd:=[JH,⟨.int,false,.d1⟩,⟨.int,true,.d0⟩,Ii,txt .d0,txt .d1,⟨.bool,true,.d2⟩]
noncomputable def NO:List (Option Kd):=none::NL.map some
theorem Ln{k:Kd}(h:some k∈NO):k∈NL:=by
 rcases aA.mp h with e | e
 .exact mV e.symm
 .refine mO (bK.mp e) λk' h1 h2=>?_;rw[<-ae h2];exact h1
theorem Hw{x y:Option Kd}(hx:x∈NO)(hy:y∈KO):rS x y∈KO:=by
 have h:(NO.all λx=>KO.all λy=>Hi KO (rS x y))=true:=by kernel_rfl
 exact qt (tm h hx hy)
theorem KJ(hc:c∈c3){x y:Kd}(hx:x∈NL)(hy:y∈KS):o3 (FM c) 23 [.v (.obj 1),.v (.sym 27),.o (.lst [x.val,y.val]),.i] [qk (rS (some x) (some y))] 20:=by
 have h:∀g,(c3.all λc=>NL.all λx=>KS.all λy=>run (FM c) 23 8 [.v (.obj 1),.v (.sym 27),.o (.lst [x.val,y.val]),.i] [] [] [rU (rS (some x) (some y))] g)=true:=λg=>by kernel_rfl
 exact yK (D:=12) (ts:=[]) (as:=[.v (.obj 1),.v (.sym 27),.o (.lst [x.val,y.val]),.i]) .nil nt rfl λg=>vG (h g) hc hx hy
theorem KL{x y:Option Kd}(hx:x∈NO)(hy:y∈KO):o3 [] 47 [.v (.sym 27),.o (.lst [ov x,ov y]),.v (.bool sh)] [rX (rS x y)] 20:=by
 have h:∀g,(NO.all λx=>KO.all λy=>pt.all λsh=>run [] 47 8 [.v (.sym 27),.o (.lst [ov x,ov y]),.v (.bool sh)] [] [] [qF (rS x y)] g)=true:=λg=>by kernel_rfl
 have:=HL (D:=12) (ts:=[]) (as:=[.v (.sym 27),.o (.lst [ov x,ov y]),.v (.bool sh)]) .nil nt (by cases x<;>cases y<;>rfl) λg=>vG (h g) hx hy (m7 sh)
 cases x<;>cases y<;>exact this
theorem KM(hc:c∈c3){x y z:Kd}:o3 (FM c) 23 [.v (.obj 1),.v (.sym 27),.o (.lst [x.val,y.val,z.val]),.i] [qk none] 20:=by
 have h:∀g,(c3.all λc=>pt.all λu=>pt.all λv=>pt.all λw=>run (FM c) 23 8 [.v (.obj 1),.v (.sym 27),.o (.lst [.obj 0,.obj 1,.obj 2]),.i] [.inst 998 (bn u),.inst 998 (bn v),.inst 998 (bn w)] [] [rU none] g)=true:=λg=>by kernel_rfl
 exact yK (D:=12) (ts:=[x.val,y.val,z.val]) (as:=[.v (.obj 1),.v (.sym 27),.o (.lst [.obj 0,.obj 1,.obj 2]),.i]) (.cons (.cons (.cons .nil rfl (pT z) (ur z)) rfl (pT y) (ur y)) rfl (pT x) (ur x)) nt rfl λg=>wD (vG (h g) hc (m7 _) (m7 _)) (m7 _)
theorem KP{x y z:Option Kd}(hx:x∈NO)(hy:y∈NO):o3 [] 47 [.v (.sym 27),.o (.lst [ov x,ov y,ov z]),.v (.bool sh)] [rX none] 20:=by
 have h:∀g,(NO.all λx=>NO.all λy=>pt.all λb=>pt.all λsh=>run [] 47 8 [.v (.sym 27),.o (.lst [ov x,ov y,eb b 0]),.v (.bool sh)] [.inst 994 0] [] [qF none] g)=true:=λg=>by kernel_rfl
 have:=HL (D:=12) (ts:=[(nz z).val]) (as:=[.v (.sym 27),.o (.lst [ov x,ov y,eb z.isSome 0]),.v (.bool sh)]) (.k .nil) nt (by cases x<;>cases y<;>cases z<;>rfl) λg=>wD (vG (h g) hx hy (m7 z.isSome)) (m7 sh)
 cases x<;>cases y<;>cases z<;>exact this
section
variable {c D:Nat}{a b t:V}{k0 k1 k2:Option Kd}{sp:Nat}
noncomputable def Th(c:Nat)(b0 b1 b2:Bool):List sv:=o9 c 0 (rT b0 2)::o9 c 1 (rT b1 3)::(if b0&&b1 then [GO c 23 [.v (.obj 1),.v (.sym 27),.o (.lst [.obj 2,.obj 3]),.i] (rT b2 4)] else [])
noncomputable def Tu(c sp:Nat)(b0 b1 b2:Bool)(g:Nat->Int):Bool:=(b2&&!(b0&&b1))||run (FM c) 11 8 [.v (.obj 1),.o (nC sp 27 [.obj 0,.obj 1])] [.inst 994 0,.inst 994 0,.inst 994 0,.inst 994 0,.inst 994 0] (Th c b0 b1 b2) (rT b2 4) g
theorem wL{x y:Bool}(h:(x||y)=true)(e:x=false):y=true:=by rw[e] at h;exact h
theorem Nt(hc:c∈c3)(hD:20<=D)(ta:mX a)(tb:mX b)(m0:k0∈NO)(m1:k1∈KO)(h0:n6 c a k0 D)(h1:n6 c b k1 D):n6 c (nC sp 27 [a,b]) (rS k0 k1) (D+8):=by
 have hrun:∀sp g,(c3.all λc=>pt.all λb0=>pt.all λb1=>pt.all λb2=>Tu c sp b0 b1 b2 g)=true:=λsp g=>by kernel_rfl
 have hr:∀w∈Th c k0.isSome k1.isSome (rS k0 k1).isSome,nU [a,b,(nz k0).val,(nz k1).val,(nz (rS k0 k1)).val] D w:=by
  refine mY (ro h0 rfl rfl) (mY (ro h1 rfl rfl) ?_)
  cases k0 with
  |none=>exact nt
  |some x=>cases k1 with
   |none=>exact nt
   |some y=>exact mY (Rh (o:=rS (some x) (some y)) ((KJ hc (Ln m0) (oE m1)).le hD) rfl rfl) nt
 have hq:((rS k0 k1).isSome&&!(k0.isSome&&k1.isSome))=false:=by
  cases k0 with
  |none=>rfl
  |some x=>cases k1 with
   |none=>rfl
   |some y=>exact cC _
 have:=con (ts:=[a,b,(nz k0).val,(nz k1).val,(nz (rS k0 k1)).val]) (os:=rT (rS k0 k1).isSome 4) (as:=[.v (.obj 1),.o (nC sp 27 [.obj 0,.obj 1])]) (.t (.t (.k (.k (.k .nil))) tb) ta) hr (qE (aR _)) rfl λg=>wL (wD (vG (hrun sp g) hc (m7 _) (m7 _)) (m7 _)) hq;rw[qD (o:=rS k0 k1) rfl rfl] at this;exact this
noncomputable def Tt(c sp:Nat)(b0 b1 b2:Bool)(g:Nat->Int):Bool:=run (FL c) 49 8 (.o (nC sp 27 [.obj 0,.obj 1])::RL c) [.inst 994 0,.inst 994 0,.inst 994 0,.inst 994 0,.inst 994 0]
 [pY c 0 [rC b0 2],pY c 1 [rC b1 3],pq 47 [.v (.sym 27),.o (.lst [eb b0 2,eb b1 3]),.v (.bool (c==0))] [rC b2 4]] [rC b2 4] g
theorem Nr(hc:c∈c3)(hD:20<=D)(ta:mX a)(tb:mX b)(m0:k0∈NO)(m1:k1∈KO)(h0:om c a k0 D)(h1:om c b k1 D):om c (nC sp 27 [a,b]) (rS k0 k1) (D+8):=by
 have hrun:∀sp g,(c3.all λc=>pt.all λb0=>pt.all λb1=>pt.all λb2=>Tt c sp b0 b1 b2 g)=true:=λsp g=>by kernel_rfl
 have he:∀(k0 k1:Option Kd) (r:V),[pH.v (.sym 27),.o (.lst [eb k0.isSome 2,eb k1.isSome 3]),.v (.bool (c==0))].map (pH.real [a,b,(nz k0).val,(nz k1).val,r])=[.v (.sym 27),.o (.lst [ov k0,ov k1]),.v (.bool (c==0))]:=by
  intro k0 k1 r;cases k0<;>cases k1<;>rfl
 exact B1 (c:=c) (S:=nC sp 27 [.obj 0,.obj 1]) (ts:=[a,b,(nz k0).val,(nz k1).val,(nz (rS k0 k1)).val]) (o:=rS k0 k1) (os:=[rC (rS k0 k1).isSome 4]) (.t (.t (.k (.k (.k .nil))) tb) ta)
  (mY (oY h0 rfl rfl) (mY (oY h1 rfl rfl) (mY (Rg (o:=rS k0 k1) (as:=[.v (.sym 27),.o (.lst [eb k0.isSome 2,eb k1.isSome 3]),.v (.bool (c==0))]) ((KL m0 m1).le hD) (he _ _ _) rfl) nt))) rfl (by show ((rC (rS k0 k1).isSome 4).wf 5&&true)=true;rw[tn (aR _)];rfl)
  (by show [(rC (rS k0 k1).isSome 4).real _]=_;rw[sO (o:=rS k0 k1) rfl]) λg=>wD (vG (hrun sp g) hc (m7 _) (m7 _)) (m7 _)
noncomputable def Tw(c sp:Nat)(g:Nat->Int):Bool:=run (FM c) 11 8 [.v (.obj 1),.o (nC sp 27 [.obj 0,.obj 1,.obj 2])] [.inst 994 0,.inst 994 0,.inst 994 0,.inst 994 0,.inst 994 0,.inst 994 0] [o9 c 0 (wP false 3),o9 c 1 (wP false 4),o9 c 2 (wP false 5),GO c 23 [.v (.obj 1),.v (.sym 27),.o (.lst [.obj 3,.obj 4,.obj 5]),.i] [rU none]] [rU none] g
theorem Nv(hc:c∈c3)(hD:20<=D)(ta:mX a)(tb:mX b)(tt:mX t)(h0:n6 c a k0 D)(h1:n6 c b k1 D)(h2:n6 c t k2 D):n6 c (nC sp 27 [a,b,t]) none (D+8):=by
 have hrun:∀sp g,(c3.all λc=>Tw c sp g)=true:=λsp g=>by kernel_rfl
 exact yK (ts:=[a,b,t,(nz k0).val,(nz k1).val,(nz k2).val]) (o:=none) (as:=[.v (.obj 1),.o (nC sp 27 [.obj 0,.obj 1,.obj 2])]) (.t (.t (.t (.k (.k (.k .nil))) tt) tb) ta)
  (mY (qx h0 rfl rfl mP) (mY (qx h1 rfl rfl mP) (mY (qx h2 rfl rfl mP) (mY (Fz (decide_eq_true bC) ((KM hc).le hD)) nt)))) rfl λg=>wD (hrun sp g) hc
noncomputable def Tv(c sp:Nat)(b0 b1 b2:Bool)(g:Nat->Int):Bool:=run (FL c) 49 8 (.o (nC sp 27 [.obj 0,.obj 1,.obj 2])::RL c) [.inst 994 0,.inst 994 0,.inst 994 0,.inst 994 0,.inst 994 0,.inst 994 0]
 [pY c 0 [rC b0 3],pY c 1 [rC b1 4],pY c 2 [rC b2 5],pq 47 [.v (.sym 27),.o (.lst [eb b0 3,eb b1 4,eb b2 5]),.v (.bool (c==0))] [qF none]] [qF none] g
theorem Nu(hc:c∈c3)(hD:20<=D)(ta:mX a)(tb:mX b)(tt:mX t)(m0:k0∈NO)(m1:k1∈NO)(h0:om c a k0 D)(h1:om c b k1 D)(h2:om c t k2 D):om c (nC sp 27 [a,b,t]) none (D+8):=by
 have hrun:∀sp g,(c3.all λc=>pt.all λb0=>pt.all λb1=>pt.all λb2=>Tv c sp b0 b1 b2 g)=true:=λsp g=>by kernel_rfl
 refine B1 (c:=c) (S:=nC sp 27 [.obj 0,.obj 1,.obj 2]) (ts:=[a,b,t,(nz k0).val,(nz k1).val,(nz k2).val]) (o:=none) (os:=[qF none]) (.t (.t (.t (.k (.k (.k .nil))) tt) tb) ta)
  (mY (oY h0 rfl rfl) (mY (oY h1 rfl rfl) (mY (oY h2 rfl rfl) (mY (Jx (as:=[.v (.sym 27),.o (.lst [eb k0.isSome 3,eb k1.isSome 4,eb k2.isSome 5]),.v (.bool (c==0))]) rfl ?_) nt)))) rfl rfl rfl λg=>wD (vG (hrun sp g) hc (m7 _) (m7 _)) (m7 _)
 have:=(KP (sh:=c==0) (z:=k2) m0 m1).le hD
 cases k0<;>cases k1<;>cases k2<;>exact this
end
end
section
open L2
noncomputable def sM(tw:Bool)(sp:Nat)(l:List V):V:=if tw then .tup [.sym 28,.int sp,.tup [.tup l,.tup l]] else .tup [.sym 26,.int sp,.tup l]
noncomputable def dO(x:Option Kd):Option Kd:=x.bind λk=>if k.d.beq .d0 then some k else none
noncomputable def AU(tw:Bool)(x:Option Kd):Option Kd:=x.map λk=>⟨k.b,k.v,if tw then .d2 else .d1⟩
noncomputable def EQ(x y:Option Kd):Option Kd:=ou (dO x) (dO y)
theorem Dk{x:Option Kd}(hx:x∈KO):dO x∈KO:=by
 have h:(KO.all λx=>Hi KO (dO x))=true:=by kernel_rfl
 exact qt (wD h hx)
theorem FR{x:Option Kd}(hx:x∈KO):AU tw x∈KO:=by
 have h:(pt.all λtw=>KO.all λx=>Hi KO (AU tw x))=true:=by kernel_rfl
 exact qt (tm h (m7 tw) hx)
theorem zH{x y:Option Kd}(hx:x∈KO)(hy:y∈KO):EQ x y∈KO:=qG (Dk hx) (Dk hy)
noncomputable def yU(o:Option Kd):Bool:=(dO o).isSome
theorem pA(h:yU o=true):∃k,o=some k/\dO o=some k/\k.d=.d0:=by
 cases o with
 |none=>exact mP h
 |some k=>
  obtain ⟨b,v,d⟩:=k
  cases d with
  |d0=>exact⟨_,rfl,rfl,rfl⟩
  |_=>exact mP h
theorem Im(h:yU o=false):dO o=none:=by
 unfold yU at h
 cases e:dO o with
 |none=>rfl
 |some k=>rw[e] at h;exact mP h.symm
theorem xh{k:Kd}(h:k∈KS)(hd:k.d=.d0):cm r6 k=some k:=by
 have hk:(KS.all λk=>!(k.d.beq .d0)||Ci (cm r6 k) (some k))=true:=by kernel_rfl
 exact sT (Tg (wD hk h) (by rw[hd];rfl))
theorem HJ{x y:Option Kd}(hx:x∈KO)(hy:y∈KO)(h:(ou x y).isSome=true):ou (ou x y) x=ou x y/\ou (ou x y) y=ou x y/\ou (ou x y) (ou x y)=ou x y:=by
 have hk:(KO.all λx=>KO.all λy=>!(ou x y).isSome||(Ci (ou (ou x y) x) (ou x y)&&(Ci (ou (ou x y) y) (ou x y)&&Ci (ou (ou x y) (ou x y)) (ou x y))))=true:=by kernel_rfl
 have:=b2 (Tg (tm hk hx hy) h);exact⟨sT this.1,sT (b2 this.2).1,sT (b2 this.2).2⟩
noncomputable def PA:List Dm:=[.d0,.d1,.d2]
theorem zG(d:Dm):d∈PA:=by cases d<;>simp [PA]
section
theorem x6(hD:20<=D){x y:Kd}(hx:x∈KN)(hy:y∈KN){w:Nat}(hw:w∈w5){a b:V}(ea:(sb ts a).getD .none=x.val)(eb:(sb ts b).getD .none=y.val)(ho:qk (cm x y)∈os.map (Ar.real ts))(Vk:os.all (Ar.wf ts.length)=true):nU ts D (pq 3 [.o a,.o b,.i,.v (.sym w)] os):=by
 refine sq (o:=qk (cm x y)) ?_ ?_ ho
 .show (true&&os.all (Ar.wf ts.length))=true;rw[Vk];rfl
 .show o3 [] 3 [.o ((sb ts a).getD .none),.o ((sb ts b).getD .none),.i,.v (.sym w)] _ D;rw[ea,eb];exact (Bp hx hy hw).le hD
theorem tO(hD:20<=D){x y:Option Kd}(hx:x∈none::KN.map some)(hy:y∈none::KN.map some){a b:V}(ea:(sb ts a).getD .none=ov x)(eb:(sb ts b).getD .none=ov y)(ho:rX (ou x y)∈os.map (Ar.real ts))(Vk:os.all (Ar.wf ts.length)=true):nU ts D (pq 44 [.o a,.o b] os):=by
 refine sq (o:=rX (ou x y)) ?_ ?_ ho
 .show (true&&os.all (Ar.wf ts.length))=true;rw[Vk];rfl
 .show o3 [] 44 [.o ((sb ts a).getD .none),.o ((sb ts b).getD .none)] _ D;rw[ea,eb];exact (MF hx hy).le hD
end
section
variable {c D:Nat}{a b:V}{k0 k1:Option Kd}{sp:Nat}{tw:Bool}
theorem pw:[rU o].all (Ar.wf m)=true:=by cases o<;>rfl
theorem EC{S x:V}(e:sb ts S=some x):(sb ts (sM tw sp [S])).getD .none=sM tw sp [x]:=by
 have h:sb ts (.tup [S])=some (.tup [x]):=by show (oA ts [S]).map V.tup=_;rw[m6 e rfl];rfl
 unfold sM
 cases tw with
 |true=>
  show (sb ts (.tup [.sym 28,.int sp,.tup [.tup [S],.tup [S]]])).getD .none=_
  have h2:sb ts (.tup [.tup [S],.tup [S]])=some (.tup [.tup [x],.tup [x]]):=by show (oA ts _).map V.tup=_;rw[m6 h (m6 h rfl)];rfl
  show ((oA ts _).map V.tup).getD .none=_;rw[m6 (v:=.sym 28) rfl (m6 (v:=.int sp) rfl (m6 h2 rfl))];rfl
 |false=>
  show ((oA ts [.sym 26,.int sp,.tup [S]]).map V.tup).getD .none=_;rw[m6 (v:=.sym 26) rfl (m6 (v:=.int sp) rfl (m6 h rfl))];rfl
def Placed(t:V):Prop:=∃n:Nat,Hb 999 n t
theorem Known.p{v:V}{n:Nat}(h:Known cs ts)(hv:mX v)(hi:Hb 999 n v):Known (.inst 999 n::cs) (v::ts):=h.cons rfl hv hi
theorem zA(h:Ai m l=true):okS m (sM tw sp l)=true:=by
 unfold sM
 cases tw
 .show (Ai m l&&true)=true;rw[h];rfl
 .show ((Ai m l&&(Ai m l&&true))&&true)=true;rw[h];rfl
theorem s7{S t:V}{n:Nat}(hk:Known cs ts)(hr:∀w∈rows,nU ts D w)(hs:okS cs.length S=true)(hw:os.all (Ar.wf cs.length)=true)(ho:os.map (Ar.real ts)=[qk o])(ht:(sb ts S).getD .none=t)(hrun:∀g,run (FM c) 11 n [.v (.obj 1),.o S] cs rows os g=true):n6 c t o (D+n):=by
 have:=con hk hr (os:=os) (as:=[.v (.obj 1),.o S]) hw (by show (true&&(okS cs.length S&&true))=true;rw[hs];rfl) hrun;rw[ho] at this;rw[<-ht];exact this
theorem rR{S t:V}{n:Nat}(hk:Known cs ts)(hr:∀w∈rows,nU ts D w)(hs:okS cs.length S=true)(hw:os.all (Ar.wf cs.length)=true)(ho:os.map (Ar.real ts)=[rX o])(ht:(sb ts S).getD .none=t)(hrun:∀g,run (FL c) 49 n (.o S::RL c) cs rows os g=true):om c t o (D+n):=by
 rw[<-ht];exact B1 hk hr hs hw ho hrun
theorem Ba:[rU o].map (Ar.real ts)=[qk o]:=congrArg (λa=>[a]) uL
theorem wx{t:V}(h:n6 c t o D)(ej:ts[j]?=some t):nU ts D (o9 c j [rU o]):=by
 refine Fz (decide_eq_true bC) ?_;show o3 (FM c) 11 [.v (.obj 1),.o ((ts[j]?).getD .none)] _ D;rw[ej];exact h
theorem x7{t:V}(h:om c t o D)(ej:ts[j]?=some t):nU ts D (pY c j [qF o]):=by
 refine Jx (decide_eq_true bC) ?_;show o3 (FL c) 49 (.o ((ts[j]?).getD .none)::(RL c).map (pH.real ts)) _ D;rw[ej,wO];exact h
theorem P1(hc:c∈c3)(ta:mX a)(pa:Placed a)(m0:k0∈KO)(h0:n6 c a k0 D):n6 c (sM tw sp [a]) (AU tw (dO k0)) (D+10):=by
 have hrun:∀sp n g,(c3.all λc=>pt.all λtw=>KO.all λk=>run (FM c) 11 10 [.v (.obj 1),.o (sM tw sp [.obj 0])] [.inst 999 n] [o9 c 0 [rU k]] [rU (AU tw (dO k))] g)=true:=λsp n g=>by kernel_rfl
 refine m4 pa λn pa=>?_;exact s7 (ts:=[a]) (.p .nil ta pa) (mY (wx h0 rfl) nt) (zA rfl) pw Ba (EC rfl) λg=>vG (hrun sp n g) hc (m7 _) m0
theorem P0(hc:c∈c3)(ta:mX a)(m0:k0∈KO)(h0:om c a k0 D):om c (sM tw sp [a]) (AU tw (dO k0)) (D+10):=by
 have hrun:∀sp g,(c3.all λc=>pt.all λtw=>KO.all λk=>run (FL c) 49 10 (.o (sM tw sp [.obj 0])::RL c) [.inst 994 0] [pY c 0 [qF k]] [qF (AU tw (dO k))] g)=true:=λsp g=>by kernel_rfl
 exact rR (ts:=[a]) (.t .nil ta) (mY (x7 h0 rfl) nt) (zA rfl) (by cases AU tw (dO k0)<;>rfl) rfl (EC rfl) λg=>vG (hrun sp g) hc (m7 _) m0
theorem ED{S T x y:V}(e:sb ts S=some x)(e':sb ts T=some y):(sb ts (sM tw sp [S,T])).getD .none=sM tw sp [x,y]:=by
 have h:sb ts (.tup [S,T])=some (.tup [x,y]):=by show (oA ts [S,T]).map V.tup=_;rw[m6 e (m6 e' rfl)];rfl
 unfold sM
 cases tw with
 |true=>
  have h2:sb ts (.tup [.tup [S,T],.tup [S,T]])=some (.tup [.tup [x,y],.tup [x,y]]):=by show (oA ts _).map V.tup=_;rw[m6 h (m6 h rfl)];rfl
  show ((oA ts _).map V.tup).getD .none=_;rw[m6 (v:=.sym 28) rfl (m6 (v:=.int sp) rfl (m6 h2 rfl))];rfl
 |false=>
  show ((oA ts [.sym 26,.int sp,.tup [S,T]]).map V.tup).getD .none=_;rw[m6 (v:=.sym 26) rfl (m6 (v:=.int sp) rfl (m6 h rfl))];rfl
noncomputable def gO(b:Bool)(d:Dm):Bool:=b&&d.beq .d0
theorem tA:yU o=gO o.isSome (nz o).d:=by
 cases o with
 |none=>rfl
 |some k=>
  obtain ⟨b,v,d⟩:=k
  cases d<;>rfl
noncomputable def RO(a b:V)(o:Ar):sv:=pq 3 [.o a,.o b,.i,.v (.sym 26)] [o]
noncomputable def PB(a b:V)(o:Ar):sv:=pq 44 [.o a,.o b] [o]
noncomputable def mR(m:Option Kd):List sv:=match m with
 |some k=>[RO r6.val k.val (rU m),RO k.val k.val (rU m)]
 |none=>[]
noncomputable def mL(m:Option Kd):List sv:=match m with
 |some k=>[PB k.val (.obj 2) (qF m),PB k.val (.obj 3) (qF m)]
 |none=>[]
noncomputable def S8(c:Nat)(b0 b1 g0 g1:Bool)(m:Option Kd):List sv:=o9 c 0 (rT b0 2)::o9 c 1 (rT b1 3)::((if g0 then [RO r6.val (.obj 2) (.at 2)] else [])++((if g0&&g1 then [RO (.obj 2) (.obj 3) (rU m)] else [])++mR m))
noncomputable def S7(c:Nat)(b0 b1 g0 g1:Bool)(m:Option Kd):List sv:=pY c 0 [rC b0 2]::pY c 1 [rC b1 3]::((if g0 then [PB r6.val (.obj 2) (.at 2),PB .none (.obj 2) (qF none)] else [])++((if g1 then [PB .none (.obj 3) (qF none)] else [])++((if g0&&g1 then [PB (.obj 2) (.obj 3) (qF m)] else [])++mL m)))
noncomputable def To(c sp n0 n1:Nat)(tw b0 b1:Bool)(d0 d1:Dm)(m:Option Kd)(g:Nat->Int):Bool:=(m.isSome&&!(gO b0 d0&&gO b1 d1))||run (FM c) 11 10 [.v (.obj 1),.o (sM tw sp [.obj 0,.obj 1])] [.inst 999 n0,.inst 999 n1,.inst 993 (xr d0),.inst 993 (xr d1)] (S8 c b0 b1 (gO b0 d0) (gO b1 d1) m) [rU (AU tw m)] g
noncomputable def Tn(c sp:Nat)(tw b0 b1:Bool)(d0 d1:Dm)(m:Option Kd)(g:Nat->Int):Bool:=(m.isSome&&!(gO b0 d0&&gO b1 d1))||run (FL c) 49 10 (.o (sM tw sp [.obj 0,.obj 1])::RL c) [.inst 994 0,.inst 994 0,.inst 993 (xr d0),.inst 993 (xr d1)] (S7 c b0 b1 (gO b0 d0) (gO b1 d1) m) [qF (AU tw m)] g
theorem tP{l l':List sv}(h:∀w∈l,nU ts D w)(k:∀w∈l',nU ts D w):∀w∈l++l',nU ts D w:=λw hw=>(aG.mp hw).elim (h w) (k w)
theorem vp{l:List sv}{b:Bool}(h:b=true->∀w∈l,nU ts D w):∀w∈(if b=true then l else []),nU ts D w:=by
 cases b with
 |true=>exact h rfl
 |false=>exact nt
theorem RR:26∈w5:=by decide
theorem zI{k0 k1:Option Kd}:((EQ k0 k1).isSome&&!(yU k0&&yU k1))=false:=by
 cases e:yU k0 with
 |false=>
  unfold EQ;rw[Im e];rfl
 |true=>cases e':yU k1 with
  |false=>
   unfold EQ;rw[Im e']
   cases dO k0<;>rfl
  |true=>exact cC _
theorem wR{x y:Kd}(hx:x.d=.d0)(hy:y.d=.d0):EQ (some x) (some y)=cm x y:=by
 obtain ⟨b,v,d⟩:=x;obtain ⟨b',v',d'⟩:=y
 cases hx
 cases hy
 rfl
theorem B2:r6∈KN:=ah
theorem P3(hc:c∈c3)(hD:20<=D)(ta:mX a)(tb:mX b)(pa:Placed a)(pb:Placed b)(m0:k0∈KO)(m1:k1∈KO)(h0:n6 c a k0 D)(h1:n6 c b k1 D):n6 c (sM tw sp [a,b]) (AU tw (EQ k0 k1)) (D+10):=by
 have hrun:∀sp n0 n1 g,(c3.all λc=>pt.all λtw=>pt.all λb0=>pt.all λb1=>PA.all λd0=>PA.all λd1=>KO.all λm=>To c sp n0 n1 tw b0 b1 d0 d1 m g)=true:=λsp n0 n1 g=>by kernel_rfl
 refine m4 pa λn0 pa=>?_;refine m4 pb λn1 pb=>?_;have hm:=zH m0 m1
 have hr:∀w∈S8 c k0.isSome k1.isSome (yU k0) (yU k1) (EQ k0 k1),nU [a,b,(nz k0).val,(nz k1).val] D w:=by
  refine mY (ro h0 rfl rfl) (mY (ro h1 rfl rfl) (tP (vp λe=>?_) (tP (vp λe=>?_) ?_)))
  .refine nP (pA e) λx T6 Z hx=>?_;subst T6;refine mY (x6 hD B2 (rQ (oE m0)) RR rfl rfl ?_ rfl) nt;rw[xh (oE m0) hx];exact ah
  .refine nP (pA (b2 e).1) λx T6 Z hx=>?_;subst T6;refine nP (pA (b2 e).2) λy T6 Z hy=>?_;subst T6;refine mY (x6 hD (rQ (oE m0)) (rQ (oE m1)) RR rfl rfl ?_ pw) nt;rw[Ba,wR hx hy];exact ah
  .cases e:EQ k0 k1 with
   |none=>exact nt
   |some k=>
    have hk:k∈KS:=by rw[e] at hm;exact oE hm
    have hd:k.d=.d0/\cm k k=some k:=by
     have hh:=zI (k0:=k0) (k1:=k1);rw[e] at hh
     have hg:(yU k0&&yU k1)=true:=by
      cases q:(yU k0&&yU k1) with
      |true=>rfl
      |false=>rw[q] at hh;exact nomatch hh
     refine nP (pA (b2 hg).1) λx T6 Z hx=>?_;subst T6;refine nP (pA (b2 hg).2) λy T6 Z hy=>?_;subst T6
     have e1:ou (some x) (some y)=some k:=by rw[<-e,wR hx hy];rfl
     have h3:=(HJ m0 m1 (by rw[e1];rfl)).2.2;rw[e1] at h3;refine⟨?_,h3⟩;have e2:cm x y=some k:=e1;unfold cm at e2
     split at e2
     .refine mO (ms e2) λZ Z e3=>?_;rw[<-e3];exact hx
     .exact mV e2
    refine mY (x6 hD B2 (rQ hk) RR rfl rfl ?_ pw) (mY (x6 hD (rQ hk) (rQ hk) RR rfl rfl ?_ pw) nt)
    .rw[Ba,xh hk hd.1];exact ah
    .rw[Ba,hd.2];exact ah
 rw[tA,tA] at hr;refine s7 (S:=sM tw sp [.obj 0,.obj 1]) (ts:=[a,b,(nz k0).val,(nz k1).val]) (.p (.p (.cons (.cons .nil rfl (pT _) (u0 _)) rfl (pT _) (u0 _)) tb pb) ta pa) hr (zA rfl) pw Ba (ED rfl rfl) λg=>?_;have:=vG (tm (tm (hrun sp n0 n1 g) hc (m7 tw)) (m7 k0.isSome) (m7 k1.isSome)) (zG (nz k0).d) (zG (nz k1).d) hm;exact wL this (by rw[<-tA,<-tA];exact zI)
theorem P2(hc:c∈c3)(hD:20<=D)(ta:mX a)(tb:mX b)(m0:k0∈KO)(m1:k1∈KO)(h0:om c a k0 D)(h1:om c b k1 D):om c (sM tw sp [a,b]) (AU tw (EQ k0 k1)) (D+10):=by
 have hrun:∀sp g,(c3.all λc=>pt.all λtw=>pt.all λb0=>pt.all λb1=>PA.all λd0=>PA.all λd1=>KO.all λm=>Tn c sp tw b0 b1 d0 d1 m g)=true:=λsp g=>by kernel_rfl
 have hm:=zH m0 m1
 have hr:∀w∈S7 c k0.isSome k1.isSome (yU k0) (yU k1) (EQ k0 k1),nU [a,b,(nz k0).val,(nz k1).val] D w:=by
  refine mY (oY h0 rfl rfl) (mY (oY h1 rfl rfl) (tP (vp λe=>?_) (tP (vp λe=>?_) (tP (vp λe=>?_) ?_))))
  .refine nP (pA e) λx T6 Z hx=>?_;subst T6;refine mY (tO (x:=some r6) (y:=some x) hD (ao _ ah) (pK m0) rfl rfl ?_ rfl) (mY (tO (x:=none) (y:=some x) hD ah (pK m0) rfl rfl ah rfl) nt);rw[show ou (some r6) (some x)=some x from xh (oE m0) hx];exact ah
  .refine nP (pA e) λy T6 Z hy=>?_;subst T6;exact mY (tO (x:=none) (y:=some y) hD ah (pK m1) rfl rfl ah rfl) nt
  .refine nP (pA (b2 e).1) λx T6 Z hx=>?_;subst T6;refine nP (pA (b2 e).2) λy T6 Z hy=>?_;subst T6;refine mY (tO (x:=some x) (y:=some y) hD (pK m0) (pK m1) rfl rfl ?_ (by cases EQ (some x) (some y)<;>rfl)) nt;rw[wR hx hy];exact ah
  .cases e:EQ k0 k1 with
   |none=>exact nt
   |some k=>
    have hh:=zI (k0:=k0) (k1:=k1);rw[e] at hh
    have hg:(yU k0&&yU k1)=true:=by
     cases q:(yU k0&&yU k1) with
     |true=>rfl
     |false=>rw[q] at hh;exact nomatch hh
    refine nP (pA (b2 hg).1) λx T6 Z hx=>?_;subst T6;refine nP (pA (b2 hg).2) λy T6 Z hy=>?_;subst T6
    have e1:ou (some x) (some y)=some k:=by rw[<-e,wR hx hy];rfl
    have h3:=HJ m0 m1 (by rw[e1];rfl);rw[e1] at h3
    have hk:k∈KS:=by rw[e] at hm;exact oE hm
    refine mY (tO (x:=some k) (y:=some x) hD (pK (qu hk)) (pK m0) rfl rfl ?_ rfl) (mY (tO (x:=some k) (y:=some y) hD (pK (qu hk)) (pK m1) rfl rfl ?_ rfl) nt)
    .rw[h3.1];exact ah
    .rw[h3.2.1];exact ah
 rw[tA,tA] at hr;refine rR (S:=sM tw sp [.obj 0,.obj 1]) (os:=[qF (AU tw (EQ k0 k1))]) (ts:=[a,b,(nz k0).val,(nz k1).val]) (.t (.t (.cons (.cons .nil rfl (pT _) (u0 _)) rfl (pT _) (u0 _)) tb) ta) hr (zA rfl) (by cases AU tw (EQ k0 k1)<;>rfl) rfl (ED rfl rfl) λg=>?_;have:=vG (tm (tm (hrun sp g) hc (m7 tw)) (m7 k0.isSome) (m7 k1.isSome)) (zG (nz k0).d) (zG (nz k1).d) hm;exact wL this (by rw[<-tA,<-tA];exact zI)
end
end
section
open L2
noncomputable def Hh(sh v:Bool)(m:Option Kd):Option Kd:=m.bind λk=>if sh&&(k.b.beq .str&&!k.d.beq .d2)&&!k.v then some k else if v&&(!k.d.beq .d0||(k.b.beq .str||k.b.beq .set)) then none else some ⟨k.b,k.v||v,k.d⟩
noncomputable def yz(k:Option Kd):Option Bool:=k.bind λk=>if k.b.beq .bool&&k.d.beq .d0 then some k.v else none
noncomputable def TO:List (Option Kd):=[none,some Mv,some ⟨.bool,true,.d0⟩,some Ii,some ⟨.int,true,.d0⟩,some JH,some (txt .d0),some (txt .d1),some ⟨.bool,true,.d2⟩]
theorem v4{k:Option Kd}{v:Bool}(h:yz k=some v):k=some ⟨.bool,v,.d0⟩:=by
 cases k with
 |none=>exact mV h
 |some k=>
  obtain ⟨b,w,d⟩:=k
  cases b<;>cases d<;>first | (rw[show w=v from ae h]) | exact mV h
theorem EV{v:Bool}{m:Option Kd}(h:m∈KO):Hh sh v m∈KO:=by
 have hk:(pt.all λsh=>pt.all λv=>KO.all λm=>Hi KO (Hh sh v m))=true:=by kernel_rfl
 exact qt (vG hk (m7 sh) (m7 v) h)
theorem TE{x y z:Option Kd}(hx:x∈KO)(hy:y∈KO)(hz:z∈KO):ou y (ou x z)=ou (ou x y) z:=by
 have hk:(KO.all λx=>KO.all λy=>KO.all λz=>Ci (ou y (ou x z)) (ou (ou x y) z))=true:=by kernel_rfl
 exact sT (vG hk hx hy hz)
noncomputable def rm(a b:V):V:=.tup [a,b]
noncomputable def A2(sp:Nat)(l:List V)(e:V):V:=.tup [.sym 91,.int sp,.tup l,e]
structure Tr(t:V):Prop where
 tl:mX t
 pl:Placed t
noncomputable def Kr(i:Nat):List Ar:=[.val .none,.at i]
section
theorem Jy{t:V}{i:Nat}(h:om c t o D)(ej:ts[j]?=some t)(ei:ts[i]?=some (nz o).val):nU ts D (pY c j (Kr i)):=by
 refine sq (o:=rX o) ?_ ?_ ?_
 .show (decide (aM (FL c).length).Nodup&&((Ar.val .none).wf ts.length&&((Ar.at i).wf ts.length&&true)))=true;rw[decide_eq_true bC,show (Ar.at i).wf ts.length=true from decide_eq_true (uW ei)];rfl
 .show o3 (FL c) 49 (.o ((ts[j]?).getD .none)::(RL c).map (pH.real ts)) _ D;rw[ej,wO];exact h
 .show rX o∈[some .none,some ((ts[i]?).getD .none)];rw[ei]
  cases o with
  |none=>exact ah
  |some k=>exact ao _ ah
theorem Gx(hD:20<=D){x:Option Kd}{i:Nat}(hx:x∈KO)(ei:ts[i]?=some (nz x).val):∀w∈[pq 44 [.o .none,.o .none] [qF none],pq 44 [.o .none,.o (.obj i)] [qF none],pq 44 [.o (.obj i),.o .none] [qF none]],nU ts D w:=by
 have e:(sb ts (.obj i)).getD .none=ov (some (nz x)):=by show (ts[i]?).getD .none=_;rw[ei];rfl
 have h:some (nz x)∈none::KN.map some:=pK (qu (qA hx));exact mY (tO (x:=none) (y:=none) hD ah ah rfl rfl ah rfl) (mY (tO (x:=none) hD ah h rfl e ah rfl) (mY (tO (y:=none) hD h ah e rfl ah rfl) nt))
theorem OA(hD:20<=D){x y:Option Kd}{i l:Nat}(hx:x∈KO)(hy:y∈KO)(ei:ts[i]?=some (nz x).val)(ej:ts[j]?=some (nz y).val)(el:ts[l]?=some (nz (ou (some (nz x)) (some (nz y)))).val):nU ts D (pq 44 [.o (.obj i),.o (.obj j)] (Kr l)):=by
 refine tO (x:=some (nz x)) (y:=some (nz y)) hD (pK (qu (qA hx))) (pK (qu (qA hy))) (by show (ts[i]?).getD .none=_;rw[ei];rfl) (by show (ts[j]?).getD .none=_;rw[ej];rfl) ?_ ?_
 .show _∈[some V.none,some ((ts[l]?).getD .none)];rw[el]
  cases ou (some (nz x)) (some (nz y)) with
  |none=>exact ah
  |some k=>exact ao _ ah
 .show (true&&((Ar.at l).wf ts.length&&true))=true;rw[show (Ar.at l).wf ts.length=true from decide_eq_true (uW el)];rfl
theorem Oz(hD:20<=D){x y:Option Kd}{i:Nat}(hx:x∈KO)(hy:y∈KO)(ei:ts[i]?=some (nz x).val)(ej:ts[j]?=some (nz y).val)(ho:rX (ou x y)∈os.map (Ar.real ts))(Vk:os.all (Ar.wf ts.length)=true):nU ts D (pq 44 [.o (eb x.isSome i),.o (eb y.isSome j)] os):=tO hD (pK hx) (pK hy) (EP ei) (EP ej) ho Vk
theorem rK:[qF o].all (Ar.wf m)=true:=by cases o<;>rfl
theorem KD{b:Bool}{i:Nat}(h:i < m):[rC b i].all (Ar.wf m)=true:=by
 show ((rC b i).wf m&&true)=true;rw[tn h];rfl
end
section
variable {c D:Nat}{t1 a1 t2 a2 e:V}{k1 k2 ke q1 q2:Option Kd}{sp:Nat}
noncomputable def wF(sh:Bool)(q m:Option Kd):Option Kd:=(yz q).bind λv=>Hh sh v m
noncomputable def Tb(c:Nat)(v b1 be:Bool)(m:Option Kd):List sv:=o9 c 0 [rU (some ⟨.bool,v,.d0⟩)]::o9 c 1 (rT b1 3)::o9 c 2 (rT be 4)::(if b1&&be then [pq 3 [.o (.obj 3),.o (.obj 4),.i,.v (.sym 76)] [rU m]] else [])
noncomputable def TK(c sp n0 n1 n2:Nat)(v b1 be:Bool)(m:Option Kd)(g:Nat->Int):Bool:=(m.isSome&&!(b1&&be))||run (FM c) 11 12 [.v (.obj 1),.o (A2 sp [rm (.obj 0) (.obj 1)] (.obj 2))] [.inst 999 n0,.inst 999 n1,.inst 999 n2,.inst 994 0,.inst 994 0] (Tb c v b1 be m) [rU (Hh (c==0) v m)] g
theorem Sx(hc:c∈c3)(hD:20<=D)(ht:Tr t1)(ha:Tr a1)(he:Tr e)(mq:q1∈TO)(m1:k1∈KO)(me:ke∈KO)(h0:n6 c t1 q1 D)(h1:n6 c a1 k1 D)(h2:n6 c e ke D):n6 c (A2 sp [rm t1 a1] e) (wF (c==0) q1 (ou k1 ke)) (D+12):=by
 refine m4 ht.pl λn0 p0=>?_;refine m4 ha.pl λn1 p1=>?_;refine m4 he.pl λn2 p2=>?_
 cases hq:yz q1 with
 |none=>
  have hrun:∀sp n0 n1 n2 g,(c3.all λc=>TO.all λq=>(yz q).isSome||run (FM c) 11 12 [.v (.obj 1),.o (A2 sp [rm (.obj 0) (.obj 1)] (.obj 2))] [.inst 999 n0,.inst 999 n1,.inst 999 n2] [o9 c 0 [rU q]] [rU none] g)=true:=λsp n0 n1 n2 g=>by kernel_rfl
  have e1:wF (c==0) q1 (ou k1 ke)=none:=by unfold wF;rw[hq];rfl
  rw[e1];exact s7 (S:=A2 sp [rm (.obj 0) (.obj 1)] (.obj 2)) (ts:=[t1,a1,e]) (.p (.p (.p .nil he.tl p2) ha.tl p1) ht.tl p0) (mY (wx h0 rfl) nt) rfl pw Ba rfl λg=>wL (tm (hrun sp n0 n1 n2 g) hc mq) (by rw[hq];rfl)
 |some v=>
  have hrun:∀sp n0 n1 n2 g,(c3.all λc=>pt.all λv=>pt.all λb1=>pt.all λbe=>KO.all λm=>TK c sp n0 n1 n2 v b1 be m g)=true:=λsp n0 n1 n2 g=>by kernel_rfl
  have e1:wF (c==0) q1 (ou k1 ke)=Hh (c==0) v (ou k1 ke):=by unfold wF;rw[hq];rfl
  rw[e1];rw[v4 hq] at h0
  have hr:∀w∈Tb c v k1.isSome ke.isSome (ou k1 ke),nU [t1,a1,e,(nz k1).val,(nz ke).val] D w:=by
   refine mY (wx h0 rfl) (mY (ro h1 rfl rfl) (mY (ro h2 rfl rfl) (vp λe=>?_)))
   cases k1 with
   |none=>exact mP e
   |some x=>cases ke with
    |none=>exact mP (b2 e).2
    |some y=>exact mY (x6 hD (rQ (oE m1)) (rQ (oE me)) (by decide) rfl rfl (by rw[Ba];exact ah) pw) nt
  refine s7 (S:=A2 sp [rm (.obj 0) (.obj 1)] (.obj 2)) (ts:=[t1,a1,e,(nz k1).val,(nz ke).val]) (.p (.p (.p (.k (.k .nil)) he.tl p2) ha.tl p1) ht.tl p0) hr rfl pw Ba rfl λg=>wL (tm (vG (hrun sp n0 n1 n2 g) hc (m7 v) (m7 k1.isSome)) (m7 ke.isSome) (qG m1 me)) ?_
  cases k1 with
  |none=>rfl
  |some x=>cases ke with
   |none=>rfl
   |some y=>exact cC _
noncomputable def TJ(c sp:Nat)(v b1 be:Bool)(m:Option Kd)(g:Nat->Int):Bool:=(m.isSome&&!(b1&&be))||run (FL c) 49 12 (.o (A2 sp [rm (.obj 0) (.obj 1)] (.obj 2))::RL c) [.inst 994 0,.inst 994 0,.inst 994 0,.inst 994 0,.inst 994 0] [pY c 0 [qF (some ⟨.bool,v,.d0⟩)],pY c 1 [rC b1 3],pY c 2 [rC be 4],pq 44 [.o (eb b1 3),.o (eb be 4)] [qF m]] [qF (Hh (c==0) v m)] g
theorem Sw(hc:c∈c3)(hD:20<=D)(ht:Tr t1)(ha:Tr a1)(he:Tr e)(mq:q1∈TO)(m1:k1∈KO)(me:ke∈KO)(h0:om c t1 q1 D)(h1:om c a1 k1 D)(h2:om c e ke D):om c (A2 sp [rm t1 a1] e) (wF (c==0) q1 (ou k1 ke)) (D+12):=by
 cases hq:yz q1 with
 |none=>
  have hrun:∀sp g,(c3.all λc=>TO.all λq=>(yz q).isSome||run (FL c) 49 12 (.o (A2 sp [rm (.obj 0) (.obj 1)] (.obj 2))::RL c) [.inst 994 0,.inst 994 0,.inst 994 0,.inst 994 0,.inst 994 0,.inst 994 0]
   (pY c 0 [qF q]::pY c 1 (Kr 3)::pY c 2 (Kr 4)::pq 44 [.o (.obj 3),.o (.obj 4)] (Kr 5)::([pq 44 [.o .none,.o .none] [qF none],pq 44 [.o .none,.o (.obj 4)] [qF none],pq 44 [.o (.obj 4),.o .none] [qF none]]++[pq 44 [.o .none,.o .none] [qF none],pq 44 [.o .none,.o (.obj 3)] [qF none],pq 44 [.o (.obj 3),.o .none] [qF none]])) [qF none] g)=true:=λsp g=>by kernel_rfl
  have e1:wF (c==0) q1 (ou k1 ke)=none:=by unfold wF;rw[hq];rfl
  rw[e1];exact rR (S:=A2 sp [rm (.obj 0) (.obj 1)] (.obj 2)) (ts:=[t1,a1,e,(nz k1).val,(nz ke).val,(nz (ou (some (nz k1)) (some (nz ke)))).val]) (.t (.t (.t (.k (.k (.k .nil))) he.tl) ha.tl) ht.tl)
   (mY (x7 h0 rfl) (mY (Jy h1 rfl rfl) (mY (Jy h2 rfl rfl) (mY (OA hD m1 me rfl rfl rfl) (tP (Gx hD me rfl) (Gx hD m1 rfl)))))) rfl rK rfl rfl λg=>wL (tm (hrun sp g) hc mq) (by rw[hq];rfl)
 |some v=>
  have hrun:∀sp g,(c3.all λc=>pt.all λv=>pt.all λb1=>pt.all λbe=>KO.all λm=>TJ c sp v b1 be m g)=true:=λsp g=>by kernel_rfl
  have e1:wF (c==0) q1 (ou k1 ke)=Hh (c==0) v (ou k1 ke):=by unfold wF;rw[hq];rfl
  rw[e1];rw[v4 hq] at h0;refine rR (S:=A2 sp [rm (.obj 0) (.obj 1)] (.obj 2)) (ts:=[t1,a1,e,(nz k1).val,(nz ke).val]) (.t (.t (.t (.k (.k .nil)) he.tl) ha.tl) ht.tl) (mY (x7 h0 rfl) (mY (oY h1 rfl rfl) (mY (oY h2 rfl rfl) (mY (Oz hD m1 me rfl rfl ah rK) nt)))) rfl rK rfl rfl λg=>wL (tm (vG (hrun sp g) hc (m7 v) (m7 k1.isSome)) (m7 ke.isSome) (qG m1 me)) ?_
  cases k1 with
  |none=>rfl
  |some x=>cases ke with
   |none=>rfl
   |some y=>exact cC _
end
end
section
open L2
section
variable {c D:Nat}{t1 a1 t2 a2 e:V}{k1 k2 ke q1 q2:Option Kd}{sp:Nat}
noncomputable def ue(sh:Bool)(q1 q2 m:Option Kd):Option Kd:=(yz q1).bind λv=>(yz q2).bind λw=>Hh sh (v||w) m
noncomputable def S2(sp:Nat):V:=A2 sp [rm (.obj 0) (.obj 1),rm (.obj 2) (.obj 3)] (.obj 4)
noncomputable def bq(v:Bool):Option Kd:=some ⟨.bool,v,.d0⟩
noncomputable def Tc(c:Nat)(v w b1 b2 be q:Bool)(m:Option Kd):List sv:=o9 c 0 [rU (bq v)]::o9 c 1 (rT b1 5)::o9 c 2 [rU (bq w)]::o9 c 3 (rT b2 6)::o9 c 4 (rT be 8)::((if b1&&b2 then [pq 3 [.o (.obj 5),.o (.obj 6),.i,.v (.sym 91)] (rT q 7)] else [])++(if q&&be then [pq 3 [.o (.obj 7),.o (.obj 8),.i,.v (.sym 76)] [rU m]] else []))
noncomputable def TQ(c sp n0 n1 n2 n3 n4:Nat)(v w b1 b2 be q:Bool)(m:Option Kd)(g:Nat->Int):Bool:=(m.isSome&&!(q&&be)||q&&!(b1&&b2))||run (FM c) 11 14 [.v (.obj 1),.o (S2 sp)] [.inst 999 n0,.inst 999 n1,.inst 999 n2,.inst 999 n3,.inst 999 n4,.inst 994 0,.inst 994 0,.inst 994 0,.inst 994 0] (Tc c v w b1 b2 be q m) [rU (Hh (c==0) (v||w) m)] g
theorem qR{x y:Option Kd}(h:(ou x y).isSome=true):x.isSome=true/\y.isSome=true:=by
 cases x with
 |none=>exact mP h
 |some x=>cases y with
  |none=>exact mP h
  |some y=>exact⟨rfl,rfl⟩
theorem Lj{a b:Bool}(h:a=true->b=true):(a&&!b)=false:=by
 cases a with
 |false=>rfl
 |true=>rw[h rfl];rfl
theorem EJ{x y:Option Kd}(hx:x.isSome=true)(hy:y.isSome=true):cm (nz x) (nz y)=ou x y:=by
 cases x with
 |none=>exact mP hx
 |some x=>cases y with
  |none=>exact mP hy
  |some y=>rfl
theorem Nd{δ:Type}{l:List α}{m:List β}{n:List γ}{o:List δ}{p:α->β->γ->δ->Bool}(h:(l.all λx=>m.all λy=>n.all λz=>o.all λu=>p x y z u)=true){x:α}{y:β}{z:γ}{u:δ}(hx:x∈l)(hy:y∈m)(hz:z∈n)(hu:u∈o):p x y z u=true:=tm (tm h hx hy) hz hu
theorem Sz(hc:c∈c3)(hD:20<=D)(ht:Tr t1)(ha:Tr a1)(VD:Tr t2)(Wi:Tr a2)(he:Tr e)(mq:q1∈TO)(W4:q2∈TO)(m1:k1∈KO)(m2:k2∈KO)(me:ke∈KO)(h0:n6 c t1 q1 D)(h1:n6 c a1 k1 D)(h2:n6 c t2 q2 D)(h3:n6 c a2 k2 D)(h4:n6 c e ke D):
  n6 c (A2 sp [rm t1 a1,rm t2 a2] e) (ue (c==0) q1 q2 (ou (ou k1 k2) ke)) (D+14):=by
 refine m4 ht.pl λn0 p0=>?_;refine m4 ha.pl λn1 p1=>?_;refine m4 VD.pl λn2 p2=>?_;refine m4 Wi.pl λn3 p3=>?_;refine m4 he.pl λn4 p4=>?_
 cases hq:yz q1 with
 |none=>
  have hrun:∀sp n0 n1 n2 n3 n4 g,(c3.all λc=>TO.all λq=>(yz q).isSome||run (FM c) 11 14 [.v (.obj 1),.o (S2 sp)] [.inst 999 n0,.inst 999 n1,.inst 999 n2,.inst 999 n3,.inst 999 n4] [o9 c 0 [rU q]] [rU none] g)=true:=λsp n0 n1 n2 n3 n4 g=>by kernel_rfl
  have e1:ue (c==0) q1 q2 (ou (ou k1 k2) ke)=none:=by unfold ue;rw[hq];rfl
  rw[e1];exact s7 (S:=S2 sp) (ts:=[t1,a1,t2,a2,e]) (.p (.p (.p (.p (.p .nil he.tl p4) Wi.tl p3) VD.tl p2) ha.tl p1) ht.tl p0) (mY (wx h0 rfl) nt) rfl pw Ba rfl λg=>wL (tm (hrun sp n0 n1 n2 n3 n4 g) hc mq) (by rw[hq];rfl)
 |some v=>
  rw[v4 hq] at h0
  cases Wr:yz q2 with
  |none=>
   have hrun:∀sp n0 n1 n2 n3 n4 g,(c3.all λc=>pt.all λv=>TO.all λq=>(yz q).isSome||run (FM c) 11 14 [.v (.obj 1),.o (S2 sp)] [.inst 999 n0,.inst 999 n1,.inst 999 n2,.inst 999 n3,.inst 999 n4,.inst 994 0] [o9 c 0 [rU (bq v)],o9 c 1 (wP false 5),o9 c 2 [rU q]] [rU none] g)=true:=λsp n0 n1 n2 n3 n4 g=>by kernel_rfl
   have e1:ue (c==0) q1 q2 (ou (ou k1 k2) ke)=none:=by unfold ue;rw[hq,Wr];rfl
   rw[e1];exact s7 (n:=14) (os:=[rU none]) (S:=S2 sp) (ts:=[t1,a1,t2,a2,e,(nz k1).val]) (.p (.p (.p (.p (.p (.k .nil) he.tl p4) Wi.tl p3) VD.tl p2) ha.tl p1) ht.tl p0) (mY (wx h0 rfl) (mY (qx (pr:=false) (i:=5) h1 rfl rfl mP) (mY (wx h2 rfl) nt))) rfl pw Ba rfl λg=>wL (vG (hrun sp n0 n1 n2 n3 n4 g) hc (m7 v) W4) (by rw[Wr];rfl)
  |some w=>
   rw[v4 Wr] at h2
   have hrun:∀sp n0 n1 n2 n3 n4 g,(c3.all λc=>pt.all λv=>pt.all λw=>pt.all λb1=>pt.all λb2=>pt.all λbe=>pt.all λq=>KO.all λm=>TQ c sp n0 n1 n2 n3 n4 v w b1 b2 be q m g)=true:=λsp n0 n1 n2 n3 n4 g=>by kernel_rfl
   have e1:ue (c==0) q1 q2 (ou (ou k1 k2) ke)=Hh (c==0) (v||w) (ou (ou k1 k2) ke):=by unfold ue;rw[hq,Wr];rfl
   rw[e1];have YZ:=qG m1 m2
   have hr:∀r∈Tc c v w k1.isSome k2.isSome ke.isSome (ou k1 k2).isSome (ou (ou k1 k2) ke),nU [t1,a1,t2,a2,e,(nz k1).val,(nz k2).val,(nz (ou k1 k2)).val,(nz ke).val] D r:=by
    refine mY (wx h0 rfl) (mY (ro h1 rfl rfl) (mY (wx h2 rfl) (mY (ro h3 rfl rfl) (mY (ro h4 rfl rfl) (tP (vp λe=>?_) (vp λe=>?_))))))
    .have:=b2 e;refine mY (x6 (x:=nz k1) (y:=nz k2) hD (rQ (qA m1)) (rQ (qA m2)) (by decide) rfl rfl ?_ (qE (cW rfl))) nt;rw[EJ this.1 this.2,qD (o:=ou k1 k2) rfl rfl];exact ah
    .have:=b2 e;refine mY (x6 (x:=nz (ou k1 k2)) (y:=nz ke) hD (rQ (qA YZ)) (rQ (qA me)) (by decide) rfl rfl ?_ pw) nt;rw[EJ this.1 this.2,Ba];exact ah
   refine s7 (S:=S2 sp) (ts:=[t1,a1,t2,a2,e,(nz k1).val,(nz k2).val,(nz (ou k1 k2)).val,(nz ke).val]) (.p (.p (.p (.p (.p (.k (.k (.k (.k .nil)))) he.tl p4) Wi.tl p3) VD.tl p2) ha.tl p1) ht.tl p0) hr rfl pw Ba rfl
    λg=>wL (Nd (Nd (hrun sp n0 n1 n2 n3 n4 g) hc (m7 v) (m7 w) (m7 k1.isSome)) (m7 k2.isSome) (m7 ke.isSome) (m7 (ou k1 k2).isSome) (qG YZ me)) ?_
   rw[Lj λh=>?_,Lj λh=>?_]
   .rfl
   .rw[(qR h).1,(qR h).2];rfl
   .rw[(qR h).1,(qR h).2];rfl
noncomputable def TM(c:Nat)(v w b1 b2 be q:Bool)(m:Option Kd):List sv:=[pY c 0 [qF (bq v)],pY c 1 [rC b1 5],pY c 2 [qF (bq w)],pY c 3 [rC b2 6],pY c 4 [rC be 8],pq 44 [.o (eb b1 5),.o (eb be 8)] [rC q 7],pq 44 [.o (eb b2 6),.o (eb q 7)] [qF m]]
noncomputable def TP(c sp:Nat)(v w b1 b2 be q:Bool)(m:Option Kd)(g:Nat->Int):Bool:=(m.isSome&&!(b2&&q)||q&&!(b1&&be))||run (FL c) 49 14 (.o (S2 sp)::RL c) [.inst 994 0,.inst 994 0,.inst 994 0,.inst 994 0,.inst 994 0,.inst 994 0,.inst 994 0,.inst 994 0,.inst 994 0] (TM c v w b1 b2 be q m) [qF (Hh (c==0) (v||w) m)] g
noncomputable def m0(i:Nat):List sv:=[pq 44 [.o .none,.o .none] [qF none],pq 44 [.o .none,.o (.obj i)] [qF none],pq 44 [.o (.obj i),.o .none] [qF none]]
noncomputable def TL(c:Nat)(q1 q2:Option Kd):List sv:=pY c 0 [qF q1]::pY c 1 (Kr 5)::pY c 2 [qF q2]::pY c 3 (Kr 6)::pY c 4 (Kr 8)::pq 44 [.o (.obj 5),.o (.obj 8)] (Kr 7)::pq 44 [.o (.obj 6),.o (.obj 7)] (Kr 9)::(m0 5++(m0 6++(m0 7++m0 8)))
noncomputable def TN(c sp:Nat)(q1 q2:Option Kd)(g:Nat->Int):Bool:=((yz q1).isSome&&(yz q2).isSome)||run (FL c) 49 14 (.o (S2 sp)::RL c) [.inst 994 0,.inst 994 0,.inst 994 0,.inst 994 0,.inst 994 0,.inst 994 0,.inst 994 0,.inst 994 0,.inst 994 0,.inst 994 0] (TL c q1 q2) [qF none] g
theorem Ic(hb:((yz q1).isSome&&(yz q2).isSome)=false)(hc:c∈c3)(hD:20<=D)(ht:Tr t1)(ha:Tr a1)(VD:Tr t2)(Wi:Tr a2)(he:Tr e)(mq:q1∈TO)(W4:q2∈TO)(m1:k1∈KO)(m2:k2∈KO)(me:ke∈KO)(h0:om c t1 q1 D)(h1:om c a1 k1 D)(h2:om c t2 q2 D)(h3:om c a2 k2 D)(h4:om c e ke D):
  om c (A2 sp [rm t1 a1,rm t2 a2] e) none (D+14):=by
 have hrun:∀sp g,(c3.all λc=>TO.all λq1=>TO.all λq2=>TN c sp q1 q2 g)=true:=λsp g=>by kernel_rfl
 have m3:ou (some (nz k1)) (some (nz ke))∈KO:=qG (qu (qA m1)) (qu (qA me));exact rR (S:=S2 sp) (ts:=[t1,a1,t2,a2,e,(nz k1).val,(nz k2).val,(nz (ou (some (nz k1)) (some (nz ke)))).val,(nz ke).val,(nz (ou (some (nz k2)) (some (nz (ou (some (nz k1)) (some (nz ke))))))).val]) (.t (.t (.t (.t (.t (.k (.k (.k (.k (.k .nil))))) he.tl) Wi.tl) VD.tl) ha.tl) ht.tl)
  (mY (x7 h0 rfl) (mY (Jy h1 rfl rfl) (mY (x7 h2 rfl) (mY (Jy h3 rfl rfl) (mY (Jy h4 rfl rfl) (mY (OA hD m1 me rfl rfl rfl) (mY (OA hD m2 m3 rfl rfl rfl) (tP (Gx hD m1 rfl) (tP (Gx hD m2 rfl) (tP (Gx hD m3 rfl) (Gx hD me rfl)))))))))))
  rfl rK rfl rfl λg=>wL (vG (hrun sp g) hc mq W4) hb
theorem Sy(hc:c∈c3)(hD:20<=D)(ht:Tr t1)(ha:Tr a1)(VD:Tr t2)(Wi:Tr a2)(he:Tr e)(mq:q1∈TO)(W4:q2∈TO)(m1:k1∈KO)(m2:k2∈KO)(me:ke∈KO)(h0:om c t1 q1 D)(h1:om c a1 k1 D)(h2:om c t2 q2 D)(h3:om c a2 k2 D)(h4:om c e ke D):
  om c (A2 sp [rm t1 a1,rm t2 a2] e) (ue (c==0) q1 q2 (ou (ou k1 k2) ke)) (D+14):=by
 cases hq:yz q1 with
 |none=>
  have e1:ue (c==0) q1 q2 (ou (ou k1 k2) ke)=none:=by unfold ue;rw[hq];rfl
  rw[e1];exact Ic (by rw[hq];rfl) hc hD ht ha VD Wi he mq W4 m1 m2 me h0 h1 h2 h3 h4
 |some v=>
  cases Wr:yz q2 with
  |none=>
   have e1:ue (c==0) q1 q2 (ou (ou k1 k2) ke)=none:=by unfold ue;rw[hq,Wr];rfl
   rw[e1];exact Ic (by rw[Wr];exact cC _) hc hD ht ha VD Wi he mq W4 m1 m2 me h0 h1 h2 h3 h4
  |some w=>
   rw[v4 hq] at h0;rw[v4 Wr] at h2
   have hrun:∀sp g,(c3.all λc=>pt.all λv=>pt.all λw=>pt.all λb1=>pt.all λb2=>pt.all λbe=>pt.all λq=>KO.all λm=>TP c sp v w b1 b2 be q m g)=true:=λsp g=>by kernel_rfl
   have e1:ue (c==0) q1 q2 (ou (ou k1 k2) ke)=Hh (c==0) (v||w) (ou k2 (ou k1 ke)):=by unfold ue;rw[hq,Wr,TE m1 m2 me];rfl
   rw[e1];have YY:=qG m1 me;refine rR (S:=S2 sp) (ts:=[t1,a1,t2,a2,e,(nz k1).val,(nz k2).val,(nz (ou k1 ke)).val,(nz ke).val]) (.t (.t (.t (.t (.t (.k (.k (.k (.k .nil)))) he.tl) Wi.tl) VD.tl) ha.tl) ht.tl)
    (mY (x7 h0 rfl) (mY (oY h1 rfl rfl) (mY (x7 h2 rfl) (mY (oY h3 rfl rfl) (mY (oY h4 rfl rfl) (mY (Oz hD m1 me rfl rfl (by rw[<-sO (ts:=[t1,a1,t2,a2,e,(nz k1).val,(nz k2).val,(nz (ou k1 ke)).val,(nz ke).val]) (i:=7) rfl];exact ah) (KD (cW rfl))) (mY (Oz hD m2 YY rfl rfl ah rK) nt)))))))
    rfl rK rfl rfl λg=>wL (Nd (Nd (hrun sp g) hc (m7 v) (m7 w) (m7 k1.isSome)) (m7 k2.isSome) (m7 ke.isSome) (m7 (ou k1 ke).isSome) (qG m2 YY)) ?_
   rw[Lj λh=>?_,Lj λh=>?_]
   .rfl
   .rw[(qR h).1,(qR h).2];rfl
   .rw[(qR h).1,(qR h).2];rfl
end
end
section
open L2
noncomputable def oq(sp s:Nat):V:=.tup [.sym 128,.int sp,.sym s]
noncomputable def wM:List Nat:=[90,192,40,195,160,20,184,155,188,175,178,108]
noncomputable def nK(c s:Nat):Option Kd:=if s=90 then some Ii else if s=192 then some ⟨.int,c != 2,.d0⟩ else if s=40 then some Mv else if s=195 then some ⟨.bool,c != 2,.d0⟩ else if s=160 then some JH else if s=20 then some ⟨.int,false,.d1⟩ else if s=184 then some ⟨.int,true,.d1⟩ else if s=155 then some ⟨.int,false,.d2⟩ else if s=188 then some ⟨.bool,true,.d2⟩ else if s=175 then some (txt .d0) else if s=178 then some (txt .d1) else none
section
variable {c s sp:Nat}
theorem OE(hc:c∈c3)(hs:s∈wM):nK c s∈KO:=by
 have h:(c3.all λc=>wM.all λs=>Hi KO (nK c s))=true:=by kernel_rfl
 exact qt (tm h hc hs)
theorem E8(hc:c∈c3)(hs:s∈wM):n6 c (oq sp s) (nK c s) 32:=by
 have hrun:∀sp g,(c3.all λc=>wM.all λs=>run (FM c) 11 12 [.v (.obj 1),.o (oq sp s)] [] [] [rU (nK c s)] g)=true:=λsp g=>by kernel_rfl
 exact s7 (D:=20) (ts:=[]) (S:=oq sp s) .nil nt rfl pw Ba rfl λg=>tm (hrun sp g) hc hs
theorem E7(hc:c∈c3)(hs:s∈wM):om c (oq sp s) (nK c s) 32:=by
 have hrun:∀sp g,(c3.all λc=>wM.all λs=>run (FL c) 49 12 (.o (oq sp s)::RL c) [] [] [qF (nK c s)] g)=true:=λsp g=>by kernel_rfl
 exact rR (D:=20) (ts:=[]) (S:=oq sp s) .nil nt rfl rK rfl rfl λg=>tm (hrun sp g) hc hs
noncomputable def TT(s:Nat):V:=.tup [.sym 41,.int 8,.sym 10,oq 1 s,.tup [.sym 103,.int 8,.int 2]]
noncomputable def So:V:=.tup [.sym 44,.int 7,.sym 81,.tup [oq 7 195]]
noncomputable def RP:List Nat:=[192,160,175,178,188,108]
noncomputable def re:List (V×(Nat->Option Kd)):=(So,λc=>if c=1 then none else nK c 195)::(oq 9 195,λc=>nK c 195)::(oq 9 40,λc=>nK c 40)::(RP.map λs=>(oq 1 s,λc=>nK c s))++(90::RP).map λs=>(TT s,λc=>TS (nK c s))
mutual
theorem y6:∀{v:V},okS 0 v=true->pZ v=true
 |.none,_=>rfl
 |.bool _,_=>rfl
 |.int _,_=>rfl
 |.sym _,_=>rfl
 |.txt _,_=>rfl
 |.tup l,h=>uy (l:=l) h
 |.lst l,h=>uy (l:=l) h
 |.dct _,h=>mP h
 |.obj n,h=>absurd (of_decide_eq_true (show decide (n < 0)=true from h)) (Nat.not_lt_zero _)
theorem uy:∀{l:List V},Ai 0 l=true->oh l=true
 |[],_=>rfl
 |v::l,h=>by
  have h:=b2 h;show (pZ v&&oh l)=true;rw[y6 h.1,uy h.2];rfl
end
theorem v3{v:V}(h:okS 0 v=true):(sb ts v).getD .none=v:=by rw[o7 (y6 h)];rfl
theorem JU(hc:c∈c3){p:V×(Nat->Option Kd)}(hp:p∈re):n6 c p.1 (p.2 c) 32:=by
 have hrun:∀g,(c3.all λc=>re.all λp=>okS 0 p.1&&run (FM c) 11 12 [.v (.obj 1),.o p.1] [] [] [rU (p.2 c)] g)=true:=λg=>by kernel_rfl
 have h0:=(b2 (tm (hrun λZ=>0) hc hp)).1;exact s7 (D:=20) (ts:=[]) (S:=p.1) .nil nt h0 pw Ba (v3 h0) λg=>(b2 (tm (hrun g) hc hp)).2
theorem JT(hc:c∈c3){p:V×(Nat->Option Kd)}(hp:p∈re):om c p.1 (p.2 c) 32:=by
 have hrun:∀g,(c3.all λc=>re.all λp=>okS 0 p.1&&run (FL c) 49 12 (.o p.1::RL c) [] [] [qF (p.2 c)] g)=true:=λg=>by kernel_rfl
 have h0:=(b2 (tm (hrun λZ=>0) hc hp)).1;exact rR (D:=20) (ts:=[]) (S:=p.1) .nil nt h0 rK rfl (v3 h0) λg=>(b2 (tm (hrun g) hc hp)).2
theorem sK(hc:c∈c3){p:V×(Nat->Option Kd)}(hp:p∈re):p.2 c∈TO:=by
 have h:(c3.all λc=>re.all λp=>Hi TO (p.2 c))=true:=by kernel_rfl
 exact qt (tm h hc hp)
noncomputable def qb(s:Nat)(b:V):V:=.tup [.sym 55,.int 2,.sym 26,.tup [.tup [.tup [.sym 108],oq 1 s]],.none,b]
noncomputable def Gh:List Nat:=[192,175,188,108]
theorem NB{b:V}(hc:c∈c3)(hs:s∈Gh)(hb:mX b):n6 c (qb s b) none 32:=by
 have hrun:∀g,(c3.all λc=>Gh.all λs=>run (FM c) 11 12 [.v (.obj 1),.o (qb s (.obj 0))] [.inst 994 0] [] [rU none] g)=true:=λg=>by kernel_rfl
 exact s7 (D:=20) (ts:=[b]) (S:=qb s (.obj 0)) (.t .nil hb) nt rfl pw Ba rfl λg=>tm (hrun g) hc hs
theorem NA{b:V}(hc:c∈c3)(hs:s∈Gh)(hb:mX b):om c (qb s b) none 32:=by
 have hrun:∀g,(c3.all λc=>Gh.all λs=>run (FL c) 49 12 (.o (qb s (.obj 0))::RL c) [.inst 994 0] [] [qF none] g)=true:=λg=>by kernel_rfl
 exact rR (D:=20) (ts:=[b]) (S:=qb s (.obj 0)) (.t .nil hb) nt rfl rK rfl rfl λg=>tm (hrun g) hc hs
noncomputable def B0:List Nat:=[160,184,178]
noncomputable def TG(s:Nat):Kd:=if s=160 then Ii else if s=184 then ⟨.int,true,.d0⟩ else txt .d0
noncomputable def rM(w:Bool)(s:Nat):V:=if w then .tup [.sym 44,.int 12,.sym 165,.tup [oq 1 s]] else oq 1 s
noncomputable def sj:List Nat:=[108,192,90,195,160,175,178,188]
noncomputable def cK(c s:Nat)(w:Bool)(b:Nat):Option Kd:=AU false (dO ((λx=>if w then MO (c==0) x else x) (if b=108 then some (TG s) else nK c b)))
theorem Nn{w:Bool}{b:Nat}(hc:c∈c3)(hs:s∈B0)(hb:b∈sj):cK c s w b∈KO:=by
 have h:(c3.all λc=>B0.all λs=>pt.all λw=>sj.all λb=>Hi KO (cK c s w b))=true:=by kernel_rfl
 exact qt (Nd h hc hs (m7 w) hb)
theorem ND{w:Bool}{b:Nat}(hc:c∈c3)(hs:s∈B0)(hb:b∈sj):n6 c (qb s (rM w b)) (cK c s w b) 32:=by
 have hrun:∀g,(c3.all λc=>B0.all λs=>pt.all λw=>sj.all λb=>run (FM c) 11 12 [.v (.obj 1),.o (qb s (rM w b))] [] [] [rU (cK c s w b)] g)=true:=λg=>by kernel_rfl
 have h0:okS 0 (qb s (rM w b))=true:=by cases w<;>rfl
 exact s7 (D:=20) (ts:=[]) (S:=qb s (rM w b)) .nil nt h0 pw Ba (v3 h0) λg=>Nd (hrun g) hc hs (m7 w) hb
theorem NC{w:Bool}{b:Nat}(hc:c∈c3)(hs:s∈B0)(hb:b∈sj):om c (qb s (rM w b)) (cK c s w b) 32:=by
 have hrun:∀g,(c3.all λc=>B0.all λs=>pt.all λw=>sj.all λb=>run (FL c) 49 12 (.o (qb s (rM w b))::RL c) [] [] [qF (cK c s w b)] g)=true:=λg=>by kernel_rfl
 have h0:okS 0 (qb s (rM w b))=true:=by cases w<;>rfl
 exact rR (D:=20) (ts:=[]) (S:=qb s (rM w b)) .nil nt h0 rK rfl (v3 h0) λg=>Nd (hrun g) hc hs (m7 w) hb
theorem PZ(hc:c∈c3):n6 c (sM tw sp []) (AU tw (some r6)) 32:=by
 have hrun:∀sp g,(c3.all λc=>pt.all λtw=>run (FM c) 11 12 [.v (.obj 1),.o (sM tw sp [])] [] [] [rU (AU tw (some r6))] g)=true:=λsp g=>by kernel_rfl
 have h0:okS 0 (sM tw sp [])=true:=by cases tw<;>rfl
 exact s7 (D:=20) (ts:=[]) (S:=sM tw sp []) .nil nt h0 pw Ba (v3 h0) λg=>tm (hrun sp g) hc (m7 tw)
theorem PY(hc:c∈c3):om c (sM tw sp []) (AU tw (some r6)) 32:=by
 have hrun:∀sp g,(c3.all λc=>pt.all λtw=>run (FL c) 49 12 (.o (sM tw sp [])::RL c) [] [] [qF (AU tw (some r6))] g)=true:=λsp g=>by kernel_rfl
 have h0:okS 0 (sM tw sp [])=true:=by cases tw<;>rfl
 exact rR (D:=20) (ts:=[]) (S:=sM tw sp []) .nil nt h0 rK rfl (v3 h0) λg=>tm (hrun sp g) hc (m7 tw)
end
end
section
open L2
noncomputable def dp(h:Nat):Nat:=32+14 * h
class inductive Kq(c D:Nat):Nat->V->Option Kd->Prop where
 |leaf {t:V} {o:Option Kd} {h sp:Nat} (hh:h∈heads) (e:∃l,t=.tup (.sym h::.int sp::l)) (tl:mX t) (m:o∈KO) (k:n6 c t o D):Kq c D 0 t o
 |cat {n:Nat} {a b:V} {x y:Option Kd} {sp:Nat} (ha:Kq c D n a x) (tb:mX b) (m:y∈KO) (k:n6 c b y D):Kq c D (n+1) (sy sp a b) (nY x y)
theorem Kq.le{D' n:Nat}{t:V}(h:Kq c D n t o)(k:D<=D'):Kq c D' n t o:=by
 induction h with
 |leaf hh e tl m h=>exact .leaf hh e tl m (o3.le h k)
 |cat ha tb m h ih=>exact .cat ih tb m (o3.le h k)
theorem Kq.con{n:Nat}{a b:V}{x y:Option Kd}(hc:c∈c3)(hD:32<=D)(h:Kq c D n a x)(hn:n<=2)(tb:mX b)(m:y∈KO)(k:n6 c b y D):n6 c (sy sp a b) (nY x y) (D+12):=by
 cases h with
 |leaf hh e tl m0 k0=>exact Nw hc hh hD e tl tb m0 m k0 k
 |cat ha t1 m1 k1=>cases ha with
  |leaf hh e tl m0 k0=>exact Nx hc hh hD e tl t1 tb m0 m1 m k0 k1 k
  |cat hb t0 mm kk=>cases hb with
   |leaf hh e tl m0 k0=>exact Ny hc hh hD e tl t0 t1 tb m0 mm m1 m k0 kk k1 k
   |cat _ _ _ _=>exact absurd hn (by omega)
structure nv(h s:Nat)(t:V):Prop where
 sh:nM (5+3 * h) t=true
 pl:Placed t
 tup:∃l,t=.tup l
 k:∀c∈c3,∃o,o∈KO/\om c t o (dp h)/\n6 c t o (dp h)/\∃n,n<=s/\Kq c (dp h) n t o
theorem nv.mono{h h' s s':Nat}{t:V}(g:nv h s t)(k:h<=h')(l:s<=s'):nv h' s' t:=by
 have hd:dp h<=dp h':=bd (gf 14 k) 32;refine⟨nn (bd (gf 3 k) 5) g.sh,g.pl,g.tup,λc hc=>?_⟩;refine y5 (g.k c hc) λo h1 h2 h3 n h4 h5=>?_;exact⟨o,h1,o3.le h2 hd,o3.le h3 hd,n,az h4 l,h5.le hd⟩
theorem nv.tl{h s:Nat}{t:V}(g:nv h s t)(k:h<=8):mX t:=⟨nn (by omega) g.sh,g.tup⟩
theorem nv.tr{h s:Nat}{t:V}(g:nv h s t)(k:h<=8):Tr t:=⟨g.tl k,g.pl⟩
theorem head_ne{h:Nat}(hh:h∈heads):h≠42:=by
 intro e;subst e;exact absurd hh (by decide)
theorem placed{h:Nat}{t:V}(hh:h≠42)(e:∃l,t=.tup (.sym h::.int sp::l)):Placed t:=⟨sp,e.elim λl e=>⟨h,l,e,hh⟩⟩
theorem nv.node{h hd:Nat}{t:V}(k:h<=8)(hh:hd∈heads)(e:∃l,t=.tup (.sym hd::.int sp::l))(sh:nM (5+3 * h) t=true)(kk:∀c∈c3,∃o,o∈KO/\om c t o (dp h)/\n6 c t o (dp h)):nv h 0 t:=by
 have tup:∃l,t=.tup l:=e.elim λl e=>⟨_,e⟩;refine⟨sh,placed (head_ne hh) e,tup,λc hc=>?_⟩;refine nP (kk c hc) λo h1 h2 h3=>?_;exact⟨o,h1,h2,h3,0,bc _,.leaf hh e ⟨nn (by omega) sh,tup⟩ h1 h3⟩
theorem Ly{h k:Nat}:1<=5+3 * h+k:=az (az (by decide) (aN 5 (3 * h))) (aN _ k)
theorem q7{h n:Nat}(k:n<=14):dp h+n<=dp (h+1):=az (bd k _) (dv (cL 32 (14 * h) 14))
theorem vL{h:Nat}:32<=dp h:=aN 32 (14 * h)
theorem vK{h:Nat}:20<=dp h:=az (by decide) (aN 32 (14 * h))
theorem oH{n:Nat}(h:nD n l=true):nM (n+1) (.tup l)=true:=h
theorem m5{n:Nat}{v:V}(h:nM n v=true)(k:nD n l=true):nD n (v::l)=true:=by
 show (nM n v&&nD n l)=true;rw[h,k];rfl
section
variable {h s sp:Nat}{a b t:V}
theorem nv.cat(k:h<=7)(ks:s<=2)(ga:nv h s a)(gb:nv h s b):nv (h+1) (s+1) (sy sp a b):=by
 refine⟨?_,placed (h:=41) (by decide) ⟨_,rfl⟩,⟨_,rfl⟩,λc hc=>?_⟩
 .rw[show 5+3 * (h+1)=(5+3 * h+2)+1 from rfl];exact oH (m5 rfl (m5 rfl (m5 rfl (m5 (nn (aN _ _) ga.sh) (m5 (nn (aN _ _) gb.sh) rfl)))))
 .refine y5 (ga.k c hc) λx m0 l0 h0 n hn hs=>?_;refine n9 (gb.k c hc) λy m1 l1 h1 Z=>?_;have hb:mX b:=gb.tl (by omega);exact⟨nY x y,uN m0 m1,o3.le (R7 hc vK (ga.tl (by omega)) hb m0 m1 l0 l1) (q7 (by decide)),o3.le (hs.con hc vL (by omega) hb m1 h1) (q7 (by decide)),n+1,dg hn,(Kq.cat hs hb m1 h1).le (by unfold dp;omega)⟩
theorem nv.call1{nm:Nat}(k:h<=7)(hn:nm∈Hj)(ga:nv h s a):nv (h+1) 0 (nC sp nm (o8 nm++[a])):=by
 refine .node (hd:=44) (by omega) (by decide) ⟨_,rfl⟩ ?_ λc hc=>?_
 .rw[show 5+3 * (h+1)=(5+3 * h+2)+1 from rfl]
  have h2:nD (5+3 * h+1) (o8 nm++[a])=true:=by
   have h3:=nn (m:=5+3 * h+1) (by omega) ga.sh;unfold o8
   split
   .exact m5 (nn (n:=1) Ly rfl) (m5 h3 rfl)
   .exact m5 h3 rfl
  exact oH (m5 rfl (m5 rfl (m5 rfl (m5 (oH h2) rfl))))
 .refine n9 (ga.k c hc) λx m0 l0 h0 Z=>?_;exact⟨_,NT hn m0,o3.le (Np hc hn vK (ga.tl (by omega)) m0 l0) (q7 (by decide)),o3.le (Nq hc hn vK (ga.tl (by omega)) m0 h0) (q7 (by decide))⟩
theorem nv.name{s:Nat}(hs:s∈wM):nv 0 0 (oq sp s):=
 .node (hd:=128) (by decide) (by decide) ⟨_,rfl⟩ rfl λc hc=>⟨_,OE hc hs,E7 hc hs,E8 hc hs⟩
noncomputable def ui:List Nat:=[160,20,192,175,178,188,108]
theorem sD{s:Nat}(h:s∈ui):s∈wM:=by
 have hk:(ui.all λs=>decide (s∈wM))=true:=by decide
 exact of_decide_eq_true (wD hk h)
theorem zW{s:Nat}(hc:c∈c3)(h:s∈ui):nK c s∈NO:=by
 have hk:(c3.all λc=>ui.all λs=>Hi NO (nK c s))=true:=by kernel_rfl
 exact qt (tm hk hc h)
theorem nv.call2{s1:Nat}(k:h<=7)(hs:s1∈ui)(ga:nv h s a):nv (h+1) 0 (nC sp 27 [oq 1 s1,a]):=by
 refine .node (hd:=44) (by omega) (by decide) ⟨_,rfl⟩ ?_ λc hc=>?_
 .rw[show 5+3 * (h+1)=(5+3 * h+2)+1 from rfl];exact oH (m5 rfl (m5 rfl (m5 rfl (m5 (oH (m5 (nn (n:=1) Ly rfl) (m5 (nn (aN _ _) ga.sh) rfl))) rfl))))
 .refine n9 (ga.k c hc) λx m0 l0 h0 Z=>?_;have hn:=zW hc hs;have ht:mX (oq 1 s1):=⟨rfl,_,rfl⟩;exact⟨_,Hw hn m0,o3.le (Nr hc vK ht (ga.tl (by omega)) hn m0 (o3.le (E7 hc (sD hs)) vL) l0) (q7 (by decide)),o3.le (Nt hc vK ht (ga.tl (by omega)) hn m0 (o3.le (E8 hc (sD hs)) vL) h0) (q7 (by decide))⟩
theorem nv.call3{s1 s2:Nat}(k:h<=7)(hs:s1∈ui)(Xu:s2∈ui)(ga:nv h s a):nv (h+1) 0 (nC sp 27 [oq 1 s1,oq 1 s2,a]):=by
 refine .node (hd:=44) (by omega) (by decide) ⟨_,rfl⟩ ?_ λc hc=>?_
 .rw[show 5+3 * (h+1)=(5+3 * h+2)+1 from rfl];exact oH (m5 rfl (m5 rfl (m5 rfl (m5 (oH (m5 (nn (n:=1) Ly rfl) (m5 (nn (n:=1) Ly rfl) (m5 (nn (aN _ _) ga.sh) rfl)))) rfl))))
 .refine n9 (ga.k c hc) λx m0 l0 h0 Z=>?_;have ht:∀s,mX (oq 1 s):=λs=>⟨rfl,_,rfl⟩;exact⟨none,ah,o3.le (Nu hc vK (ht _) (ht _) (ga.tl (by omega)) (zW hc hs) (zW hc Xu) (o3.le (E7 hc (sD hs)) vL) (o3.le (E7 hc (sD Xu)) vL) l0) (q7 (by decide)),o3.le (Nv hc vK (ht _) (ht _) (ga.tl (by omega)) (o3.le (E8 hc (sD hs)) vL) (o3.le (E8 hc (sD Xu)) vL) h0) (q7 (by decide))⟩
theorem xa:∃hd,hd∈heads/\∃r,sM tw sp l=.tup (.sym hd::.int sp::r):=by
 cases tw
 .exact⟨26,by decide,_,rfl⟩
 .exact⟨28,by decide,_,rfl⟩
theorem C9{n:Nat}(h:nD n l=true):nM (n+3) (sM tw sp l)=true:=by
 cases tw
 .exact oH (m5 rfl (m5 rfl (m5 (nn (by omega) (oH h)) rfl)))
 .exact oH (m5 rfl (m5 rfl (m5 (oH (m5 (oH h) (m5 (oH h) rfl))) rfl)))
theorem nv.arr0:nv 0 0 (sM tw sp []):=by
 refine mO (xa (sp:=sp) (tw:=tw) (l:=[])) λhd h1 h2=>?_;exact .node (by decide) h1 h2 (C9 (n:=2) rfl) λc hc=>⟨_,(by cases tw<;>simp [AU,r6,KO,KS]),PY hc,PZ hc⟩
theorem nv.arr1(k:h<=7)(ga:nv h s a):nv (h+1) 0 (sM tw sp [a]):=by
 refine mO (xa (sp:=sp) (tw:=tw) (l:=[a])) λhd h1 h2=>?_;refine .node (by omega) h1 h2 (by rw[show 5+3 * (h+1)=(5+3 * h)+3 from rfl];exact C9 (m5 ga.sh rfl)) λc hc=>?_;refine n9 (ga.k c hc) λx m0 l0 h0 Z=>?_;exact⟨_,FR (Dk m0),o3.le (P0 hc (ga.tl (by omega)) m0 l0) (q7 (by decide)),o3.le (P1 hc (ga.tl (by omega)) ga.pl m0 h0) (q7 (by decide))⟩
theorem nv.arr2(k:h<=7)(ga:nv h s a)(gb:nv h s b):nv (h+1) 0 (sM tw sp [a,b]):=by
 refine mO (xa (sp:=sp) (tw:=tw) (l:=[a,b])) λhd h1 h2=>?_;refine .node (by omega) h1 h2 (by rw[show 5+3 * (h+1)=(5+3 * h)+3 from rfl];exact C9 (m5 ga.sh (m5 gb.sh rfl))) λc hc=>?_;refine n9 (ga.k c hc) λx m0 l0 h0 Z=>?_;refine n9 (gb.k c hc) λy m1 l1 h1 Z=>?_;exact⟨_,FR (zH m0 m1),o3.le (P2 hc vK (ga.tl (by omega)) (gb.tl (by omega)) m0 m1 l0 l1) (q7 (by decide)),o3.le (P3 hc vK (ga.tl (by omega)) (gb.tl (by omega)) ga.pl gb.pl m0 m1 h0 h1) (q7 (by decide))⟩
noncomputable def MR:V->Bool
 |.tup (.sym s::.int (.ofNat n)::l)=>!(s==42)
 |_=>false
theorem GY{v:V}(h:MR v=true):∃s n l,v=.tup (.sym s::.int (.ofNat n)::l)/\(!(s==42))=true:=by
 cases v with
 |tup l=>
  cases l with
  |nil=>exact mP h
  |cons a l=>
   cases a with
   |sym s=>
    cases l with
    |nil=>exact mP h
    |cons b l=>
     cases b with
     |int i=>
      cases i with
      |ofNat n=>exact⟨s,n,l,rfl,h⟩
      |negSucc _=>exact mP h
     |_=>exact mP h
   |_=>exact mP h
 |_=>exact mP h
set_option tactic.hygienic true in
theorem w0{p:V×(Nat->Option Kd)}(hp:p∈re):Tr p.1/\nM 4 p.1=true:=by
 have hk:(re.all λp=>nM 4 p.1&&MR p.1)=true:=by kernel_rfl
 have h:=b2 (wD hk hp);refine⟨?_,h.1⟩;refine oI (GY h.2) λs n l e h2=>⟨⟨nn (by decide) h.1,_,e⟩,n,s,l,e,λhh=>?_⟩;rw[hh] at h2;exact nomatch h2
theorem Ia{q m:Option Kd}(h:m∈KO):wF sh q m∈KO:=by
 unfold wF
 cases yz q with
 |none=>exact ah
 |some v=>exact EV h
theorem Ib{q r m:Option Kd}(h:m∈KO):ue sh q r m∈KO:=by
 unfold ue
 cases yz q with
 |none=>exact ah
 |some v=>cases yz r with
  |none=>exact ah
  |some w=>exact EV h
theorem nv.if1{p:V×(Nat->Option Kd)}(k:h<=7)(hp:p∈re)(ga:nv h s a)(gb:nv h s b):nv (h+1) 0 (A2 sp [rm p.1 a] b):=by
 refine nE (w0 hp) λht hv=>?_;refine .node (hd:=91) (by omega) (by decide) ⟨_,rfl⟩ ?_ λc hc=>?_
 .rw[show 5+3 * (h+1)=(5+3 * h+2)+1 from rfl];exact oH (m5 rfl (m5 rfl (m5 (oH (m5 (oH (m5 (nn (by omega) hv) (m5 ga.sh rfl))) rfl)) (m5 (nn (aN _ _) gb.sh) rfl))))
 .refine n9 (ga.k c hc) λx m0 l0 h0 Z=>?_;refine n9 (gb.k c hc) λy m1 l1 h1 Z=>?_;exact⟨_,Ia (qG m0 m1),o3.le (Sw hc vK ht (ga.tr (by omega)) (gb.tr (by omega)) (sK hc hp) m0 m1 (o3.le (JT hc hp) vL) l0 l1) (q7 (by decide)),o3.le (Sx hc vK ht (ga.tr (by omega)) (gb.tr (by omega)) (sK hc hp) m0 m1 (o3.le (JU hc hp) vL) h0 h1) (q7 (by decide))⟩
theorem nv.if2{p q:V×(Nat->Option Kd)}(k:h<=7)(hp:p∈re)(hq:q∈re)(ga:nv h s a)(gt:nv h s t)(gb:nv h s b):nv (h+1) 0 (A2 sp [rm p.1 a,rm q.1 t] b):=by
 refine nE (w0 hp) λht hv=>?_;refine nE (w0 hq) λVD ZI=>?_;refine .node (hd:=91) (by omega) (by decide) ⟨_,rfl⟩ ?_ λc hc=>?_
 .rw[show 5+3 * (h+1)=(5+3 * h+2)+1 from rfl];exact oH (m5 rfl (m5 rfl (m5 (oH (m5 (oH (m5 (nn (by omega) hv) (m5 ga.sh rfl))) (m5 (oH (m5 (nn (by omega) ZI) (m5 gt.sh rfl))) rfl))) (m5 (nn (aN _ _) gb.sh) rfl))))
 .refine n9 (ga.k c hc) λx m0 l0 h0 Z=>?_;refine n9 (gb.k c hc) λy m1 l1 h1 Z=>?_;refine n9 (gt.k c hc) λz m2 l2 h2 Z=>?_
  exact⟨_,Ib (qG (qG m0 m2) m1),o3.le (Sy hc vK ht (ga.tr (by omega)) VD (gt.tr (by omega)) (gb.tr (by omega)) (sK hc hp) (sK hc hq) m0 m2 m1 (o3.le (JT hc hp) vL) l0 (o3.le (JT hc hq) vL) l2 l1) (q7 (by decide)),
   o3.le (Sz hc vK ht (ga.tr (by omega)) VD (gt.tr (by omega)) (gb.tr (by omega)) (sK hc hp) (sK hc hq) m0 m2 m1 (o3.le (JU hc hp) vL) h0 (o3.le (JU hc hq) vL) h2 h1) (q7 (by decide))⟩
theorem nv.comp0{s:Nat}{b:V}(hs:s∈Gh)(hb:mX b)(hv:nM 4 b=true):nv 0 0 (qb s b):=
 .node (hd:=55) (sp:=2) (by decide) (by decide) ⟨_,rfl⟩ (oH (m5 rfl (m5 rfl (m5 rfl (m5 rfl (m5 rfl (m5 hv rfl))))))) λc hc=>⟨none,ah,NA hc hs hb,NB hc hs hb⟩
theorem nv.comp1{s b:Nat}{w:Bool}(hs:s∈B0)(hb:b∈sj):nv 0 0 (qb s (rM w b)):=
 .node (hd:=55) (sp:=2) (by decide) (by decide) ⟨_,rfl⟩ (by cases w<;>rfl) λc hc=>⟨_,Nn hc hs hb,NC hc hs hb,ND hc hs hb⟩
end
end
section
open L2
noncomputable def qc(xs:List Int)(p:Int):O:=.dict [(48,.lst (xs.map .int)),(144,.int p)]
section
variable {P:Pg}{C:Call}{q:Bool}{E:Unit->St->Prop}{Q:V->St->Prop}
theorem Ey{i:Nat}{v:V}(e:ρ[i]?.join=some v)(h:Q v σ):WR (dE P q C (.var i) ρ σ) Q E:=WR.of e h
theorem A5{v:V}(h:Q v σ):WR (dE P q C (.lit v) ρ σ) Q E:=h
theorem PE{i:Nat}{v k w:V}(e:ρ[i]?.join=some v)(e':tL P σ v k=some w)(h:Q w σ):WR (dE P q C (.idx (.var i) (.lit k)) ρ σ) Q E:=PD (Ey e (A5 (WR.of e' h)))
theorem yp{op:Kn}{a b:MX}{v w u:V}(ha:dE P q C a ρ σ=.ok v σ)(hb:dE P q C b ρ σ=.ok w σ)(e:wv P σ op v w=some u):dE P q C (.bin op a b) ρ σ=.ok u σ:=by
 show (dE P q C a ρ σ).bind (λa σ=>(dE P q C b ρ σ).bind λb σ=>R.of (wv P σ op a b) σ)=_;rw[ha];show (dE P q C b ρ σ).bind _=_;rw[hb];show R.of (wv P σ op v w) σ=_;rw[e];rfl
end
theorem KV{xs:List Int}{p:Int}{k:Nat}(e:σ[m]?=some (qc xs p))(h0:0<=p)(h1:p<=200000)(hk:0 < k):
  WR (oP pg (d+1) false 37 [.obj m,.int k] σ) (λv τ=>∃r:Nat,r < k/\v=.int r/\τ=σ.set m (qc xs (p+1))) λZ Z=>False:=by
 have hm:m < σ.length:=(aq.mp e).1
 have hd:dictAt σ m=some [(48,.lst (xs.map .int)),(144,.int p)]:=by show (σ[m]?).bind _=_;rw[e];rfl
 have ok:∀a:Int,∃r:Nat,r < k/\V.int (a % (k:Int))=.int r:=λa=>⟨(a % k).toNat,by
  exact (jY (la a (jX (gq.mpr hk)))).mpr (Int.emod_lt_of_pos a (gq.mpr hk)),by
  have h1:=la a (b:=k) (jX (gq.mpr hk))
  exact congrArg V.int (bV h1).symm⟩
 have hx:∀{n:Nat} {v:V},qj [(48,V.lst (xs.map .int)),(144,.int p)] n=some v->tL pg σ (.obj m) (.sym n)=some v:=λ{n v} h=>by
  show (dictAt σ m).bind (λl=>qj l n)=some v;rw[hd];exact h
 have hs:yb σ (.obj m) (.sym 144) (.int (p+1))=some (σ.set m (qc xs (p+1))):=by
  show (dictAt σ m).bind _=_;rw[hd];rfl
 refine WR.call rfl rfl (ug (EA (yG (qC ?_))));refine PE (v:=.obj m) rfl (hx rfl) (qC ?_);refine PE (v:=.obj m) rfl (hx rfl) (w1 ⟨rfl,?_⟩);refine WR.val (a:=[some (.obj m),some (.int k),some (.lst (xs.map .int)),some (.int p)]) (σ:=σ) rfl (tj (ug (EA ?_)));refine WR.val (a:=.int (p+1)) (σ:=σ) rfl ?_;refine WR.val (a:=[some (.obj m),some (.int k),some (.lst (xs.map .int)),some (.int p)]) (σ:=σ.set m (qc xs (p+1))) ?_ (tj (ug (PQ ?_)))
 .show R.opt (yb σ (.obj m) (.sym 144) (.int (p+1))) _=_;rw[hs];rfl
 refine WR.val (a:=decide (p < ((xs.map V.int).length:Nat))) (σ:=σ.set m (qc xs (p+1))) rfl ?_
 cases hlt:decide (p < ((xs.map V.int).length:Nat)) with
 |true=>
  have hlt:=of_decide_eq_true hlt;rw[aU] at hlt;refine WR.iteT rfl (ug (Hr ?_));have hi:p.toNat < xs.length:=(jY h0).mpr hlt
  have Ur:Hf (xs.map V.int) p=some (.int (xs[p.toNat])):=by
   unfold Hf;rw[if_pos h0,br,au hi];rfl
  refine mO (ok xs[p.toNat]) λr hr er=>?_;refine WR.val (a:=.int r) (σ:=σ.set m (qc xs (p+1))) ?_ ?_
  .refine yp (v:=.int (xs[p.toNat])) (w:=.int k) ?_ rfl ?_
   .show R.of (orElse none (orElse (Hf (xs.map V.int) p) _)) _=_;rw[Ur];rfl
   .show og (0 < (k:Int)) _=_;rw[<-er];exact if_pos (gq.mpr hk)
  .exact EB (EB ⟨r,hr,rfl,rfl⟩)
 |false=>
  refine WR.iteF rfl (M8 (tj (ug (Hr ?_))));refine mO (ok ((5 * p * p+11 * p+3 * ((xs.map V.int).length:Nat)+4) % 89)) λr hr er=>?_;refine WR.val (a:=.int r) (σ:=σ.set m (qc xs (p+1))) ?_ ?_
  .refine yp (v:=.int ((5 * p * p+11 * p+3 * ((xs.map V.int).length:Nat)+4) % 89)) (w:=.int k) ?_ rfl (by show og (0 < (k:Int)) _=_;rw[<-er];exact if_pos (gq.mpr hk));refine yp (v:=.int (5 * p * p+11 * p+3 * ((xs.map V.int).length:Nat)+4)) (w:=.int 89) ?_ rfl rfl;refine yp (v:=.int (5 * p * p+11 * p+3 * ((xs.map V.int).length:Nat))) (w:=.int 4) ?_ rfl rfl;refine yp (v:=.int (5 * p * p+11 * p)) (w:=.int (3 * ((xs.map V.int).length:Nat))) ?_ ?_ rfl
   .refine yp (v:=.int (5 * p * p)) (w:=.int (11 * p)) ?_ ?_ rfl
    .refine yp (v:=.int (5 * p)) (w:=.int p) ?_ rfl ?_
     .exact yp (v:=.int 5) (w:=.int p) rfl rfl rfl
     .show orElse (og (-1000000<=5 * p/\5 * p<=1000000) _) _=_;unfold og;rw[if_pos ⟨bP (by decide) (Int.mul_nonneg (by decide) h0),bP (Int.mul_le_mul_of_nonneg_left h1 (by decide)) (by decide)⟩];rfl
    .exact yp (v:=.int 11) (w:=.int p) rfl rfl rfl
   .exact yp (v:=.int 3) (w:=.int ((xs.map V.int).length:Nat)) rfl rfl rfl
  .exact EB ⟨r,hr,rfl,rfl⟩
end
section
open L2
structure qP where
 f:Nat
 as:List V
 vals:List V
 fr:Option Nat
 inc:Nat
structure oG(T:Nat->V->Prop)(D:Nat)(w:qP):Prop where
 wf:(oh w.as&&oh w.vals)=true
 run:∀{d m:Nat} {σ':St} {xs:List Int} {p:Int},D<=d->σ'[m]?=some (qc xs p)->0<=p->p+w.inc<=200000->WR (oP pg d false w.f (.obj m::w.as) σ') (λv T0=>(v∈w.vals\/∃t,w.fr=some t/\T t v)/\∃xs' p',T0[m]?=some (qc xs' p')/\0<=p'/\p'<=p+w.inc/\σ'.length<=T0.length/\∀i,i < σ'.length->i≠m->T0[i]?=σ'[i]?) λZ Z=>False
theorem oG.le{T':Nat->V->Prop}{D':Nat}{w:qP}(h:oG T D w)(k:D<=D')(hT:∀t v,T t v->T' t v):oG T' D' w:=⟨h.wf,λhd e h0 h1=>WR.mono (h.run (az k hd) e h0 h1) (λv T0 zq=>nE zq λa b=>⟨a.imp id λzq=>m4 zq λt a=>⟨t,a.1,hT _ _ a.2⟩,b⟩) λZ Z h=>h⟩
theorem oG.fresh{T':Nat->V->Prop}{f inc t:Nat}{as vals:List V}{fr:Option Nat}(h:oG T D ⟨f,as,vals,fr,inc⟩)(hT:∀v∈vals,T' t v)(hT':∀u v,fr=some u->T u v->T' t v):oG T' D ⟨f,as,[],some t,inc⟩:=⟨by have:=(b2 h.wf).1;show (oh as&&true)=true;rw[this];rfl,λhd e h0 h1=>WR.mono (h.run hd e h0 h1) (λv T0 zq=>nE zq λa b=>⟨.inr ⟨t,rfl,a.elim (hT v) λ⟨u,a1,a2⟩=>hT' u v a1 a2⟩,b⟩) λZ Z h=>h⟩
noncomputable def QB(w:qP)(n:Nat)(σ:St):N Unit V:=λk Z=>(w.vals.all λv=>k v (σ.set 0 (.inst 996 (n+w.inc))))&&(match w.fr with
 |some t=>k (.obj σ.length) (σ.set 0 (.inst 996 (n+w.inc))++[.inst 994 t])
 |none=>true)
noncomputable def QA(We f n:Nat)(as:List V)(rows:List qP):Option qP:=rows.find? λw=>w.f==f&&(decide (n+w.inc<=We)&&x9 [] w.as as)
noncomputable def Ss(We:Nat)(rows:List qP)(f:Nat)(as:List V)(σ:St):Option (N Unit V):=match σ[(0:Nat)]? with
 |some (.inst c n)=>if c=996 then (QA We f n as rows).map λw=>QB w n σ else none
 |_=>none
noncomputable def yu(We:Nat)(rows:List qP):PN:=λq f args σ=>if q then none else match args with
 |v::as=>match v with
  |.obj n=>if n=0 then Ss We rows f as σ else none
  |_=>none
 |_=>none
noncomputable def KG(T:Nat->V->Prop)(hT:∀t v,T t v->mX v)(B m:Nat):Ctx:=⟨T,λt v h=>hT t v h,B,[.obj m]⟩
section
variable {hT:∀t v,T t v->mX v}{B:Nat}
theorem KG.zero(H:nR (KG T hT B m) ι σ σ'):ι[0]?=some (.obj m):=by
 refine m4 H.base λκ e=>?_;rw[e];rfl
theorem KG.feed(H:nR (KG T hT B m) ι σ σ'){n:Nat}(e:σ[0]?=some (.inst 996 n)):∃xs p,σ'[m]?=some (qc xs p)/\0<=p/\p<=B+n:=by
 have h:=P5 H e (by decide) (KG.zero H);unfold Sp at h;rw[if_neg (by decide),if_neg (by decide),if_pos rfl] at h;refine mU h λxs p h1 h2 h3=>?_;exact⟨xs,p,h1,h2,h3⟩
theorem KG.step(H:nR (KG T hT B m) ι σ σ'){n n':Nat}(e:σ[0]?=some (.inst 996 n)){xs:List Int}{p:Int}(e1:T0[m]?=some (qc xs p))(h0:0<=p)(h1:p<=B+n')(hl:σ'.length<=T0.length)(hf:∀i,i < σ'.length->i≠m->T0[i]?=σ'[i]?):nR (KG T hT B m) ι (σ.set 0 (.inst 996 n')) T0/\ti ι σ' ι T0:=by
 have hz:=KG.zero H;refine⟨⟨H.base,by rw[bG];exact H.len,H.inj,λi o ei=>?_⟩,⟨⟨[],(ba _).symm,λZ h=>nomatch h⟩,hl,λi hi hn=>hf i hi λh=>hn (by rw[h];exact aF hz)⟩⟩
 by_cases hi:0=i
 .subst hi;rw[bh (aq.mp e).1] at ei;refine⟨_,hz,?_⟩;rw[<-ae ei];unfold oz;dsimp only;rw[if_neg (by decide)];unfold Sp;rw[if_neg (by decide),if_neg (by decide),if_pos rfl];exact⟨xs,p,e1,h0,h1⟩
 .rw[bl hi] at ei;refine mO (H.slot i o ei) λv e2 h2=>?_;refine⟨v,e2,?_⟩
  have:um T0 v=um σ' v:=by
   rcases h2.is with ⟨l,e3⟩ | ⟨j,o',e3,e4⟩
   .rw[e3];rfl
   .rw[e3];refine hf j (aq.mp e4).1 λhj=>hi ?_;exact H.inj 0 i m hz (by rw[e2,e3,hj])
  rw[this];exact h2
theorem KG.know(H:nR (KG T hT B m) ι σ σ'){v:V}{t:Nat}(hv:T t v):nR (KG T hT B m) (ι++[v]) (σ++[.inst 994 t]) σ'/\ti ι σ' (ι++[v]) σ':=by
 refine m4 ((hT t v hv).2) λl e=>?_
 have no:∀{i j:Nat},(ι++[v])[i]?=some (V.obj j)->ι[i]?=some (V.obj j):=λ{i j} e1=>by
  rcases bE i ι.length with hi | hi
  .rw[ay hi] at e1;exact e1
  .rw[aE hi] at e1;have:=am.mp (aF e1);rw[e] at this;exact nomatch this
 refine⟨⟨H.base.elim λκ h=>⟨κ++[v],by rw[h,aP]⟩,by rw[aL,aL,H.len];rfl,λi j k ei ej=>H.inj i j k (no ei) (no ej),λn o eo=>?_⟩,⟨⟨[v],rfl,λj h=>?_⟩,aQ _,λZ Z Z=>rfl⟩⟩
 .rcases bE n σ.length with hn | hn
  .rw[ay hn] at eo;refine mO (H.slot n o eo) λw e1 h1=>?_;exact⟨w,by rw[ay (aq.mp e1).1];exact e1,h1.mono ⟨_,rfl⟩⟩
  .rw[aE hn] at eo;have hz:n - σ.length=0:=gM.mp (aq.mp eo).1;rw[hz] at eo;rw[<-ae eo];refine⟨v,by rw[aE (by rw[H.len];exact hn),H.len,hz];rfl,?_⟩;unfold oz;dsimp only;rw[if_neg (by decide)];unfold Sp;rw[if_pos (show xo 994=true from rfl)];exact⟨hv,trivial⟩
 .have:=am.mp h;rw[e] at this;exact nomatch this
set_option tactic.hygienic true in
theorem K6{We:Nat}{rows:List qP}(hr:∀w∈rows,oG T D w)(hB:B+We<=200000):w2 (KG T hT B m) pg (yu We rows) D:=by
 intro q f args σ mm e d ι σ' Ud hd H hv;unfold yu at e
 cases q with
 |true=>exact mV e
 |false=>cases args with
  |nil=>exact mV e
  |cons a as=>cases a with
   |obj n0=>
    replace e:(if n0=0 then Ss We rows f as σ else none)=some mm:=e
    split at e
    .rename_i ZP;subst ZP;unfold Ss at e
     split at e
     .rename_i c n e0
      split at e
      .rename_i hc;subst hc;refine mO (ms e) λw e1 e2=>?_;have hw:=hr w (gX e1);have h:=b2 (show (w.f==f&&_)=true from lf (p:=λw:qP=>w.f==f&&(decide (n+w.inc<=We)&&x9 [] w.as as)) e1);have h1:=b2 h.2;have ZU:=of_decide_eq_true h1.1;refine mU (KG.feed H e0) λxs p f1 f2 f3=>?_;refine mU (nW hv) λv' W3 e3 e4 e5=>?_;have e4:ι[0]?=some v':=e4;rw[KG.zero H] at e4;have e6:sb [] (.tup w.as)=sb ι (.tup as):=rq (ps:=[]) (κ:=[]) (λi n e=>mV e) h1.2;have wf:=b2 hw.wf
       have e7:W3=w.as:=by
        have e8:oA [] w.as=some w.as:=qf wf.1;have e9:(oA [] w.as).map V.tup=(oA ι as).map V.tup:=e6;rw[e8,e5] at e9;exact (ae (congrArg pQ (ae e9))).symm
       have hc:=hw.run hd f1 f2 (by omega);rw[e3,<-ae e4,e7,<-e2,<-eq_of_beq h.1];intro k x c;have c:=b2 c;refine WR.mono hc (λv T0 zq=>uw zq λa xs' p' g1 g2 g3 g4 g5=>?_) λZ Z h=>h.elim;refine nE (KG.step H e0 (n':=n+w.inc) g1 g2 (by omega) g4 g5) λH1 E1=>?_
       rcases a with a | ⟨t,a1,a2⟩
       .refine⟨ι,v,_,E1,H1,?_,aJ.mp c.1 v a⟩
        have hcl:∀l:List V,oh l=true->v∈l->pZ v=true:=λl=>by
         induction l with
         |nil=>exact λZ h=>nomatch h
         |cons u l ih=>
          intro hl hm;have hl:=b2 hl
          rcases aA.mp hm with e | e
          .rw[e];exact hl.1
          .exact ih hl.2 e
        exact o7 (hcl _ wf.2 a)
       .refine nE (KG.know H1 a2) λH2 E2=>?_;have c2:=c.2;rw[a1] at c2;refine⟨ι++[v],.obj σ.length,_,E1.trans E2,H2,?_,c2⟩;show (ι++[v])[σ.length]?=some v;rw[<-H.len,aE (aQ _),dB];rfl
      .exact mV e
     .exact mV e
    .exact mV e
   |_=>exact mV (show none=some mm from e)
set_option tactic.hygienic true in
theorem vO{n:Nat}{rows:List qP}{w:qP}{T':Nat->V->Prop}(XH:∀t v,T t v->mX v)(hw:(oh w.as&&oh w.vals)=true)(hr:∀r∈rows,oG T D r)(ck:V->St->Bool)(YG:∀{ι:List V} {σ σ':St} {a b:V} {B m:Nat},nR (KG T XH B m) ι σ σ'->ck a σ=true->sb ι a=some b->b∈w.vals\/∃t,w.fr=some t/\T' t b)(hrun:q9 pg (yu w.inc rows) n false w.f (.obj 0::w.as) [.inst 996 0] (λv σ=>ck v σ&&(match σ[(0:Nat)]? with
   |some (.inst c n)=>c==996&&decide (n<=w.inc)
   |_=>false)) (λZ Z=>false)=true):oG T' (D+n) w:=⟨hw,λ{d m σ' xs p} hd e h0 h1=>by
 refine m4 (Int.eq_ofNat_of_zero_le h0) λB T6=>?_;subst T6
 have H:nR (KG T XH B m) [.obj m] [.inst 996 0] σ':=by
  refine⟨⟨[],rfl⟩,rfl,λi j k ei ej=>?_,λi o ei=>?_⟩
  .have h1:=(aq.mp ei).1;have h2:=(aq.mp ej).1;rw[List.length_singleton] at h1 h2;omega
  .have h1:i < 1:=(aq.mp ei).1
   have h2:i=0:=by omega
   subst h2;refine⟨_,rfl,?_⟩;rw[<-ae ei];unfold oz;dsimp only;rw[if_neg (by decide)];unfold Sp;rw[if_neg (by decide),if_neg (by decide),if_pos rfl];refine⟨xs,B,e,h0,?_⟩;show (B:Int)<=B+(0:Nat);omega
 have wf:=b2 hw;have ho:w2 (KG T XH B m) pg (yu w.inc rows) D:=K6 hr (by omega);refine WR.mono (vc sJ ho n hd H (m6 (v:=.obj 0) (v':=.obj m) rfl (qf wf.1)) _ _ hrun) (λb T0 zq=>mZ zq λTZ a τ E G hv hb=>?_) λZ T0 zq=>mZ zq λTZ a τ E G Z hb=>mP hb;have hb:=b2 hb;refine⟨YG G hb.1 hv,?_⟩;have h2:=hb.2
 split at h2
 .rename_i c n' e2;have h2:=b2 h2;have hc:=eq_of_beq h2.1;subst hc;refine mU (KG.feed G e2) λxs' p' g1 g2 g3=>?_;have h3:=of_decide_eq_true h2.2;refine⟨xs',p',g1,g2,by omega,E.len,λi hi hn=>E.fr i hi λhh=>?_⟩;exact hn (sV (am.mp hh))
 .exact mP h2⟩
end
end
section
open L2
mutual
noncomputable def ON:V->List Nat
 |.obj n=>[n]
 |.tup l=>Jp l
 |.lst l=>Jp l
 |_=>[]
noncomputable def Jp:List V->List Nat
 |[]=>[]
 |v::l=>ON v++Jp l
end
noncomputable def AR(σ:St):List Nat->List Nat->Bool
 |[],ts=>match ts with
  |[]=>true
  |_=>false
 |n::ns,ts=>match ts with
  |t::ts=>(match σ[n]? with
   |some (.inst c d)=>c==994&&d==t
   |_=>false)&&AR σ ns ts
  |_=>false
noncomputable abbrev sw:=V×List Nat
noncomputable def LP(l:List sw)(v:V)(σ:St):Bool:=l.any λs=>AR σ (ON v) s.2&&same (ON v) s.1 v
noncomputable def FZ(T:Nat->V->Prop):List Nat->List V->Prop
 |[],[]=>True
 |t::ts,x::κ=>T t x/\FZ T ts κ
 |_,_=>False
theorem pW{t:Nat}{ts:List Nat}{P:List V->Prop}(h:FZ T (t::ts) κ)(k:∀x U8,T t x->FZ T ts U8->P (x::U8)):P κ:=by
 cases κ with
 |nil=>exact h.elim
 |cons x κ=>exact k x κ h.1 h.2
theorem sx{P:List V->Prop}(h:FZ T [] κ)(k:P []):P κ:=by
 cases κ with
 |nil=>exact k
 |cons x κ=>exact h.elim
theorem E4{k:Nat}(hk:k<=2):k∈[0,1,2]:=by
 rcases bE k 1 with h | h
 .rw[gM.mp h];exact ah
 .rcases bE k 2 with h' | h'
  .rw[cY (j1 h') h];exact ao _ ah
  .rw[cY hk h'];exact ao _ (ao _ ah)
def yn(T:Nat->V->Prop)(G:V->Prop)(s:sw):Prop:=∀κ b,FZ T s.2 κ->sb κ s.1=some b->G b
theorem qH{G:V->Prop}{s:sw}{l:List sw}(h:yn T G s)(k:∀s∈l,yn T G s):∀s'∈s::l,yn T G s':=λw hw=>by
 rcases aA.mp hw with e | e
 .rw[e];exact h
 .exact k w e
theorem Sv{G:V->Prop}:∀s∈([]:List sw),yn T G s:=λZ h=>nomatch h
theorem N5{G:V->Prop}{l l':List sw}(h:∀s∈l,yn T G s)(k:∀s∈l',yn T G s):∀s∈l++l',yn T G s:=λw hw=>(aG.mp hw).elim (h w) (k w)
theorem K7{G:V->Prop}{l:List α}{f:α->sw}(h:∀a∈l,yn T G (f a)):∀s∈l.map f,yn T G s:=λw hw=>by
 refine mO (bK.mp hw) λa h1 h2=>?_;rw[<-h2];exact h a h1
theorem N6{G:V->Prop}{l:List α}{f:α->List sw}(h:∀a∈l,∀s∈f a,yn T G s):∀s∈l.flatMap f,yn T G s:=λw hw=>by
 refine mO (List.mem_flatMap.mp hw) λa h1 h2=>?_;exact h a h1 w h2
section
variable {hT:∀t v,T t v->mX v}{B:Nat}
set_option tactic.hygienic true in
theorem zo(H:nR (KG T hT B m) ι σ σ'):∀{ns ts:List Nat},AR σ ns ts=true->FZ T ts (pk ns ι)/\∀n∈ns,n < ι.length
 |[],ts,h=>by
  cases ts with
  |nil=>exact⟨trivial,λZ h=>nomatch h⟩
  |cons _ _=>exact mP h
 |n::ns,ts,h=>by
  cases ts with
  |nil=>exact mP h
  |cons t ts=>
   have h:=b2 (show ((match σ[n]? with
    |some (.inst c d)=>c==994&&d==t
    |_=>false)&&AR σ ns ts)=true from h)
   refine nE (zo H h.2) λh1 h2=>?_;have h3:=h.1
   split at h3
   .rename_i c d e;have h3:=b2 h3;have hc:=eq_of_beq h3.1;have ht:=eq_of_beq h3.2;subst hc;subst ht;refine mO (H.slot n _ e) λv e1 Z=>?_;have h4:=tq H e rfl e1;refine⟨⟨?_,h1⟩,λi hi=>?_⟩
    .show T d ((ι[n]?).getD .none);rw[e1];exact h4.1
    .rcases aA.mp hi with e2 | e2
     .rw[e2];exact (aq.mp e1).1
     .exact h2 i e2
   .exact mP h3
theorem AJ{G:V->Prop}{l:List sw}(hs:∀s∈l,yn T G s)(H:nR (KG T hT B m) ι σ σ'){v b:V}(h:LP l v σ=true)(hv:sb ι v=some b):G b:=by
 refine mO (bU.mp h) λs h1 h2=>?_;have h2:=b2 h2;refine nE (zo H h2.1) λh3 h4=>?_;refine hs s h1 _ b h3 ?_;rw[rq (vn h4) h2.2];exact hv
end
theorem Qf{k:Nat}(hk:0 < k)(h:oh ((aM k).map λr:Nat=>V.int r)=true):oG T 1 ⟨37,[.int k],(aM k).map (λr:Nat=>.int r),none,1⟩:=⟨by show (true&&oh _)=true;rw[h];rfl,λ{d m σ' xs p} hd e h0 h1=>by
 refine m4 (Nat.exists_eq_add_of_le' hd) λd T6=>?_;subst T6;have h1:p+(1:Nat)<=200000:=h1;refine WR.mono (KV e h0 (by omega) hk) (λv T0 zq=>nP zq λr hr e1 e2=>?_) λZ Z h=>h;have hm:=(aq.mp e).1;refine⟨.inl (by rw[e1];exact bK.mpr ⟨r,lz.mpr hr,rfl⟩),xs,p+1,by rw[e2];exact bh hm,by omega,by show p+1<=p+(1:Nat);omega,by rw[e2,bG];exact aQ _,λi hi hn=>?_⟩
 rw[e2];exact bl λh=>hn h.symm⟩
noncomputable def Bt(k:Nat):qP:=⟨37,[.int k],(aM k).map (λr:Nat=>.int r),none,1⟩
noncomputable def Do:List qP:=[Bt 2,Bt 3,Bt 4,Bt 5,Bt 6,Bt 8,Bt 12]
theorem pf{w:qP}{l:List qP}(h:oG T D w)(k:∀w∈l,oG T D w):∀w'∈w::l,oG T D w':=λw' hw=>by
 rcases aA.mp hw with e | e
 .rw[e];exact h
 .exact k w' e
theorem yQ:∀w∈([]:List qP),oG T D w:=λZ h=>nomatch h
theorem By{l l':List qP}(h:∀w∈l,oG T D w)(k:∀w∈l',oG T D w):∀w∈l++l',oG T D w:=λw hw=>(aG.mp hw).elim (h w) (k w)
theorem uS(h:1<=D):∀w∈Do,oG T D w:=by
 have key:∀k,0 < k->oh ((aM k).map λr:Nat=>V.int r)=true->oG T D (Bt k):=λk h1 h2=>(Qf (T:=T) h1 h2).le h λZ Z h=>h;exact pf (key 2 (by decide) rfl) (pf (key 3 (by decide) rfl) (pf (key 4 (by decide) rfl) (pf (key 5 (by decide) rfl) (pf (key 6 (by decide) rfl) (pf (key 8 (by decide) rfl) (pf (key 12 (by decide) rfl) yQ))))))
noncomputable def dd:List Nat->List Nat
 |[]=>[]
 |a::l=>if (dd l).contains a then dd l else a::dd l
noncomputable def E9(l:List Nat):List V:=(dd (l++RP)).map (oq 1)
noncomputable def tF(l:List Nat):qP:=⟨38,[.tup (l.map .sym)],E9 l,none,2⟩
noncomputable def yY(t:Nat)(l:List Nat):qP:=⟨38,[.tup (l.map .sym)],[],some t,2⟩
noncomputable def yV:List (List Nat):=[[160,184,178],[155,188,178],[90,192,40],[160,160,20],[108,192,90],[20,184,155,188],[192,90],[192,160],[108,192,195],[192,90,195]]
theorem tG{l:List Nat}(hl:l∈yV):oG T 10 (tF l):=by
 have hw:(yV.all λl=>oh (tF l).as&&oh (tF l).vals)=true:=by kernel_rfl
 have hrun:(yV.all λl=>q9 pg (yu 2 Do) 6 false 38 (.obj 0::(tF l).as) [.inst 996 0] (λv σ=>((E9 l).any λu=>same [] u v)&&(match σ[(0:Nat)]? with
   |some (.inst c n)=>c==996&&decide (n<=2)
   |_=>false)) (λZ Z=>false))=true:=by kernel_rfl
 have hc:∀{l':List V} {u:V},oh l'=true->u∈l'->pZ u=true:=λ{l' u}=>by
  induction l' with
  |nil=>exact λZ h=>nomatch h
  |cons x l' ih=>
   intro h hm;have h:=b2 h
   rcases aA.mp hm with e | e
   .rw[e];exact h.1
   .exact ih h.2 e
 have hcl:=b2 (wD hw hl);refine oG.le (vO (D:=1) (n:=6) (rows:=Do) (T:=λZ=>mX) (λZ Z h=>h) (wD hw hl) (uS (aQ 1)) (λv Z=>(E9 l).any λu=>same [] u v) (λ{ι σ σ' a b B m} H h hb=>.inl ?_) (wD hrun hl)) (by decide) λZ Z h=>h;refine mO (bU.mp h) λu h1 h2=>?_;have e:sb ι u=sb ι a:=rq (ps:=[]) (κ:=ι) (λi n e=>mV e) h2;rw[o7 (hc hcl.2 h1),hb] at e;rw[<-ae e];exact h1
end
section
open L2
section
variable {G:V->Prop}{S:V}{t1 t2 t3 t4 t5:Nat}
theorem yP(h:∃b,sb κ S=some b/\G b){b:V}(e:sb κ S=some b):G b:=mO h λb' h1 h2=>ae (h1.symm.trans e)▸h2
theorem uX(h:∃b,sb [] S=some b/\G b):yn T G (S,[]):=λκ b hk=>sx (P:=λκ=>sb (κ) S=some b->G b) hk (yP h)
theorem rZ(h:∀x,T t1 x->∃b,sb [x] S=some b/\G b):yn T G (S,[t1]):=λκ b hk=>pW (P:=λκ=>sb (κ) S=some b->G b) hk λx κ hx hk=>sx (P:=λκ=>sb (x::κ) S=some b->G b) hk (yP (h x hx))
theorem Bx(h:∀x y,T t1 x->T t2 y->∃b,sb [x,y] S=some b/\G b):yn T G (S,[t1,t2]):=λκ b hk=>pW (P:=λκ=>sb (κ) S=some b->G b) hk λx κ hx hk=>pW (P:=λκ=>sb (x::κ) S=some b->G b) hk λy κ hy hk=>sx (P:=λκ=>sb (x::y::κ) S=some b->G b) hk (yP (h x y hx hy))
theorem QE(h:∀x y z,T t1 x->T t2 y->T t3 z->∃b,sb [x,y,z] S=some b/\G b):yn T G (S,[t1,t2,t3]):=λκ b hk=>pW (P:=λκ=>sb (κ) S=some b->G b) hk λx κ hx hk=>pW (P:=λκ=>sb (x::κ) S=some b->G b) hk λy κ hy hk=>pW (P:=λκ=>sb (x::y::κ) S=some b->G b) hk λz κ hz hk=>sx (P:=λκ=>sb (x::y::z::κ) S=some b->G b) hk (yP (h x y z hx hy hz))
theorem QF(h:∀x y z u,T t1 x->T t2 y->T t3 z->T t4 u->∃b,sb [x,y,z,u] S=some b/\G b):yn T G (S,[t1,t2,t3,t4]):=λκ b hk=>pW (P:=λκ=>sb (κ) S=some b->G b) hk λx κ hx hk=>pW (P:=λκ=>sb (x::κ) S=some b->G b) hk λy κ hy hk=>pW (P:=λκ=>sb (x::y::κ) S=some b->G b) hk λz κ hz hk=>pW (P:=λκ=>sb (x::y::z::κ) S=some b->G b) hk λu κ hu hk=>sx (P:=λκ=>sb (x::y::z::u::κ) S=some b->G b) hk (yP (h x y z u hx hy hz hu))
theorem QG(h:∀x y z u v,T t1 x->T t2 y->T t3 z->T t4 u->T t5 v->∃b,sb [x,y,z,u,v] S=some b/\G b):yn T G (S,[t1,t2,t3,t4,t5]):=λκ b hk=>pW (P:=λκ=>sb (κ) S=some b->G b) hk λx κ hx hk=>pW (P:=λκ=>sb (x::κ) S=some b->G b) hk λy κ hy hk=>pW (P:=λκ=>sb (x::y::κ) S=some b->G b) hk λz κ hz hk=>pW (P:=λκ=>sb (x::y::z::κ) S=some b->G b) hk λu κ hu hk=>pW (P:=λκ=>sb (x::y::z::u::κ) S=some b->G b) hk λv κ hv hk=>sx (P:=λκ=>sb (x::y::z::u::v::κ) S=some b->G b) hk (yP (h x y z u v hx hy hz hu hv))
end
theorem IK{l:List Nat}(hl:l∈yV){v:V}(hv:v∈E9 l):∃s,s∈wM/\v=oq 1 s:=by
 have h:(yV.all λl=>(dd (l++RP)).all λs=>decide (s∈wM))=true:=by decide
 refine mO (bK.mp hv) λs h1 h2=>?_;exact⟨s,of_decide_eq_true (wD (wD h hl) h1),h2.symm⟩
theorem xC{l:List Nat}{t:Nat}(hl:l∈yV)(h:∀v,nv 0 0 v->T t v):oG T 10 (yY t l):=
 oG.fresh (tG (T:=λZ Z=>False) hl) (λv hv=>by
  refine mO (IK hl hv) λs h1 h2=>?_
  rw[h2];exact h _ (.name h1)) λu v e=>mV e
noncomputable def N8(k:Nat):Nat:=if k=0 then 2 else if k=1 then 8 else if k=2 then 17 else 35
noncomputable def xb(k t:Nat):qP:=⟨40,[.int k],[],some t,N8 k⟩
def TA(k t:Nat)(v:V):Prop:=t=0/\nv k k v
noncomputable def Dj(w:Bool):List sw:=(B0.flatMap λs=>sj.map λb=>(qb s (rM w b),[]))++(Gh.flatMap λs=>sj.map λb=>(qb s (rM w b),[]))
noncomputable def SO:List sw:=(.obj 0,[0])::(sM false 3 [],[])::(sM false 3 [.obj 0],[0])::(sM false 3 [.obj 0,.obj 1],[0,0])::(sM true 3 [],[])::(sM true 3 [.obj 0],[0,0])::(sM true 3 [.obj 0,.obj 1],[0,0,0,0])::(sy 4 (.obj 0) (.obj 1),[0,0])::(nC 5 27 [.obj 0],[0])::(nC 6 27 [.obj 0],[0])::
 ((ui.map λs=>(nC 6 27 [oq 1 s,.obj 0],[0]))++((ui.flatMap λs=>ui.map λu=>(nC 6 27 [oq 1 s,oq 1 u,.obj 0],[0]))++Dj false))
theorem EG{w:Bool}{b:Nat}(hb:b∈sj):nM 4 (rM w b)=true/\mX (rM w b):=by
 cases w
 .exact⟨rfl,rfl,_,rfl⟩
 .exact⟨rfl,rfl,_,rfl⟩
theorem Bq{G:V->Prop}{w:Bool}(hG:∀v,nv 0 0 v->G v):∀s∈Dj w,yn T G s:=by
 refine N5 (N6 λs hs=>K7 λb hb=>uX ⟨qb s (rM w b),by cases w<;>rfl,hG _ (.comp1 hs hb)⟩) (N6 λs hs=>K7 λb hb=>uX ⟨qb s (rM w b),by cases w<;>rfl,hG _ (.comp0 hs (EG hb).2 (EG hb).1)⟩)
theorem OY{k:Nat}(hk:k<=2):∀s∈SO,yn (TA k) (nv (k+1) (k+1)) s:=by
 have up:∀{v:V},nv (k+1) 0 v->nv (k+1) (k+1) v:=λg=>g.mono (aQ _) (bc _);have up0:∀{v:V},nv 0 0 v->nv (k+1) (k+1) v:=λg=>g.mono (bc _) (bc _);refine qH (rZ λx hx=>⟨x,rfl,hx.2.mono (by omega) (by omega)⟩) (qH (uX ⟨_,rfl,up0 (.arr0 (tw:=false))⟩) (qH (rZ λx hx=>⟨_,rfl,up (.arr1 (tw:=false) (by omega) hx.2)⟩) (qH (Bx λx y hx hy=>⟨_,rfl,up (.arr2 (tw:=false) (by omega) hx.2 hy.2)⟩) ?_)));refine qH (uX ⟨_,rfl,up0 (.arr0 (tw:=true))⟩) (qH (Bx λx y hx hy=>⟨_,rfl,up (.arr1 (tw:=true) (by omega) hx.2)⟩) (qH (QF λx y z u hx hy hz hu=>⟨_,rfl,up (.arr2 (tw:=true) (by omega) hx.2 hy.2)⟩) ?_));refine qH (Bx λx y hx hy=>⟨_,rfl,.cat (by omega) hk hx.2 hy.2⟩) (qH (rZ λx hx=>⟨_,rfl,up (.call1 (nm:=27) (by omega) (by decide) hx.2)⟩) (qH (rZ λx hx=>⟨_,rfl,up (.call1 (nm:=27) (by omega) (by decide) hx.2)⟩) ?_));refine N5 (K7 λs hs=>rZ λx hx=>⟨_,rfl,up (.call2 (by omega) hs hx.2)⟩) (N5 (N6 λs hs=>K7 λu hu=>rZ λx hx=>⟨_,rfl,up (.call3 (by omega) hs hu hx.2)⟩) (Bq λv g=>up0 g))
noncomputable def Jz(k:Nat):List qP:=Do++(yY 0 [155,188,178]::yY 0 [90,192,40]::yY 0 [20,184,155,188]::tF [160,160,20]::tF [160,184,178]::tF [108,192,90]::xb k 0::[])
noncomputable def H5(inc:Nat)(ck:V->St->Bool)(v:V)(σ:St):Bool:=ck v σ&&(match σ[(0:Nat)]? with
 |some (.inst c n)=>c==996&&decide (n<=inc)
 |_=>false)
theorem Nf:oG (TA 0) 20 (xb 0 0):=by
 have hrun:q9 pg (yu 2 (Do++[yY 0 [20,184,155,188]])) 10 false 40 (.obj 0::(xb 0 0).as) [.inst 996 0] (H5 2 (LP [(.obj 0,[0])])) (λZ Z=>false)=true:=by kernel_rfl
 exact vO (T:=TA 0) (D:=10) (n:=10) (w:=xb 0 0) (λt v h=>h.2.tl (by decide)) rfl (By (uS (by decide)) (pf (xC (by decide) λv h=>⟨rfl,h⟩) yQ)) (LP [(.obj 0,[0])])
  (λ{ι σ σ' a b B m} H h hb=>.inr ⟨0,rfl,rfl,AJ (qH (rZ λx hx=>⟨x,rfl,hx.2⟩) Sv) H h hb⟩) hrun
theorem Ng{k:Nat}(hk:k<=2)(h:oG (TA k) (20+12 * k) (xb k 0)):oG (TA (k+1)) (20+12 * (k+1)) (xb (k+1) 0):=by
 have hrun:([0,1,2].all λk=>q9 pg (yu (N8 (k+1)) (Jz k)) 12 false 40 (.obj 0::(xb (k+1) 0).as) [.inst 996 0] (H5 (N8 (k+1)) (LP SO)) (λZ Z=>false))=true:=by kernel_rfl
 have f0:∀v,nv 0 0 v->TA k 0 v:=λv g=>⟨rfl,g.mono (bc _) (bc _)⟩;have hn:∀{w},oG (TA k) 10 w->oG (TA k) (20+12 * k) w:=λh=>h.le (by omega) λZ Z h=>h;exact vO (T:=TA k) (D:=20+12 * k) (n:=12) (rows:=Jz k) (w:=xb (k+1) 0) (λt v h=>h.2.tl (by omega)) rfl (By (uS (by omega)) (pf (hn (xC (by decide) f0)) (pf (hn (xC (by decide) f0)) (pf (hn (xC (by decide) f0)) (pf (hn (tG (by decide))) (pf (hn (tG (by decide))) (pf (hn (tG (by decide))) (pf h yQ))))))))
  (LP SO) (λ{ι σ σ' a b B m} H h hb=>.inr ⟨0,rfl,rfl,AJ (OY hk) H h hb⟩) (wD hrun (E4 hk))
theorem Da:∀k,k<=3->oG (TA k) (20+12 * k) (xb k 0)
 |0,_=>Nf
 |k+1,h=>Ng (by omega) (Da k (by omega))
end
section
open L2
noncomputable def yh:qP:=⟨41,[],re.map (·.1),none,4⟩
noncomputable def MT:qP:=⟨41,[],[],some 2,4⟩
theorem yX{u:V}:∀{l:List V},oh l=true->u∈l->pZ u=true
 |[],_,h=>nomatch h
 |x::l,h,hm=>by
  have h:=b2 h
  rcases aA.mp hm with e | e
  .rw[e];exact h.1
  .exact yX h.2 e
theorem O4:oG (λZ Z=>False) 30 yh:=by
 have hw:(oh yh.as&&oh yh.vals)=true:=by kernel_rfl
 have hrun:q9 pg (yu 4 (Do++(tF [192,90]::tF [192,160]::[]))) 10 false 41 (.obj 0::yh.as) [.inst 996 0] (H5 4 λv Z=>yh.vals.any λu=>same [] u v) (λZ Z=>false)=true:=by kernel_rfl
 refine oG.le (vO (T:=λZ=>mX) (D:=10) (n:=10) (w:=yh) (λZ Z h=>h) hw (By (uS (by decide)) (pf (tG (by decide)) (pf (tG (by decide)) yQ))) (λv Z=>yh.vals.any λu=>same [] u v) (λ{ι σ σ' a b B m} H h hb=>.inl ?_) hrun) (by decide) λZ Z h=>h;refine mO (bU.mp h) λu h1 h2=>?_;have e:sb ι u=sb ι a:=rq (ps:=[]) (κ:=ι) (λi n e=>mV e) h2;rw[o7 (yX (b2 hw).2 h1),hb] at e;rw[<-ae e];exact h1
def TX(d t:Nat)(v:V):Prop:=if t=0 then nv (2+d) d v else if t=1 then nv 1 1 v else if t=2 then ∃p,p∈re/\v=p.1 else t=3/\nv 0 0 v
theorem Ms(hd:d<=3)(t:Nat)(v:V)(h:TX d t v):mX v:=by
 unfold TX at h
 split at h
 .exact h.tl (by omega)
 .split at h
  .exact h.tl (by decide)
  .split at h
   .refine mO h λp h1 h2=>?_;rw[h2];exact (w0 h1).1.tl
   .exact h.2.tl (by decide)
noncomputable def Ig(k:Nat):Nat:=if k=0 then 10 else if k=1 then 40 else if k=2 then 130 else 400
noncomputable def uj(k:Nat)(r:Bool):qP:=⟨43,[.int k,.bool r],[],some 0,Ig k⟩
noncomputable def LN:List sw:=(oq 11 178,[])::(oq 11 175,[])::(nC 12 165 [.obj 0],[1])::(nC 12 165 [.obj 0],[3])::Dj true
noncomputable def SP:List sw:=(.obj 0,[1])::(oq 17 178,[])::(oq 17 175,[])::(sy 13 (.obj 0) (.obj 1),[0,0])::(sM false 14 [],[])::(sM false 14 [.obj 0],[0])::(sM false 14 [.obj 0,.obj 1],[0,0])::(nC 15 109 (o8 109++[V.obj 0]),[0])::(nC 16 27 [.obj 0],[0])::(nC 16 57 [.obj 0],[0])::
 (A2 10 [rm (.obj 0) (.obj 1)] (.obj 2),[2,0,0])::(A2 10 [rm (.obj 0) (.obj 1),rm (.obj 2) (.obj 3)] (.obj 4),[2,0,2,0,0])::LN
theorem FD{G:V->Prop}(hG:∀v,nv 2 0 v->G v):∀s∈LN,yn (TX d) G s:=by
 refine qH (uX ⟨_,rfl,hG _ ((nv.name (by decide)).mono (by decide) (by decide))⟩) (qH (uX ⟨_,rfl,hG _ ((nv.name (by decide)).mono (by decide) (by decide))⟩) (qH (rZ λx hx=>⟨_,rfl,hG _ (.call1 (nm:=165) (by decide) (by decide) (show nv 1 1 x from hx))⟩) (qH (rZ λx hx=>⟨_,rfl,hG _ (.call1 (nm:=165) (by decide) (by decide) ((show 3=3/\nv 0 0 x from hx).2.mono (h':=1) (by decide) (aQ 0)))⟩) (Bq λv g=>hG _ (g.mono (by decide) (by decide))))))
theorem OZ(hd:d<=2):∀s∈SP,yn (TX d) (nv (3+d) (d+1)) s:=by
 have e:3+d=2+d+1:=by omega
 have up:∀{v:V},nv (2+d+1) 0 v->nv (3+d) (d+1) v:=λg=>g.mono (by omega) (bc _);have nm:∀{s sp:Nat},s∈wM->nv (3+d) (d+1) (oq sp s):=λh=>(nv.name h).mono (bc _) (bc _);have t0:∀{x:V},TX d 0 x->nv (2+d) d x:=λh=>h;refine qH (rZ λx hx=>⟨x,rfl,(show nv 1 1 x from hx).mono (by omega) (by omega)⟩) (qH (uX ⟨_,rfl,nm (by decide)⟩) (qH (uX ⟨_,rfl,nm (by decide)⟩) ?_));refine qH (Bx λx y hx hy=>⟨_,rfl,by rw[e];exact .cat (by omega) hd (t0 hx) (t0 hy)⟩) (qH (uX ⟨_,rfl,(nv.arr0 (tw:=false)).mono (bc _) (bc _)⟩) (qH (rZ λx hx=>⟨_,rfl,up (.arr1 (tw:=false) (by omega) (t0 hx))⟩) (qH (Bx λx y hx hy=>⟨_,rfl,up (.arr2 (tw:=false) (by omega) (t0 hx) (t0 hy))⟩) ?_)));refine qH (rZ λx hx=>⟨_,rfl,up (.call1 (nm:=109) (by omega) (by decide) (t0 hx))⟩) (qH (rZ λx hx=>⟨_,rfl,up (.call1 (nm:=27) (by omega) (by decide) (t0 hx))⟩) (qH (rZ λx hx=>⟨_,rfl,up (.call1 (nm:=57) (by omega) (by decide) (t0 hx))⟩) ?_));refine qH (QE λx y z hx hy hz=>?_) (qH (QG λx y z u v hx hy hz hu hv=>?_) (FD λv g=>g.mono (by omega) (bc _)))
 .obtain ⟨p,h1,h2⟩:∃p,p∈re/\x=p.1:=hx;subst h2;exact⟨_,rfl,up (.if1 (by omega) h1 (t0 hy) (t0 hz))⟩
 .obtain ⟨p,h1,h2⟩:∃p,p∈re/\x=p.1:=hx;obtain ⟨q,h3,h4⟩:∃p,p∈re/\z=p.1:=hz;subst h2;subst h4;exact⟨_,rfl,up (.if2 (by omega) h1 h3 (t0 hy) (t0 hu) (t0 hv))⟩
noncomputable def AG:List qP:=Do++(yY 3 [192,90,195]::tF [160,184,178]::tF [108,192,195]::xb 1 1::[])
noncomputable def MM(d:Nat):List qP:=(MT::uj d true::uj d false::[])++AG
theorem zf(hD:32<=D):∀w∈AG,oG (TX d) D w:=by
 have hn:∀{w},oG (TX d) 10 w->oG (TX d) D w:=λh=>h.le (by omega) λZ Z h=>h;have ha:oG (TX d) 32 (xb 1 1):=oG.fresh (Da 1 (by decide)) (λv h=>nomatch h) λu v e h=>h.2;exact By (uS (by omega)) (pf (hn (xC (by decide) λv g=>⟨rfl,g⟩)) (pf (hn (tG (by decide))) (pf (hn (tG (by decide))) (pf (ha.le hD λZ Z h=>h) yQ))))
theorem LZ(r:Bool):oG (TX 0) 60 (uj 0 r):=by
 have hrun:(pt.all λr=>q9 pg (yu (Ig 0) AG) 12 false 43 (.obj 0::(uj 0 r).as) [.inst 996 0] (H5 (Ig 0) (LP LN)) (λZ Z=>false))=true:=by kernel_rfl
 exact oG.le (vO (T:=TX 0) (D:=32) (n:=12) (rows:=AG) (w:=uj 0 r) (T':=TX 0) (Ms (by decide)) (by cases r<;>rfl) (zf (aQ _)) (LP LN) (λ{ι σ σ' a b B m} H h hb=>.inr ⟨0,rfl,AJ (FD λv g=>g) H h hb⟩) (wD hrun (m7 r))) (by decide) λZ Z h=>h
theorem L0{k:Nat}(hk:k<=2)(h:∀r,oG (TX k) (60+14 * k) (uj k r))(r:Bool):oG (TX (k+1)) (60+14 * (k+1)) (uj (k+1) r):=by
 have hrun:([0,1,2].all λk=>pt.all λr=>q9 pg (yu (Ig (k+1)) (MM k)) 14 false 43 (.obj 0::(uj (k+1) r).as) [.inst 996 0] (H5 (Ig (k+1)) (LP SP)) (λZ Z=>false))=true:=by kernel_rfl
 have ht:oG (TX k) (60+14 * k) MT:=(oG.fresh (T':=TX k) (t:=2) O4 (λv hv=>by
  refine mO (bK.mp hv) λp h1 h2=>?_
  exact⟨p,h1,h2.symm⟩) λu v e=>mV e).le (by omega) λZ Z h=>h
 exact vO (T:=TX k) (D:=60+14 * k) (n:=14) (rows:=MM k) (w:=uj (k+1) r) (T':=TX (k+1)) (Ms (by omega)) (by cases r<;>rfl) (By (pf ht (pf (h true) (pf (h false) yQ))) (zf (by omega)))
  (LP SP) (λ{ι σ σ' a b B m} H h hb=>.inr ⟨0,rfl,(show nv (2+(k+1)) (k+1) b from by rw[show 2+(k+1)=3+k by omega];exact AJ (OZ hk) H h hb)⟩) (tm hrun (E4 hk) (m7 r))
theorem FP:∀k,k<=3->∀r,oG (TX k) (60+14 * k) (uj k r)
 |0,_=>LZ
 |k+1,h=>L0 (by omega) (FP k (by omega))
end
section
open L2
theorem Pq{x:Kd}(hx:x∈KS):o3 [] 2 [.o x.val,.v (uJ 170 false 1),.i,.v (.sym 138)] [if q8 x .str .d1 then some .none else none] 20:=by
 have h:∀g,(KS.all λx=>run [] 2 8 [.o x.val,.v (uJ 170 false 1),.i,.v (.sym 138)] [] [] [if q8 x .str .d1 then .val .none else .no] g)=true:=λg=>by kernel_rfl
 have:=con (D:=12) (ts:=[]) (as:=[.o x.val,.v (uJ 170 false 1),.i,.v (.sym 138)]) (os:=[if q8 x .str .d1 then .val .none else .no]) .nil nt (by split<;>rfl) rfl λg=>wD (h g) hx
 split at this
 .rename_i hb;rw[if_pos hb];exact this
 .rename_i hb;rw[if_neg hb];exact this
theorem Op{x:Option Kd}(hx:x∈KO):o3 [] 46 [.o (ov x),.v (.sym 170),.v (.int 1)] [some (.bool (x.any λk=>q8 k .str .d1))] 20:=by
 have h:∀g,(KO.all λx=>run [] 46 8 [.o (ov x),.v (.sym 170),.v (.int 1)] [] [] [.val (.bool (x.any λk=>q8 k .str .d1))] g)=true:=λg=>by kernel_rfl
 have:=con (D:=12) (ts:=[]) (as:=[.o (ov x),.v (.sym 170),.v (.int 1)]) (os:=[.val (.bool (x.any λk=>q8 k .str .d1))]) .nil nt rfl (by cases x<;>rfl) λg=>wD (h g) hx
 cases x<;>exact this
noncomputable def JW:MS->MS×MS
 |.seq a b=>(a,b)
 |s=>(s,.skip)
noncomputable def C3:Nat->MS->MS
 |0,s=>(JW s).1
 |n+1,s=>C3 n (JW s).2
noncomputable def JE:Nat->MS->MS
 |0,s=>s
 |n+1,s=>JE n (JW s).2
noncomputable def OL:MS:=.seq (C3 2 pi) (.seq (C3 3 pi) (.seq (C3 4 pi) (.seq (C3 5 pi) (C3 6 pi))))
noncomputable def Z0:St:=[.dict [(129,.obj 3),(149,.obj 7),(34,.obj 8),(37,.obj 9),(107,.bool false),(45,.obj 10)],.inst 1 0,.dict [(162,.obj 5),(32,.obj 6)],.inst 0 2,.dict [],.list [.obj 4],.dict [],.dict [],.dict [],.dict [],.dict [],.list []]
noncomputable def HV(l:List (Nat×V)):mQ:=(aM 19).map λi=>qj l i
noncomputable def Js:mQ:=HV [(2,.obj 1),(3,.obj 11),(4,.obj 12),(5,.obj 13)]
noncomputable def SK(a b:Nat):List Nat:=[0,1,2,3,4,5,a,7,8,9,b]
noncomputable def JC(A C:Nat)(b VB:Bool):List sv:=[⟨SK A C,FM 0,A,11,[.v (.obj 1),.o (.obj 1)],rT b 2⟩,⟨[],[],1000,49,[.o (.obj 1),.v (.dct (R5 0)),.v (.bool true)],[rC b 2]⟩]++(if b then [pq 2 [.o (.obj 2),.v (uJ 170 false 1),.i,.v (.sym 138)] [if VB then .val .none else .no],pq 46 [.o (.obj 2),.v (.sym 170),.v (.int 1)] [.val (.bool VB)]] else [])
end
section
open L2
noncomputable def isObj(o:Option V)(n:Nat):Bool:=match o with
 |some (.obj m)=>m==n
 |_=>false
theorem sB{o:Option V}{n:Nat}(h:isObj o n=true):o=some (.obj n):=by
 unfold isObj at h
 split at h
 .rw[eq_of_beq h]
 .exact mP h
noncomputable def F7:St:=FM 1++[.dict My]
noncomputable def SL:List Nat:=SK 69 70++[87]
noncomputable def TD(p:Fl×mQ)(σ:St):Bool:=match p.1 with
 |.next=>isObj (p.2[2]?.join) 1&&(isObj (p.2[4]?.join) 12&&(isObj (p.2[5]?.join) 13&&(isObj (p.2[12]?.join) 87&&(uU SL F7 σ&&decide (p.2.length=19)))))
 |.ret _=>false
noncomputable def OK(b VB:Bool):Bool:=RQ pg (q9 pg (Aw 12 3 (JC 69 70 b VB)) 14) false OL Js (Z0++[.inst 994 0,.inst 994 0,.inst 994 0]) TD (λZ Z=>false)
theorem LA:(pt.all λb=>pt.all λVB=>OK b VB)=true:=by kernel_rfl
noncomputable def OO:mQ:=HV [(2,.obj 1),(12,.obj 11)]
def w4(ρ:mQ)(σ:St):Prop:=∃κ,nR (KB κ) κ F7 σ/\n7 κ OO ρ
noncomputable def ML(i:Nat):Option V->Bool
 |none=>true
 |some (.obj n)=>(i==2&&n==1)||(i==12&&n==11)
 |_=>false
theorem Jg:sN ML OO 0=true:=rfl
theorem Jf{i:Nat}{v:V}(h:ML i (some v)=true):(i=2/\v=.obj 1)\/(i=12/\v=.obj 11):=by
 cases v with
 |obj n=>exact (eK.mp h).imp (λh=>⟨eq_of_beq (b2 h).1,congrArg V.obj (eq_of_beq (b2 h).2)⟩) λh=>⟨eq_of_beq (b2 h).1,congrArg V.obj (eq_of_beq (b2 h).2)⟩
 |_=>exact mP h
theorem Go{o:Option (Option α)}{v:α}(h:o.join=some v):o=some (some v):=by
 cases o with
 |none=>exact mV h
 |some o=>exact congrArg some h
theorem Qv{ρ':mQ}{a b:Nat}(h:n7 TZ ρ ρ')(hl:ρ'.length=19)(e2:ρ[2]?.join=some (.obj a))(e12:ρ[12]?.join=some (.obj b))(ha:κ[1]?=TZ[a]?)(hb:κ[11]?=TZ[b]?):n7 κ OO ρ':=by
 refine⟨hl,λi v e=>?_⟩
 rcases Jf (pu Jg (Go e)) with h1 | h1
 .rw[h1.1,h1.2];exact (h.2 2 _ e2).elim λv' h=>⟨v',h.1,ha.trans h.2⟩
 .rw[h1.1,h1.2];exact (h.2 12 _ e12).elim λv' h=>⟨v',h.1,hb.trans h.2⟩
section
variable {array Ux:V}
theorem JD(hD:20<=D)(ta:mX array)(m:o∈KO)(hM:n6 0 Ux o D)(hL:om 0 Ux o D):∀w∈JC 69 70 o.isSome (q8 (nz o) .str .d1),nU [array,Ux,(nz o).val] D w:=by
 refine tP (mY (sq (o:=qk o) ?_ hM (by rw[qD (o:=o) rfl rfl];exact ah)) (mY (sq (o:=rX o) ?_ hL (by show _∈[(rC o.isSome 2).real _];rw[sO (o:=o) rfl];exact ah)) nt)) (vp λe=>?_)
 .show (decide (SK 69 70).Nodup&&(rT o.isSome 2).all (Ar.wf 3))=true;rw[qE (aR 2)];rfl
 .show (true&&((rC o.isSome 2).wf 3&&true))=true;rw[tn (aR 2)];rfl
 .cases o with
  |none=>exact mP e
  |some k=>
   have hk:=oE m
   have hw:∀c:Bool,(if c then Ar.val V.none else Ar.no).wf 3=true:=λc=>by cases c<;>rfl
   refine mY ⟨?_,?_⟩ (mY (sq (o:=some (.bool (q8 k .str .d1))) rfl ((Op m).le hD) ah) nt)
   .show (true&&((if q8 k .str .d1 then Ar.val V.none else Ar.no).wf 3&&true))=true;rw[hw];rfl
   .show o3 [] 2 [.o k.val,.v (uJ 170 false 1),.i,.v (.sym 138)] [(if q8 k .str .d1 then Ar.val V.none else Ar.no).real _] D;rw[show (if q8 k .str .d1 then Ar.val V.none else Ar.no).real [array,Ux,(nz (some k)).val]=if q8 k .str .d1 then some .none else none by split<;>rfl];exact (Pq hk).le hD
theorem OM(hD:20<=D)(hd:D+14<=d)(ta:mX array)(tt:mX Ux)(m:o∈KO)(hM:n6 0 Ux o D)(hL:om 0 Ux o D)(H:nR (KB ι) ι Z0 σ)(hr:n7 (ι++[array,Ux,(nz o).val]) Js ρ):
  WR (dS pg (oP pg d) false OL ρ σ) (λp τ=>p.1=.next/\p.2[4]?.join=some array/\p.2[5]?.join=some Ux/\w4 p.2 τ) λZ Z=>False:=by
 have hk:Known [.inst 994 0,.inst 994 0,.inst 994 0] [array,Ux,(nz o).val]:=.t (.t (.k .nil) tt) ta;have ho:w2 (KB (ι++[array,Ux,(nz o).val])) pg (Aw 12 3 (JC 69 70 o.isSome (q8 (nz o) .str .d1))) D:=Ax H.len (JD hD ta m hM hL);have hlen:ρ.length=19:=hr.1;refine WR.mono (DI (Q:=q9 pg _ 14) (C:=oP pg d) sJ (λH hv=>vc sJ ho 14 hd H hv) OL (H.known hk) hr _ _ (tm LA (m7 o.isSome) (m7 (q8 (nz o) .str .d1)))) (λp' T0 zq=>mZ zq λTZ p τ E G hp hc=>?_) λZ T0 zq=>mZ zq λTZ Z τ E G Z hb=>mP hb;obtain ⟨fl,r⟩:=p
 cases fl with
 |ret v=>exact mP hc
 |next=>
  have h1:=b2 hc;have h2:=b2 h1.2;have h3:=b2 h2.2;have h4:=b2 h3.2;have h5:=b2 h4.2;have hl:ι.length=12:=H.len;refine m4 E.sub λκ X5=>?_
  have YS:TZ[12]?=some array:=by rw[X5,aP,aE (by omega),hl];rfl
  have YR:TZ[13]?=some Ux:=by rw[X5,aP,aE (by omega),hl];rfl
  have g4:p'.2[4]?.join=some array:=by
   refine mO (hp.1.2 4 _ (sB h2.1)) λv' e1 e2=>?_;have e2:TZ[12]?=some v':=e2;rw[e1,<-YS,e2]
  have g5:p'.2[5]?.join=some Ux:=by
   refine mO (hp.1.2 5 _ (sB h3.1)) λv' e1 e2=>?_;have e2:TZ[13]?=some v':=e2;rw[e1,<-YR,e2]
  have hn:SL.Nodup:=by decide
  have WD:=uV G h5.1;exact⟨hp.2,g4,g5,pk SL TZ,G.pick hn h5.1,Qv hp.1 (by rw[hp.1.1];exact of_decide_eq_true h5.2) (sB h1.1) (sB h4.1) (vn WD 1 1 rfl) (vn WD 11 87 rfl)⟩
end
noncomputable def Sr:MS->MS
 |.for _ _ b=>b
 |s=>s
noncomputable def AF:MS:=Sr (C3 7 pi)
noncomputable def Re:mQ:=HV [(2,.obj 1),(12,.obj 11),(13,.obj 12)]
noncomputable def JA(b1 b2:Bool):List sv:=[⟨[15],FL 1,1000,49,.o (.obj 0)::RL 1,[rC b1 1]⟩,⟨aM 11,FM 1,6,11,[.v (.obj 1),.o (.obj 0)],rT b1 1⟩,⟨[16],FL 2,1000,49,.o (.obj 0)::RL 2,[rC b2 2]⟩,⟨aM 11++[17],FM 2,6,11,[.v (.obj 1),.o (.obj 0)],rT b2 2⟩]
noncomputable def TC(p:Fl×mQ)(σ:St):Bool:=match p.1 with
 |.next=>isObj (p.2[2]?.join) 1&&(isObj (p.2[12]?.join) 11&&(uU (aM 12) F7 σ&&decide (p.2.length=19)))
 |.ret _=>false
noncomputable def Jt(sp:Nat)(b1 b2 v1 v2:Bool):Bool:=RQ pg (q9 pg (Aw 12 3 (JA b1 b2)) 6) false AF Re (F7++[.inst 999 sp,.inst 998 (bn v1),.inst 998 (bn v2)]) TC (λZ Z=>false)
theorem GN(sp:Nat):(pt.all λb1=>pt.all λb2=>pt.all λv1=>pt.all λv2=>Jt sp b1 b2 v1 v2)=true:=by kernel_rfl
section
variable {t:V}{x y:Option Kd}
theorem JB(hM:n6 1 t x D)(hL:om 1 t x D)(YL:n6 2 t y D)(XI:om 2 t y D):∀w∈JA x.isSome y.isSome,nU [t,(nz x).val,(nz y).val] D w:=by
 have wl:∀(b:Bool) (i:Nat),i < 3->[rC b i].all (Ar.wf 3)=true:=λb i h=>by show ((rC b i).wf 3&&true)=true;rw[tn h];rfl
 refine mY (sq (o:=rX x) (wl _ 1 (by decide)) hL (by show _∈[(rC x.isSome 1).real _];rw[sO (o:=x) rfl];exact ah)) (mY (sq (o:=qk x) ?_ hM (by rw[qD (o:=x) rfl rfl];exact ah))
  (mY (sq (o:=rX y) (wl _ 2 (by decide)) XI (by show _∈[(rC y.isSome 2).real _];rw[sO (o:=y) rfl];exact ah)) (mY (sq (o:=qk y) ?_ YL (by rw[qD (o:=y) rfl rfl];exact ah)) nt)))
 .show (decide (aM 11).Nodup&&(rT x.isSome 1).all (Ar.wf 3))=true;rw[qE (by decide)];rfl
 .show (decide (aM 11++[17]).Nodup&&(rT y.isSome 2).all (Ar.wf 3))=true;rw[qE (by decide)];rfl
theorem Ju(hd:D+6<=d)(tt:Tr t)(hM:n6 1 t x D)(hL:om 1 t x D)(YL:n6 2 t y D)(XI:om 2 t y D)(hr:w4 ρ σ):
  WR (dS pg (oP pg d) false AF (ρ.set 13 (some t)) σ) (λp τ=>p.1=.next/\w4 p.2 τ) λZ Z=>False:=by
 refine mO hr λι H hr=>?_;refine m4 tt.pl λsp hp=>?_;have hk:Known [.inst 999 sp,.inst 998 (bn (nz x).v),.inst 998 (bn (nz y).v)] [t,(nz x).val,(nz y).val]:=.p (.cons (.cons .nil rfl (pT _) (ur _)) rfl (pT _) (ur _)) tt.tl hp;have ho:w2 (KB (ι++[t,(nz x).val,(nz y).val])) pg (Aw 12 3 (JA x.isSome y.isSome)) D:=Ax H.len (JB hM hL YL XI);have hl:ι.length=12:=H.len;have hr7:n7 (ι++[t,(nz x).val,(nz y).val]) Re (ρ.set 13 (some t)):=(hr.mono ⟨_,rfl⟩).set (i:=13) (v:=.obj 12) (show (ι++_)[12]?=some t by rw[aE (by omega),hl];rfl);refine WR.mono (DI (Q:=q9 pg _ 6) (C:=oP pg d) sJ (λH hv=>vc sJ ho 6 hd H hv) AF (H.known hk) hr7 _ _ (tm (tm (GN sp) (m7 x.isSome) (m7 y.isSome)) (m7 (nz x).v) (m7 (nz y).v))) (λp' T0 zq=>mZ zq λTZ p τ E G hp hc=>?_) λZ T0 zq=>mZ zq λTZ Z τ E G Z hb=>mP hb;obtain ⟨fl,r⟩:=p
 cases fl with
 |ret v=>exact mP hc
 |next=>
  have h1:=b2 hc;have h2:=b2 h1.2;have h3:=b2 h2.2;refine m4 E.sub λκ X5=>?_
  have at':∀i,i < 12->ι[i]?=TZ[i]?:=λi hi=>by rw[X5,aP,ay (by omega)]
  exact⟨hp.2,ι,(nR.front_back hk H.len G E h3.1).1,Qv hp.1 (by rw[hp.1.1];exact of_decide_eq_true h3.2) (sB h1.1) (sB h2.1) (at' 1 (by decide)) (at' 11 (by decide))⟩
end
end
section
open L2
section
variable {P:Pg}{C:Bool->Call}{q:Bool}
theorem LK{a X Y S:MS}(h:∀ρ σ,dS P C q X ρ σ=dS P C q (.seq Y S) ρ σ)(ρ:mQ)(σ:St):dS P C q (.seq a X) ρ σ=dS P C q (.seq (.seq a Y) S) ρ σ:=by
 show (dS P C q a ρ σ).bind (after (dS P C q X))=((dS P C q a ρ σ).bind (after (dS P C q Y))).bind (after (dS P C q S))
 cases dS P C q a ρ σ with
 |ok p σ=>
  obtain ⟨fl,ρ⟩:=p
  cases fl with
  |next=>exact h ρ σ
  |ret v=>rfl
 |exc e σ=>rfl
 |bad=>rfl
theorem MZ{C:Call}{Q:V->St->Prop}{E:Unit->St->Prop}(h:WR (dL P q C es ρ σ) (λl σ=>WR (ul ks l σ) Q E) E):WR (dE P q C (.dict ks es) ρ σ) Q E:=WR.bind h
theorem BP{f:V->mQ->St->R mQ (Fl×mQ)}{I:mQ->St->Prop}{l:List V}(hf:∀v ρ σ,v∈l->I ρ σ->WR (f v ρ σ) (λp τ=>p.1=.next/\I p.2 τ) λZ Z=>False):∀k i,i<=l.length->l.length < k+i->∀ρ σ,I ρ σ->WR (loopS (.items l) f k i ρ σ) (λp τ=>p.1=.next/\I p.2 τ) λZ Z=>False
 |0,i,h,h',_,_,_=>by omega
 |k+1,i,h,h',ρ,σ,hi=>by
  cases e:l[i]? with
  |none=>exact PL (show some (l[i]?)=_ by rw[e]) ⟨rfl,hi⟩
  |some v=>
   have hl:=(aq.mp e).1;refine M5 (show some (l[i]?)=_ by rw[e]) ((hf v ρ σ (aF e) hi).mono (λp τ h=>?_) λZ Z h=>h);obtain ⟨fl,r⟩:=p;have h1:fl=.next:=h.1;subst h1;exact tj (BP hf k (i+1) hl (by omega) r τ h.2)
end
noncomputable def Z1(o:O):St:=o::[.dict [(129,.obj 4),(149,.obj 8),(34,.obj 9),(37,.obj 10),(107,.bool false),(45,.obj 11)],.inst 1 1,.dict [(162,.obj 6),(32,.obj 7)],.inst 0 3,.dict [],.list [.obj 5],.dict [],.dict [],.dict [],.dict [],.dict [],.list []]
noncomputable def i12:List V:=(dn 1 12).map .obj
noncomputable def A8(ι:List V):St->St->Nat->Prop
 |[],_,_=>True
 |o::F,r,n=>(∃m,ι[n]?=some (.obj m)/\oz (KB ι) ι o (.obj m) (XD r))/\A8 ι F r.tail (n+1)
where XD:St->Option O
 |[]=>none
 |o::_=>some o
theorem A8.at{ι:List V}:∀{F r:St} {n:Nat},A8 ι F r n->∀{k:Nat} {o:O},F[k]?=some o->∃m,ι[n+k]?=some (.obj m)/\oz (KB ι) ι o (.obj m) r[k]?
 |_::_,r,n,h,0,o,e=>by
  rw[<-ae e]
  cases r<;>exact h.1
 |_::F,r,n,h,k+1,o,e=>by
  have:=A8.at h.2 (k:=k) e;rw[show n+(k+1)=n+1+k from (Nat.succ_add n k).symm]
  cases r<;>exact this
theorem O0(o:O):A8 i12 Z0 (Z1 o).tail 0:=
 ⟨⟨_,rfl,_,rfl,rfl⟩,⟨_,rfl,_,rfl,rfl⟩,⟨_,rfl,_,rfl,rfl⟩,⟨_,rfl,_,rfl,rfl⟩,⟨_,rfl,_,rfl,rfl⟩,⟨_,rfl,_,rfl,rfl⟩,⟨_,rfl,_,rfl,rfl⟩,⟨_,rfl,_,rfl,rfl⟩,⟨_,rfl,_,rfl,rfl⟩,⟨_,rfl,_,rfl,rfl⟩,⟨_,rfl,_,rfl,rfl⟩,⟨_,rfl,_,rfl,rfl⟩,trivial⟩
theorem Du{i:Nat}(e:i12[i]?=some (.obj m)):m=i+1:=by
 unfold i12 at e;rw[br] at e;refine mO (ms e) λn e1 e2=>?_;have hl:=(aq.mp e1).1;rw[jL] at hl;rw[jd hl,Nat.one_mul] at e1;rw[<-sV e2,<-ae e1,mo]
theorem SM{o:O}(h:∀i,i < 13->i≠0->σ[i]?=(Z1 o)[i]?):nR (KB i12) i12 Z0 σ:=by
 refine⟨⟨[],(ba _).symm⟩,rfl,λi j m ei ej=>c0 ((Du ei).symm.trans (Du ej)),λn o' e=>?_⟩;have hn:n < 12:=(aq.mp e).1;refine mO ((O0 o).at e) λm h1 h2=>?_;rw[gu] at h1;have hm:=Du h1;subst hm;exact⟨_,h1,by rw[show um σ (.obj (n+1))=(Z1 o)[n+1]? from h (n+1) (Nat.succ_lt_succ hn) (Nat.succ_ne_zero n)];exact h2⟩
theorem Oo:pi=.seq (C3 0 pi) (.seq (C3 1 pi) (.seq (C3 2 pi) (.seq (C3 3 pi) (.seq (C3 4 pi) (.seq (C3 5 pi) (.seq (C3 6 pi) (JE 7 pi))))))):=by kernel_rfl
noncomputable def un(l a b c x y:Option V):mQ:=[l,a,b,c,x,y]++ch 13 none
noncomputable def tW(ι:List V):mQ->mQ->Prop
 |[],[]=>True
 |a::l,b::r=>(∀v,a=some v->∃v',b=some v'/\Vr ι v v')/\tW ι l r
 |_,_=>False
theorem tW.env{ι:List V}:∀{l r:mQ},tW ι l r->n7 ι l r
 |[],[],_=>⟨rfl,λi v e=>mV e⟩
 |a::l,b::r,h=>by
  have h2:=tW.env h.2;refine⟨congrArg (·+1) h2.1,λi v e=>?_⟩
  cases i with
  |zero=>exact h.1 v e
  |succ i=>exact h2.2 i v e
 |[],_::_,h=>h.elim
 |_::_,[],h=>h.elim
theorem Gk{l a b c x y:V}(h2:sb ι (.obj 1)=some b)(h3:sb ι (.obj 11)=some c)(h4:sb ι (.obj 12)=some x)(h5:sb ι (.obj 13)=some y):n7 ι Js (un (some l) (some a) (some b) (some c) (some x) (some y)):=by
 have one:∀{u v:V},sb ι u=some v->∀w,some u=some w->∃v',some v=some v'/\Vr ι w v':=λh w e=>⟨_,rfl,by rw[<-ae e];exact h⟩;have no:∀{o:Option V} (w:V),none=some w->∃v',o=some v'/\Vr ι w v':=λw e=>mV e;exact tW.env (ι:=ι) (l:=Js) (show tW ι Js (un (some l) (some a) (some b) (some c) (some x) (some y)) from ⟨no,no,one h2,one h3,one h4,one h5,no,no,no,no,no,no,no,no,no,no,no,no,no,trivial⟩)
theorem DG{o:O}:oP pg (d+4) false 9 [.obj 2] [o,.dict [],.inst 1 1]=.ok .none [o,.dict [(129,.obj 4),(149,.obj 8),(34,.obj 9),(37,.obj 10),(107,.bool false),(45,.obj 11)],.inst 1 1,.dict [(162,.obj 6),(32,.obj 7)],.inst 0 3,.dict [],.list [.obj 5],.dict [],.dict [],.dict [],.dict [],.dict []]:=by kernel_rfl
theorem Qa{xs:List Int}(h:xs.length<=1000)(σ:St):uB σ (.lst (xs.map .int)) (.int 60)=some (.lst ((xs.take (min 60 xs.length)).map .int)):=by
 show og (-1000000<=(60:Int)/\(60:Int)<=1000000/\(xs.map V.int).length<=ni) (V.lst ((xs.map V.int).take (wm (xs.map V.int).length 60)))=_;rw[show og _ _=some _ from if_pos ⟨by decide,by decide,by rw[aU];exact az h (by decide)⟩,<-List.map_take,aU];rfl
theorem KE{Q:V->St->Prop}{E:Unit->St->Prop}(hl:l.length<=ni)(h:Q (.lst l) σ):WR (DX σ (.list false) (.lst l)) Q E:=by
 show WR (gd (l.length<=ni) (.ok (.lst l) σ)) Q E;exact WR.gdp hl h
section
variable {d:Nat}{xs:List Int}
theorem Gd(h:xs.length<=1000):((xs.take (min 60 xs.length)).map V.int).length<=ni:=by
 rw[aU];exact az (List.length_take_le _ _) (az (li _ _) (by decide))
theorem cells{C:Bool->Call}(h:xs.length<=1000){Q:V->St->Prop}{E:Unit->St->Prop}(hq:Q (.lst ((xs.take (min 60 xs.length)).map .int)) []):WR (dE pg false (C false) (.bi (.list false) (.upto (.var 0) (.lit (.int 60)))) (qX ⟨1,19,pi⟩ [.lst (xs.map .int)]) []) Q E:=by
 refine RZ rfl (WR.val (a:=.lst ((xs.take (min 60 xs.length)).map .int)) (σ:=[]) ?_ (KE (Gd h) hq));show R.of (uB [] (.lst (xs.map .int)) (.int 60)) []=_;rw[Qa h];rfl
noncomputable def Tf(o:O):St:=[o,.dict [(129,.obj 4),(149,.obj 8),(34,.obj 9),(37,.obj 10),(107,.bool false),(45,.obj 11)],.inst 1 1,.dict [(162,.obj 6),(32,.obj 7)],.inst 0 3,.dict [],.list [.obj 5],.dict [],.dict [],.dict [],.dict [],.dict []]
theorem KZ{C:Bool->Call}(hC:∀o,C false 9 [.obj 2] [o,.dict [],.inst 1 1]=.ok .none (Tf o))(h:xs.length<=1000):WR (dS pg C false (C3 0 pi) (qX ⟨1,19,pi⟩ [.lst (xs.map .int)]) []) (λp τ=>p=(.next,un (some (.lst (xs.map .int))) (some (.obj 0)) (some (.obj 2)) (some (.obj 12)) none none)/\∃ys,τ=Z1 (qc ys 0)) λZ Z=>False:=by
 refine EA (yG (qC (MZ (qC (cells h ?_)))));generalize xs.take (min 60 xs.length)=ys;refine qC ?_;refine WR.val (a:=.int 0) (σ:=[]) rfl (w1 ?_);refine WR.gdp ⟨rfl,by decide⟩ ?_;refine WR.val (a:=.obj 0) (σ:=[qc ys 0]) rfl (qC ?_);refine WR.val (a:=.obj 2) (σ:=Tf (qc ys 0)) ?_ (qC ?_)
 .show (C false 9 [.obj 2] [qc ys 0,.dict [],.inst 1 1]).bind _=_;rw[hC];rfl
 refine WR.val (a:=.obj 12) (σ:=Z1 (qc ys 0)) rfl (w1 ⟨rfl,?_⟩);exact WR.val (a:=un (some (.lst (xs.map .int))) (some (.obj 0)) (some (.obj 2)) (some (.obj 12)) none none) (σ:=Z1 (qc ys 0)) rfl ⟨rfl,_,rfl⟩
theorem JG{ys:List Int}{l:V}(hd:110<=d)(e:σ=Z1 (qc ys 0)):WR (dS pg (oP pg d) false (C3 1 pi) (un (some l) (some (.obj 0)) (some (.obj 2)) (some (.obj 12)) none none) σ) (λp τ=>∃a t,nv 3 3 a/\nv 5 3 t/\p=(.next,un (some l) (some (.obj 0)) (some (.obj 2)) (some (.obj 12)) (some a) (some t))/\∀i,i < 13->i≠0->τ[i]?=σ[i]?) λZ Z=>False:=by
 have hn:σ.length=13:=by rw[e];rfl
 have h0:σ[0]?=some (qc ys 0):=by rw[e];rfl
 refine EA (yG (qC (Hn ?_)));refine WR.val (a:=[.obj 0,.int 3]) (σ:=σ) rfl ?_;refine ((Da 3 (by decide)).run (m:=0) (by omega) h0 (by decide) (by decide)).mono (λa τ zq=>uw zq λha zs p e1 e2 e3 e4 e5=>?_) λZ Z h=>h;have ha:nv 3 3 a:=ha.elim (λh=>nomatch h) λzq=>mO zq λt h1 h2=>h2.2;refine qC (Hn ?_);refine WR.val (a:=[.obj 0,.int 3,.bool true]) (σ:=τ) rfl ?_;have e3:p<=0+(35:Nat):=e3;refine ((FP 3 (by decide) true).run (m:=0) (by omega) e1 e2 (by show p+(400:Nat)<=200000;omega)).mono (λt υ zq=>uw zq λht zs' p' f1 f2 f3 f4 f5=>?_) λZ Z h=>h
 have ht:nv 5 3 t:=ht.elim (λh=>nomatch h) λzq=>mO zq λt' h1 h2=>by
  have h1:0=t':=ae h1;subst h1;exact h2
 refine w1 ⟨rfl,?_⟩;exact WR.val (a:=un (some l) (some (.obj 0)) (some (.obj 2)) (some (.obj 12)) (some a) (some t)) (σ:=υ) rfl ⟨a,t,ha,ht,rfl,λi h1 h2=>(f5 i (by omega) h2).trans (e5 i (by omega) h2)⟩
theorem Dr{t:V}(g:nv 5 3 t)(hd:dp 5+6<=d)(hr:w4 ρ σ):WR (dS pg (oP pg d) false AF (ρ.set 13 (some t)) σ) (λp τ=>p.1=.next/\w4 p.2 τ) λZ Z=>False:=by
 refine n9 (g.k 1 (by decide)) λx Z l1 m1 Z=>?_;refine n9 (g.k 2 (by decide)) λy Z l2 m2 Z=>?_;exact Ju hd (g.tr (by decide)) m1 l1 m2 l2 hr
theorem On{a t:V}(hd:dp 5+6<=d)(ga:nv 3 3 a)(gt:nv 5 3 t)(ea:ρ[4]?.join=some a)(et:ρ[5]?.join=some t)(hr:w4 ρ σ):WR (dS pg (oP pg d) false (JE 7 pi) ρ σ) (λp Z=>p.1=.ret (.bool true)) λZ Z=>False:=by
 have nodes:∀v∈[a,t,nC 92 165 (o8 165++[oq 92 195]),nC 93 27 (o8 27++[a])],nv 5 3 v:=by
  intro v hv
  rcases aA.mp hv with e | hv
  .rw[e];exact ga.mono (by decide) (by decide)
  rcases aA.mp hv with e | hv
  .rw[e];exact gt
  rcases aA.mp hv with e | hv
  .rw[e];exact (nv.call1 (h:=0) (nm:=165) (by decide) (by decide) (.name (by decide))).mono (by decide) (by decide)
  .rw[am.mp hv];exact (nv.call1 (nm:=27) (by decide) (by decide) ga).mono (by decide) (by decide)
 refine ug (PP rfl (WR.bind (yG (qC (Ey ea (qC (Ey et (qC ?_))))))));refine WR.val (a:=nC 92 165 (o8 165++[oq 92 195])) (σ:=σ) rfl (qC (yG (qC (A5 (qC (A5 (qC (A5 (qC (yG (qC (Ey ea (w1 ⟨rfl,?_⟩)))))))))))));refine w1 ⟨rfl,w1 ⟨rfl,?_⟩⟩;refine WR.ok ?_;refine (BP (I:=w4) (l:=[a,t,nC 92 165 (o8 165++[oq 92 195]),nC 93 27 (o8 27++[a])]) (λv r τ hv hi=>?_) 5 0 (bc _) (aR 4) ρ σ hr).mono (λp τ h=>?_) λZ Z h=>h
 .refine RW (ρ':=r.set 13 (some v)) ?_ (Dr (nodes v hv) hd hi);refine mO hi λκ Z h=>?_;show (og (13 < r.length) (r.set 13 (some v))).bind _=_;rw[show og (13 < r.length) (r.set 13 (some v))=some (r.set 13 (some v)) from if_pos (by rw[h.1];decide)];rfl
 .obtain ⟨fl,r⟩:=p;have h1:fl=.next:=h.1;subst h1;exact tj (ug (Hr (A5 (EB rfl))))
end
theorem Gq{xs:List Int}(h:xs.length<=1000):∃σ',oP pg 125 false 52 [.lst (xs.map .int)] []=.ok (.bool true) σ':=by
 have key:WR (oP pg 125 false 52 [.lst (xs.map .int)] []) (λv Z=>v=.bool true) λZ Z=>False:=by
  refine WR.call (d:=124) (F:=⟨1,19,pi⟩) rfl rfl ?_;show WR (dS pg (oP pg 124) false pi (qX ⟨1,19,pi⟩ [.lst (xs.map .int)]) []) _ _;rw[Oo];refine ug ((KZ (C:=oP pg 124) (λo=>DG (d:=120)) h).mono (λp σ zq=>IY zq λhp ys e=>?_) λZ Z h=>h.elim);rw[hp];refine tj (ug ((JG (d:=124) (by decide) e).mono (λp τ zq=>pN zq λa t ga gt hp hk=>?_) λZ Z h=>h.elim));rw[hp];refine tj ?_;rw[LK (LK (LK (LK λZ Z=>rfl)))];refine n9 (gt.k 0 (by decide)) λo m l0 m0 Z=>?_;refine ug ((OM (D:=dp 5) (d:=124) (by decide) (by decide) (ga.tl (by decide)) (gt.tl (by decide)) m m0 l0 (SM (o:=qc ys 0) λi h1 h2=>by rw[hk i h1 h2,e]) (Gk rfl rfl rfl rfl)).mono (λp υ zq=>DM zq λh1 h2 h3 h4=>?_) λZ Z h=>h.elim);obtain ⟨fl,r⟩:=p;have h1:fl=.next:=h1;subst h1;refine tj ((On (d:=124) (by decide) ga gt h2 h3 h4).mono (λp Z h=>?_) λZ Z h=>h.elim);show Jr p.1=_;rw[h];rfl
 cases e:oP pg 125 false 52 [.lst (xs.map .int)] [] with
 |ok v σ'=>
  rw[e] at key;exact⟨σ',by rw[show v=.bool true from key]⟩
 |exc _ _=>rw[e] at key;exact key.elim
 |bad=>rw[e] at key;exact key.elim
end
theorem OB{xs:List WData}(h:bD.pre.holds [] {args:=[.list xs]}=true):xs.length<=1000:=by
 refine kt λhc=>?_
 have e:bD.pre.holds [] {args:=[.list xs]}=(match (match some (!(decide ((63:Int) < (xs.length:Int)))) with
   |some false=>some (mK false)
   |some true=>some (mK true)
   |none=>none) with
  |some (.bool true)=>true
  |_=>false):=by
  cases hd:decide ((63:Int) < (xs.length:Int))<;>(simp [OpenLaw.pre,bD,l8,WTm.value,less?,Num.less?,hd])
 rw[e,show decide ((63:Int) < (xs.length:Int))=true from decide_eq_true (by omega)] at h;exact mP h
theorem RF{q:bA}{Xm:List aI}{XP:(aI->Option af)->aB->Prop}{d:DefRec}(hn:d.name = "law"):WalkO q Xm XP (H8 c2).says bD.row.toRowW d [] λf vs=>PySem.call f vs:=by
 intro w s₀ TW mg mb G Y a o pm cd doc dV kV h1 h2 h3 h4 h5 hg args vals as Yr ZV hr hw hs;refine m4 Y λK Gv=>?_;have hp:=pre_splitW Yr;have T:Told bD.prog TW.heap mg mb:=⟨G.T.g,G.T.b,G.T.nolimit,G.T.builtins,by kernel_rfl⟩;refine Ke P4 T Gv rfl (λW gl wk=>LW (p:=⟨c2.toLg,K,mg,mb⟩) gl wk) (fL:=52) (nm:="law") (d:=125) (by kernel_rfl) (by rw[<-hn];exact h5) (by decide) hw hp.1 (λxs e=>OB (by rw[<-e];exact hp.2)) (λxs hx=>Gq hx) λs' k ho Z4=>?_;refine GoodW.toG ⟨.inl ⟨_,.bool true,[],rfl,λZ=>rfl,.bool _,?_,λZ=>⟨jg,λZ h=>nomatch h⟩⟩,k,ho,Z4.trans hg⟩;show (WShape.has [] (.bool true) .bool&&l8 [] (.eq .res (.lit (.bool true))) {args:=args,res:=some (.bool true),after:=args})=true;exact bj.mpr ⟨by kernel_rfl,by simp only[l8,WTm.value,show PySem.W.same (.bool true) (.bool true)=true by kernel_rfl]⟩
end Mine.Internal

namespace Mine.Internal
open PySem PySem.W PyProof.Rows
namespace head
theorem tw1258453716306658304:0=0:=rfl
theorem tw12278463079101488128:0=0:=rfl
theorem tw2894152552507235424:0=0:=rfl
theorem tw2934248064766088352:0=0:=rfl
theorem tw12533188119829535936:0=0:=rfl
theorem tw6180472288296858815:0=0:=rfl
theorem tw1987557369150731712:0=0:=rfl
theorem tw10478411361968804352:0=0:=rfl
theorem tw4804523201834689056:0=0:=rfl
theorem tw9656145585253418624:0=0:=rfl
theorem tw6345962803626072704:0=0:=rfl
theorem tw4356994229188071200:0=0:=rfl
theorem tw3869182881569682240:0=0:=rfl
theorem tw7658535187610471328:0=0:=rfl
theorem tw16470738274083341248:0=0:=rfl
theorem tw9150203044055339105:0=0:=rfl
theorem tw14929068417886092385:0=0:=rfl
theorem tw12102787196800394369:0=0:=rfl
theorem tw16623005101582439649:0=0:=rfl
theorem tw10875764276356024609:0=0:=rfl
theorem tw5575261005901118753:0=0:=rfl
theorem tw15987298236799223137:0=0:=rfl
theorem tw5888525843779206497:0=0:=rfl
theorem tw15893317856969978209:0=0:=rfl
theorem tw16001164278788874794:0=0:=rfl
theorem tw12169433661247332737:0=0:=rfl
theorem tw17333868739752232385:0=0:=rfl
theorem tw871252903898582465:0=0:=rfl
theorem tw9033182001766740417:0=0:=rfl
theorem tw18291600352307719777:0=0:=rfl
theorem tw13939516514312253112:0=0:=rfl
theorem tw12806253548222901857:0=0:=rfl
theorem tw15138065235074995841:0=0:=rfl
theorem tw15915673513860750956:0=0:=rfl
theorem tw17668470780512804641:0=0:=rfl
theorem tw5495607003866541921:0=0:=rfl
theorem tw28651559375178625:0=0:=rfl
theorem tw1651360569294593921:0=0:=rfl
theorem tw13537632495512367073:0=0:=rfl
theorem tw12049423146163859425:0=0:=rfl
theorem tw16435304071009119056:0=0:=rfl
theorem tw6288538588269318274:0=0:=rfl
theorem tw14640619569106899106:0=0:=rfl
theorem tw8507664329646591170:0=0:=rfl
theorem tw10778376083544448290:0=0:=rfl
theorem tw180557579094491458:0=0:=rfl
theorem tw7795901939020475714:0=0:=rfl
theorem tw14804807535031770434:0=0:=rfl
theorem tw14776828949437865282:0=0:=rfl
theorem tw7653770046041843074:0=0:=rfl
theorem tw6302871324792935842:0=0:=rfl
theorem tw14431188939852883394:0=0:=rfl
theorem tw12556153988850362850:0=0:=rfl
theorem tw18231679819947193826:0=0:=rfl
theorem tw15940619560434989570:0=0:=rfl
theorem tw17879266493245626914:0=0:=rfl
theorem tw10046488721125158466:0=0:=rfl
theorem tw8397667373497710178:0=0:=rfl
theorem tw14696265418476178901:0=0:=rfl
theorem tw1844467570389974658:0=0:=rfl
theorem tw6851717981294702356:0=0:=rfl
theorem tw15311005795019303586:0=0:=rfl
theorem tw9790775765945250498:0=0:=rfl
theorem tw8427403130609186562:0=0:=rfl
theorem tw14704451711062366978:0=0:=rfl
theorem tw7387348980798310210:0=0:=rfl
theorem tw12824015591217091490:0=0:=rfl
theorem tw2919749146745499586:0=0:=rfl
theorem tw2323926309532271586:0=0:=rfl
theorem tw15225103352731655138:0=0:=rfl
theorem tw12757151084355026914:0=0:=rfl
theorem tw3135906202827797507:0=0:=rfl
theorem tw5063786239965550723:0=0:=rfl
theorem tw13436008565774967011:0=0:=rfl
theorem tw5636203721351222531:0=0:=rfl
theorem tw12905125323518435587:0=0:=rfl
theorem tw5161104113109860643:0=0:=rfl
theorem tw5585298417887737123:0=0:=rfl
theorem tw1753003951421427075:0=0:=rfl
theorem tw131415200265715171:0=0:=rfl
theorem tw4255666144921013795:0=0:=rfl
theorem tw278581248325843523:0=0:=rfl
theorem tw13074133843078740547:0=0:=rfl
theorem tw11548113185550306947:0=0:=rfl
theorem tw573855439382118019:0=0:=rfl
theorem tw1373012823760850595:0=0:=rfl
theorem tw16891317342568782531:0=0:=rfl
theorem tw9216089146854100675:0=0:=rfl
theorem tw13882234696957952739:0=0:=rfl
theorem tw6200549489047768835:0=0:=rfl
theorem tw16905298422251320803:0=0:=rfl
theorem tw6501993735153680131:0=0:=rfl
theorem tw507867392388677603:0=0:=rfl
theorem tw16297892007826214052:0=0:=rfl
theorem tw13851134797264264420:0=0:=rfl
theorem tw9281326185923295492:0=0:=rfl
theorem tw9891651285341572318:0=0:=rfl
theorem tw18407380456907040068:0=0:=rfl
theorem tw13149666652136121732:0=0:=rfl
theorem tw10852966169642419620:0=0:=rfl
theorem tw4067203111510269444:0=0:=rfl
theorem tw17630976985212021252:0=0:=rfl
theorem tw8684634495478282788:0=0:=rfl
theorem tw9634045303191909956:0=0:=rfl
theorem tw16554526779789546084:0=0:=rfl
theorem tw1059163318146682468:0=0:=rfl
theorem tw12708123234126680708:0=0:=rfl
theorem tw6719656258133677700:0=0:=rfl
theorem tw15520181941019334340:0=0:=rfl
theorem tw10677006617423633188:0=0:=rfl
theorem tw14930278808943442820:0=0:=rfl
theorem tw14294982102292943780:0=0:=rfl
theorem tw8122885039181923333:0=0:=rfl
theorem tw5535163685458935877:0=0:=rfl
theorem tw6786778168509544517:0=0:=rfl
theorem tw6387714741593955332:0=0:=rfl
theorem tw2043087103621964997:0=0:=rfl
theorem tw11566841906782242053:0=0:=rfl
theorem tw8839027191431993605:0=0:=rfl
theorem tw3343984374828313861:0=0:=rfl
theorem tw10806634533459545381:0=0:=rfl
theorem tw3578958923436046661:0=0:=rfl
theorem tw7199030120425877829:0=0:=rfl
theorem tw5174717153031038437:0=0:=rfl
theorem tw11756266223592160395:0=0:=rfl
theorem tw8321119226527775237:0=0:=rfl
theorem tw17431456679323178533:0=0:=rfl
theorem tw14564241988698318373:0=0:=rfl
theorem tw12566224135570047525:0=0:=rfl
theorem tw8792897344874033733:0=0:=rfl
theorem tw2960898139891119717:0=0:=rfl
theorem tw10982946209367121509:0=0:=rfl
theorem tw15631718473216897701:0=0:=rfl
theorem tw1881055677477116581:0=0:=rfl
theorem tw10101421574106214085:0=0:=rfl
theorem tw2169281033359032037:0=0:=rfl
theorem tw3941156040307774213:0=0:=rfl
theorem tw672570726121695013:0=0:=rfl
theorem tw4522409042203475749:0=0:=rfl
theorem tw12050221675960033093:0=0:=rfl
theorem tw5812943851908949918:0=0:=rfl
theorem tw5509060068099777413:0=0:=rfl
theorem tw1735712362863950725:0=0:=rfl
theorem tw16187212612603009125:0=0:=rfl
theorem tw10883278523208022981:0=0:=rfl
theorem tw10949025697342971877:0=0:=rfl
theorem tw685504661327688742:0=0:=rfl
theorem tw10467852365440921670:0=0:=rfl
theorem tw5279946723360487494:0=0:=rfl
theorem tw7119594771880819858:0=0:=rfl
theorem tw11232978470920408358:0=0:=rfl
theorem tw756069217127356742:0=0:=rfl
theorem tw13007202087462836646:0=0:=rfl
theorem tw14594469244564773350:0=0:=rfl
theorem tw12349259055231604262:0=0:=rfl
theorem tw4904261729475024422:0=0:=rfl
theorem tw16358555599909018182:0=0:=rfl
theorem tw16002268798014185432:0=0:=rfl
theorem tw7288914432739094182:0=0:=rfl
theorem tw10288341847844054694:0=0:=rfl
theorem tw1453673589703148230:0=0:=rfl
theorem tw17743693862729980614:0=0:=rfl
theorem tw4500438253849987814:0=0:=rfl
theorem tw6038455539057350438:0=0:=rfl
theorem tw13486987100687975238:0=0:=rfl
theorem tw10657940773215961958:0=0:=rfl
theorem tw16068889945890959238:0=0:=rfl
theorem tw5673306034993891238:0=0:=rfl
theorem tw17589853756644411302:0=0:=rfl
theorem tw10847146045693573062:0=0:=rfl
theorem tw1515345725807219654:0=0:=rfl
theorem tw9633808310430400454:0=0:=rfl
theorem tw458149121178462182:0=0:=rfl
theorem tw4477118761818678279:0=0:=rfl
theorem tw17143094881623060519:0=0:=rfl
theorem tw17576806870698252327:0=0:=rfl
theorem tw6151381817749291079:0=0:=rfl
theorem tw6665979760644317287:0=0:=rfl
theorem tw13565670087438899335:0=0:=rfl
theorem tw8053394759554831559:0=0:=rfl
theorem tw7717097885034689735:0=0:=rfl
theorem tw1511891059713779943:0=0:=rfl
theorem tw13938314743558959367:0=0:=rfl
theorem tw7453933950953202983:0=0:=rfl
theorem tw5121121683633849671:0=0:=rfl
theorem tw2736538178757748039:0=0:=rfl
theorem tw7848811690419876199:0=0:=rfl
theorem tw16293861684877478311:0=0:=rfl
theorem tw368270107659410887:0=0:=rfl
theorem tw150979079722049991:0=0:=rfl
theorem tw10326230257057282535:0=0:=rfl
theorem tw4664621624991227399:0=0:=rfl
theorem tw5012512282137399879:0=0:=rfl
theorem tw7163458143325534791:0=0:=rfl
theorem tw6204776756014468711:0=0:=rfl
theorem tw18308072863541763719:0=0:=rfl
theorem tw3664162495101484743:0=0:=rfl
theorem tw16777521522860482247:0=0:=rfl
theorem tw3635525712308927271:0=0:=rfl
theorem tw9993300197053530983:0=0:=rfl
theorem tw3796036621921146727:0=0:=rfl
theorem tw695893946633948039:0=0:=rfl
theorem tw16002366332284682119:0=0:=rfl
theorem tw15258799539987619783:0=0:=rfl
theorem tw4111949003067224343:0=0:=rfl
theorem tw12001577667717255176:0=0:=rfl
theorem tw10714201629055478824:0=0:=rfl
theorem tw15201846218156111944:0=0:=rfl
theorem tw3003217347886287976:0=0:=rfl
theorem tw13898307528413641504:0=0:=rfl
theorem tw7871040755861822600:0=0:=rfl
theorem tw3097101300178927752:0=0:=rfl
theorem tw379154397386507432:0=0:=rfl
theorem tw12125221754952656040:0=0:=rfl
theorem tw9788767914283571400:0=0:=rfl
theorem tw13433233657428206792:0=0:=rfl
theorem tw12097889611720191176:0=0:=rfl
theorem tw18071378121363579176:0=0:=rfl
theorem tw3563479953845385512:0=0:=rfl
theorem tw3241465772588796232:0=0:=rfl
theorem tw668823653163510088:0=0:=rfl
theorem tw10827897679061541192:0=0:=rfl
theorem tw3421387750874743176:0=0:=rfl
theorem tw9343841776052470216:0=0:=rfl
theorem tw9514788811957211624:0=0:=rfl
theorem tw2714067042623201800:0=0:=rfl
theorem tw4925291594519982632:0=0:=rfl
theorem tw1926143298797657736:0=0:=rfl
theorem tw8363271796746967752:0=0:=rfl
theorem tw4723723271744914184:0=0:=rfl
theorem tw14255320843353542408:0=0:=rfl
theorem tw2598828398090235752:0=0:=rfl
theorem tw1335529745519465352:0=0:=rfl
theorem tw14202255950262162344:0=0:=rfl
theorem tw16880951475479886921:0=0:=rfl
theorem tw15419450125499025513:0=0:=rfl
theorem tw9021974018963436649:0=0:=rfl
theorem tw9629543149614385321:0=0:=rfl
theorem tw15318862911822293161:0=0:=rfl
theorem tw17398074001465023753:0=0:=rfl
theorem tw7376887436866901289:0=0:=rfl
theorem tw11798683024389638473:0=0:=rfl
theorem tw8273974295544231241:0=0:=rfl
theorem tw18385344648293578121:0=0:=rfl
theorem tw969033425148315049:0=0:=rfl
theorem tw9486179325711558089:0=0:=rfl
theorem tw18245091190975670729:0=0:=rfl
theorem tw157487072571639241:0=0:=rfl
theorem tw7934260813177360937:0=0:=rfl
theorem tw5763261649813281321:0=0:=rfl
theorem tw1278451321631604521:0=0:=rfl
theorem tw819674490487190345:0=0:=rfl
theorem tw3248080294440303433:0=0:=rfl
theorem tw11338433358809400169:0=0:=rfl
theorem tw8804343660805199721:0=0:=rfl
theorem tw17263427690546889705:0=0:=rfl
theorem tw1656181690755500009:0=0:=rfl
theorem tw18142152687971341386:0=0:=rfl
theorem tw15709428146427402346:0=0:=rfl
theorem tw14082094871413604490:0=0:=rfl
theorem tw15997579793656432842:0=0:=rfl
theorem tw10156959423878155498:0=0:=rfl
theorem tw12619512236032086282:0=0:=rfl
theorem tw13896250499497688330:0=0:=rfl
theorem tw3441272882867930410:0=0:=rfl
theorem tw16832642456834594186:0=0:=rfl
theorem tw6835922771926613386:0=0:=rfl
theorem tw10441500689708926378:0=0:=rfl
theorem tw11174851916004399594:0=0:=rfl
theorem tw5531843404549935594:0=0:=rfl
theorem tw6536087584392566282:0=0:=rfl
theorem tw17576387167790452266:0=0:=rfl
theorem tw6823611985272463914:0=0:=rfl
theorem tw9562597414353034826:0=0:=rfl
theorem tw11485815400417367690:0=0:=rfl
theorem tw3123340350921997994:0=0:=rfl
theorem tw4063569851180352202:0=0:=rfl
theorem tw6459330472900232938:0=0:=rfl
theorem tw17292970962960149322:0=0:=rfl
theorem tw12887062192404025258:0=0:=rfl
theorem tw5537773006019800010:0=0:=rfl
theorem tw7685603406797835371:0=0:=rfl
theorem tw8939464649871245579:0=0:=rfl
theorem tw8294512905778329867:0=0:=rfl
theorem tw997365496626702635:0=0:=rfl
theorem tw15974479345488772459:0=0:=rfl
theorem tw758980129013455211:0=0:=rfl
theorem tw7669542570389801355:0=0:=rfl
theorem tw6411576796020146635:0=0:=rfl
theorem tw12142385515706650059:0=0:=rfl
theorem tw10574963512794415595:0=0:=rfl
theorem tw16460313092685165067:0=0:=rfl
theorem tw4942042266964326955:0=0:=rfl
theorem tw15489742176703056555:0=0:=rfl
theorem tw4903428944905943755:0=0:=rfl
theorem tw5528803162204563147:0=0:=rfl
theorem tw3334355388040290027:0=0:=rfl
theorem tw4896867707705516902:0=0:=rfl
theorem tw542600218534412438:0=0:=rfl
theorem tw9063132295611338571:0=0:=rfl
theorem tw3087972217934253931:0=0:=rfl
theorem tw16804399734337586059:0=0:=rfl
theorem tw13130026477503750059:0=0:=rfl
theorem tw996981640771525611:0=0:=rfl
theorem tw2782546592773990476:0=0:=rfl
theorem tw12078229439370049644:0=0:=rfl
theorem tw11860589723203421292:0=0:=rfl
theorem tw5521533520911139980:0=0:=rfl
theorem tw11809372751355778188:0=0:=rfl
theorem tw6015909709239590028:0=0:=rfl
theorem tw9714425267121465612:0=0:=rfl
theorem tw5281672172050905356:0=0:=rfl
theorem tw13989651713008233836:0=0:=rfl
theorem tw1318442497196291500:0=0:=rfl
theorem tw17870151092536345100:0=0:=rfl
theorem tw9194472977650436620:0=0:=rfl
theorem tw232473315762453100:0=0:=rfl
theorem tw4038296290503734956:0=0:=rfl
theorem tw5294638443716959948:0=0:=rfl
theorem tw9417891802631395052:0=0:=rfl
theorem tw12490366024630467340:0=0:=rfl
theorem tw9188221901137457004:0=0:=rfl
theorem tw15948489897694729219:0=0:=rfl
theorem tw11679397435755134892:0=0:=rfl
theorem tw12648024291328057292:0=0:=rfl
theorem tw7630614333878801388:0=0:=rfl
theorem tw7836174546575239148:0=0:=rfl
theorem tw8568197537054905324:0=0:=rfl
theorem tw7285385138943665165:0=0:=rfl
theorem tw3507624263613819917:0=0:=rfl
theorem tw1765596292035907629:0=0:=rfl
theorem tw6962018899104020525:0=0:=rfl
theorem tw13312725732919641165:0=0:=rfl
theorem tw215088660058033229:0=0:=rfl
theorem tw17608012506762601549:0=0:=rfl
theorem tw9431944807493638155:0=0:=rfl
theorem tw14506496976691018925:0=0:=rfl
theorem tw10326433227229921549:0=0:=rfl
theorem tw1081918594029998349:0=0:=rfl
theorem tw1903809553442905389:0=0:=rfl
theorem tw5188547130963436909:0=0:=rfl
theorem tw5456479906107452781:0=0:=rfl
theorem tw11505780646813469069:0=0:=rfl
theorem tw14902837588030647693:0=0:=rfl
theorem tw10532295789626618253:0=0:=rfl
theorem tw5102153863941415440:0=0:=rfl
theorem tw15029389029185964493:0=0:=rfl
theorem tw50896459018227149:0=0:=rfl
theorem tw15063069900258622093:0=0:=rfl
theorem tw11654851693395710637:0=0:=rfl
theorem tw90598915626312365:0=0:=rfl
theorem tw13752030441720751821:0=0:=rfl
theorem tw1568912342305137357:0=0:=rfl
theorem tw5685686986798369517:0=0:=rfl
theorem tw8341041181660773101:0=0:=rfl
theorem tw3077082300529035021:0=0:=rfl
theorem tw2694128037389889325:0=0:=rfl
theorem tw10165431968968751118:0=0:=rfl
theorem tw7452148100223020078:0=0:=rfl
theorem tw5240299285746959406:0=0:=rfl
theorem tw2110877475482146926:0=0:=rfl
theorem tw2540183928061916700:0=0:=rfl
theorem tw7660790016457327149:0=0:=rfl
theorem tw1662621770911083758:0=0:=rfl
theorem tw15572949344126905646:0=0:=rfl
theorem tw11532515657967676718:0=0:=rfl
theorem tw5681861815129081166:0=0:=rfl
theorem tw13990309641415329262:0=0:=rfl
theorem tw3154329806151034382:0=0:=rfl
theorem tw2755820643727113742:0=0:=rfl
theorem tw16170722059020510766:0=0:=rfl
theorem tw9554088087165546030:0=0:=rfl
theorem tw54855423550623310:0=0:=rfl
theorem tw14493282511541016206:0=0:=rfl
theorem tw3615901872300330702:0=0:=rfl
theorem tw9026177583158334158:0=0:=rfl
theorem tw2339048065371308782:0=0:=rfl
theorem tw9270267985669984014:0=0:=rfl
theorem tw4754782131174066958:0=0:=rfl
theorem tw18039750520779619118:0=0:=rfl
theorem tw10079860215814902702:0=0:=rfl
theorem tw10196950947417357230:0=0:=rfl
theorem tw1125208917562807246:0=0:=rfl
theorem tw7742056743536037903:0=0:=rfl
theorem tw298335191302580495:0=0:=rfl
theorem tw9434034715570441583:0=0:=rfl
theorem tw14367920226926963119:0=0:=rfl
theorem tw7087371699663613359:0=0:=rfl
theorem tw6262815143760305615:0=0:=rfl
theorem tw6163553270827759087:0=0:=rfl
theorem tw16541082763231266319:0=0:=rfl
theorem tw8085146912869720978:0=0:=rfl
theorem tw16380545571649618607:0=0:=rfl
theorem tw10004968210546728623:0=0:=rfl
theorem tw8491820067614933743:0=0:=rfl
theorem tw2431657681545466639:0=0:=rfl
theorem tw4743209388086510351:0=0:=rfl
theorem tw14022158333223369072:0=0:=rfl
theorem tw5394941613023254383:0=0:=rfl
theorem tw8173076531526851503:0=0:=rfl
theorem tw11734387023926553616:0=0:=rfl
theorem tw1094486055635779632:0=0:=rfl
theorem tw1217008684470039632:0=0:=rfl
theorem tw15517624276369520:0=0:=rfl
theorem tw10209039374229592208:0=0:=rfl
theorem tw9198689800218408655:0=0:=rfl
theorem tw13451211059535878384:0=0:=rfl
theorem tw17841386997120191728:0=0:=rfl
theorem tw14549435271706706224:0=0:=rfl
theorem tw9922440323216509232:0=0:=rfl
theorem tw16840755293988039984:0=0:=rfl
theorem tw5357483711101957424:0=0:=rfl
theorem tw9360740354718025040:0=0:=rfl
theorem tw10599510720630717808:0=0:=rfl
theorem tw13825956281807410768:0=0:=rfl
theorem tw8380034559641552496:0=0:=rfl
theorem tw4463040190649093840:0=0:=rfl
theorem tw16392708975658356464:0=0:=rfl
theorem tw3905749787061621520:0=0:=rfl
theorem tw14477604489051941744:0=0:=rfl
theorem tw14158428439919870864:0=0:=rfl
theorem tw11164902317844157328:0=0:=rfl
theorem tw17613311456908602385:0=0:=rfl
theorem tw9149885144370575409:0=0:=rfl
theorem tw15789306479356855684:0=0:=rfl
theorem tw17619904154643314769:0=0:=rfl
theorem tw15545180048398367067:0=0:=rfl
theorem tw7499890481677958398:0=0:=rfl
theorem tw13289269885103834513:0=0:=rfl
theorem tw17013429710562117009:0=0:=rfl
theorem tw12400829552769024433:0=0:=rfl
theorem tw3719757830788971985:0=0:=rfl
theorem tw68791429988877841:0=0:=rfl
theorem tw7004043142383214097:0=0:=rfl
theorem tw10338859181450622609:0=0:=rfl
theorem tw1304109134517134065:0=0:=rfl
theorem tw4126569708725379857:0=0:=rfl
theorem tw13662250054108976355:0=0:=rfl
theorem tw17018686891600841585:0=0:=rfl
theorem tw1803827914629316465:0=0:=rfl
theorem tw17455982768175728529:0=0:=rfl
theorem tw4167199826336633745:0=0:=rfl
theorem tw15311939220964185106:0=0:=rfl
theorem tw16551592612956221458:0=0:=rfl
theorem tw13388910588309091474:0=0:=rfl
theorem tw11236264308040969394:0=0:=rfl
theorem tw11175660098989979826:0=0:=rfl
theorem tw14172424672946166034:0=0:=rfl
theorem tw5387168689241914674:0=0:=rfl
theorem tw4564964173715813714:0=0:=rfl
theorem tw1901947026874951026:0=0:=rfl
theorem tw288174531778296944:0=0:=rfl
theorem tw9893352306937984402:0=0:=rfl
theorem tw14946424000415424946:0=0:=rfl
theorem tw12621192663148488146:0=0:=rfl
theorem tw104248997913267698:0=0:=rfl
theorem tw472116897376775698:0=0:=rfl
theorem tw13763259863565942290:0=0:=rfl
theorem tw3442542328804436530:0=0:=rfl
theorem tw18405740669185776274:0=0:=rfl
theorem tw15938720242040571570:0=0:=rfl
theorem tw7522540995713088274:0=0:=rfl
theorem tw246766493212783410:0=0:=rfl
theorem tw9217025424471583602:0=0:=rfl
theorem tw7871400988371781522:0=0:=rfl
theorem tw3919622968385735570:0=0:=rfl
theorem tw18068696563673321394:0=0:=rfl
theorem tw4060700195381250067:0=0:=rfl
theorem tw8498251510748665907:0=0:=rfl
theorem tw7258877458190152819:0=0:=rfl
theorem tw4443641541309057203:0=0:=rfl
theorem tw12071836986092510387:0=0:=rfl
theorem tw10543712386442291379:0=0:=rfl
theorem tw15650233195626454259:0=0:=rfl
theorem tw11046677887984482611:0=0:=rfl
theorem tw12969973581304291635:0=0:=rfl
theorem tw5233028440317534579:0=0:=rfl
theorem tw4544289106498852243:0=0:=rfl
theorem tw15413299265640824211:0=0:=rfl
theorem tw2080864317826152883:0=0:=rfl
theorem tw15279990767845995955:0=0:=rfl
theorem tw6517327976592040403:0=0:=rfl
theorem tw13231323889132105171:0=0:=rfl
theorem tw16361214446219043315:0=0:=rfl
theorem tw15450062323825198675:0=0:=rfl
theorem tw10561043020228632258:0=0:=rfl
theorem tw5841653695726307987:0=0:=rfl
theorem tw15363273018220560083:0=0:=rfl
theorem tw15266530685898783443:0=0:=rfl
theorem tw4773304924162895731:0=0:=rfl
theorem tw3398423038984232883:0=0:=rfl
theorem tw1871131430832029716:0=0:=rfl
theorem tw7692529387714484404:0=0:=rfl
theorem tw7918417721700312308:0=0:=rfl
theorem tw660241337831805204:0=0:=rfl
theorem tw4696402877033576756:0=0:=rfl
theorem tw14278104616001074548:0=0:=rfl
theorem tw10125929355548975508:0=0:=rfl
theorem tw11414849079480288724:0=0:=rfl
theorem tw6360992666864919060:0=0:=rfl
theorem tw5624202546242894388:0=0:=rfl
theorem tw16979452091659690644:0=0:=rfl
theorem tw7828029103933373108:0=0:=rfl
theorem tw860643577974235960:0=0:=rfl
theorem tw12902062747338610012:0=0:=rfl
theorem tw2760578795835352852:0=0:=rfl
theorem tw6987318395297107796:0=0:=rfl
theorem tw1485951079949661044:0=0:=rfl
theorem tw13221240968849860500:0=0:=rfl
theorem tw10064413085623696276:0=0:=rfl
theorem tw8488015001772446612:0=0:=rfl
theorem tw3539023208464144308:0=0:=rfl
theorem tw2373247585403660244:0=0:=rfl
theorem tw6326262103661479924:0=0:=rfl
theorem tw17132605601930520564:0=0:=rfl
theorem tw12234623904145450996:0=0:=rfl
theorem tw8164521253129739317:0=0:=rfl
theorem tw2493471750603673695:0=0:=rfl
theorem tw2378882285466240213:0=0:=rfl
theorem tw581329805104468181:0=0:=rfl
theorem tw3703124540716985589:0=0:=rfl
theorem tw7798382485669159157:0=0:=rfl
theorem tw17165501156494301525:0=0:=rfl
theorem tw15554606659924641141:0=0:=rfl
theorem tw14813904526722990485:0=0:=rfl
theorem tw16388712824441718317:0=0:=rfl
theorem tw460493647788064181:0=0:=rfl
theorem tw15785167706613062101:0=0:=rfl
theorem tw6941018842536288537:0=0:=rfl
theorem tw3145940042648786453:0=0:=rfl
theorem tw12992531038351979029:0=0:=rfl
theorem tw8730119747510088245:0=0:=rfl
theorem tw14633424208812532277:0=0:=rfl
theorem tw17567876552396240469:0=0:=rfl
theorem tw12549680120154166933:0=0:=rfl
theorem tw2468129496273715989:0=0:=rfl
theorem tw15679284214522952156:0=0:=rfl
theorem tw14558566372639728533:0=0:=rfl
theorem tw5212892116570103733:0=0:=rfl
theorem tw10218059707884530613:0=0:=rfl
theorem tw8708866331712903190:0=0:=rfl
theorem tw7594393393143898134:0=0:=rfl
theorem tw727871655853585494:0=0:=rfl
theorem tw2398718288924477558:0=0:=rfl
theorem tw18034343607588918422:0=0:=rfl
theorem tw10440470256551273718:0=0:=rfl
theorem tw2134257966403761398:0=0:=rfl
theorem tw1067545829148287404:0=0:=rfl
theorem tw3244979614261766497:0=0:=rfl
theorem tw15608115993353443985:0=0:=rfl
theorem tw8911715247591009910:0=0:=rfl
theorem tw68223138966139510:0=0:=rfl
theorem tw3111883404516310774:0=0:=rfl
theorem tw8828762066905357110:0=0:=rfl
theorem tw8939615490272855926:0=0:=rfl
theorem tw16415695218750827382:0=0:=rfl
theorem tw16256651097423524758:0=0:=rfl
theorem tw5905800238660894614:0=0:=rfl
theorem tw10415711047970736022:0=0:=rfl
theorem tw6068694611635865590:0=0:=rfl
theorem tw5190979149539639286:0=0:=rfl
theorem tw12494678188142251031:0=0:=rfl
theorem tw3922205187945754679:0=0:=rfl
theorem tw8740491119249365079:0=0:=rfl
theorem tw8333125123008790743:0=0:=rfl
theorem tw18002631600328936663:0=0:=rfl
theorem tw15318860832186169591:0=0:=rfl
theorem tw14001831067185940759:0=0:=rfl
theorem tw2369519236851512631:0=0:=rfl
theorem tw7706266995361183031:0=0:=rfl
theorem tw3600112065676380631:0=0:=rfl
theorem tw2088969971902092759:0=0:=rfl
theorem tw14774012416384668183:0=0:=rfl
theorem tw11377860342115682839:0=0:=rfl
theorem tw10648201644766199351:0=0:=rfl
theorem tw11743441244443810487:0=0:=rfl
theorem tw7174902123892306615:0=0:=rfl
theorem tw6176450103178853079:0=0:=rfl
theorem tw11735541712165610263:0=0:=rfl
theorem tw17602015841314507703:0=0:=rfl
theorem tw7739960990069688279:0=0:=rfl
theorem tw17393854343980579928:0=0:=rfl
theorem tw11492380031660290225:0=0:=rfl
theorem tw3202537428888129816:0=0:=rfl
theorem tw1442861384686113144:0=0:=rfl
theorem tw18129246944988500376:0=0:=rfl
theorem tw8794538426755590552:0=0:=rfl
theorem tw5212489079905177048:0=0:=rfl
theorem tw1506493122784522776:0=0:=rfl
theorem tw7876380749562137144:0=0:=rfl
theorem tw11409394182237674072:0=0:=rfl
theorem tw9456725078930572920:0=0:=rfl
theorem tw6166150500733165240:0=0:=rfl
theorem tw5180793443103303352:0=0:=rfl
theorem tw17100331334522449688:0=0:=rfl
theorem tw8781885530006323032:0=0:=rfl
theorem tw4012921278390324088:0=0:=rfl
theorem tw682274491873781752:0=0:=rfl
theorem tw11680863635135381657:0=0:=rfl
theorem tw1573301842526459033:0=0:=rfl
theorem tw11509219436781461689:0=0:=rfl
theorem tw15925507543600243961:0=0:=rfl
theorem tw5671573469923044665:0=0:=rfl
theorem tw8199683642505161241:0=0:=rfl
theorem tw12584948273278941721:0=0:=rfl
theorem tw4238889034677794361:0=0:=rfl
theorem tw13038121054318420537:0=0:=rfl
theorem tw360943114214951545:0=0:=rfl
theorem tw10936523832443784857:0=0:=rfl
theorem tw13148544108415269593:0=0:=rfl
theorem tw8675860802291742457:0=0:=rfl
theorem tw2851065943783126841:0=0:=rfl
theorem tw4500565936341979993:0=0:=rfl
theorem tw13118447853492015993:0=0:=rfl
theorem tw8374713163410265017:0=0:=rfl
theorem tw10178686243629489081:0=0:=rfl
theorem tw17237208602118822938:0=0:=rfl
theorem tw10130046867429925868:0=0:=rfl
theorem tw1466144664807686202:0=0:=rfl
theorem tw17682342131244598394:0=0:=rfl
theorem tw4657073311724733658:0=0:=rfl
theorem tw5014626033260886234:0=0:=rfl
theorem tw10403513753302479130:0=0:=rfl
theorem tw615145822093683002:0=0:=rfl
theorem tw7810815386330201434:0=0:=rfl
theorem tw15202921462499427706:0=0:=rfl
theorem tw1026916259146773914:0=0:=rfl
theorem tw9208760602289501594:0=0:=rfl
theorem tw4681811785110334938:0=0:=rfl
theorem tw9738642721323792858:0=0:=rfl
theorem tw18027623137396611546:0=0:=rfl
theorem tw1998152975310809562:0=0:=rfl
theorem tw18290675023729231418:0=0:=rfl
theorem tw4380319847576138298:0=0:=rfl
theorem tw13141228108489976410:0=0:=rfl
theorem tw4872695887633465018:0=0:=rfl
theorem tw10910662148547809146:0=0:=rfl
theorem tw9060807947222167450:0=0:=rfl
theorem tw1221140237713410010:0=0:=rfl
theorem tw8143839383226190842:0=0:=rfl
theorem tw2078090517514532923:0=0:=rfl
theorem tw13093076666114004027:0=0:=rfl
theorem tw8406964992398057563:0=0:=rfl
theorem tw12229761515936767099:0=0:=rfl
theorem tw6630738010656775419:0=0:=rfl
theorem tw9138265704962542843:0=0:=rfl
theorem tw2453521283205649659:0=0:=rfl
theorem tw17546743832020271483:0=0:=rfl
theorem tw8470793768573589947:0=0:=rfl
theorem tw8333159287748754907:0=0:=rfl
theorem tw5155368293660787195:0=0:=rfl
theorem tw1524219014472992251:0=0:=rfl
theorem tw4050939481493077499:0=0:=rfl
theorem tw10343487397458017819:0=0:=rfl
theorem tw5152520497178031707:0=0:=rfl
theorem tw15472401753886037627:0=0:=rfl
theorem tw13311012694725994139:0=0:=rfl
theorem tw4958055551472059035:0=0:=rfl
theorem tw3437964996034853531:0=0:=rfl
theorem tw775776539064984538:0=0:=rfl
theorem tw13105012303010250491:0=0:=rfl
theorem tw11709681379492831003:0=0:=rfl
theorem tw7980799833586399067:0=0:=rfl
theorem tw4724318418779614075:0=0:=rfl
theorem tw13912586304887420795:0=0:=rfl
theorem tw985719481007450075:0=0:=rfl
theorem tw17407171449609617371:0=0:=rfl
theorem tw5305130906047112220:0=0:=rfl
theorem tw11982184262622975068:0=0:=rfl
theorem tw9848516484385531132:0=0:=rfl
theorem tw4766937966870788380:0=0:=rfl
theorem tw13084696053366009866:0=0:=rfl
theorem tw4517080872264363356:0=0:=rfl
theorem tw11811601694450153820:0=0:=rfl
theorem tw17981709744806268:0=0:=rfl
theorem tw9094184492450977180:0=0:=rfl
theorem tw11287203536343631484:0=0:=rfl
theorem tw3563018587571817148:0=0:=rfl
theorem tw2878845785053925052:0=0:=rfl
theorem tw14939700357920408252:0=0:=rfl
theorem tw9481697160585238204:0=0:=rfl
theorem tw3445731881791290044:0=0:=rfl
theorem tw16405482449567939292:0=0:=rfl
theorem tw7887325764628733692:0=0:=rfl
theorem tw12797216168665619228:0=0:=rfl
theorem tw5977049746020086556:0=0:=rfl
theorem tw14363887742018839356:0=0:=rfl
theorem tw8007940898392486748:0=0:=rfl
theorem tw6056312283027283868:0=0:=rfl
theorem tw8461346964260384382:0=0:=rfl
theorem tw9372715231738170429:0=0:=rfl
theorem tw17994589576782617821:0=0:=rfl
theorem tw13446957514743792861:0=0:=rfl
theorem tw994578777664213213:0=0:=rfl
theorem tw15075481993605988605:0=0:=rfl
theorem tw70407987180004669:0=0:=rfl
theorem tw15792559764004085117:0=0:=rfl
theorem tw18422660234289836137:0=0:=rfl
theorem tw6748114179996522941:0=0:=rfl
theorem tw18126802804303514045:0=0:=rfl
theorem tw4928989890952316381:0=0:=rfl
theorem tw8519620345645670909:0=0:=rfl
theorem tw13589924676094017053:0=0:=rfl
theorem tw16228343732124702237:0=0:=rfl
theorem tw17155148735901461053:0=0:=rfl
theorem tw5916877048245317213:0=0:=rfl
theorem tw10417819788513700445:0=0:=rfl
theorem tw5177488753185584040:0=0:=rfl
theorem tw11646673952399439709:0=0:=rfl
theorem tw10245341562508545917:0=0:=rfl
theorem tw11032554134783566749:0=0:=rfl
theorem tw9694607215696738205:0=0:=rfl
theorem tw10155103240277196701:0=0:=rfl
theorem tw14228115194959108029:0=0:=rfl
theorem tw12243849663909302237:0=0:=rfl
theorem tw14947980960965689406:0=0:=rfl
theorem tw11575903973748849822:0=0:=rfl
theorem tw9579116799109589182:0=0:=rfl
theorem tw9021451330884238863:0=0:=rfl
theorem tw17547655399394650398:0=0:=rfl
theorem tw7880576784633796990:0=0:=rfl
theorem tw5091507448127722942:0=0:=rfl
theorem tw1317351591387112958:0=0:=rfl
theorem tw8551152759073268678:0=0:=rfl
theorem tw4791830553219477182:0=0:=rfl
theorem tw11851962056556984030:0=0:=rfl
theorem tw1865247970343085854:0=0:=rfl
theorem tw10465892010561581982:0=0:=rfl
theorem tw17929221164090874782:0=0:=rfl
theorem tw16086553723102748574:0=0:=rfl
theorem tw15185695549473199070:0=0:=rfl
theorem tw10289556748277466078:0=0:=rfl
theorem tw17837107745855597534:0=0:=rfl
theorem tw14594217352909989919:0=0:=rfl
theorem tw2053598497450426830:0=0:=rfl
theorem tw8350303324170192991:0=0:=rfl
theorem tw15911472369724303455:0=0:=rfl
theorem tw5987770974067822719:0=0:=rfl
theorem tw5389298798316334207:0=0:=rfl
theorem tw12314344313618072767:0=0:=rfl
theorem tw11931392740866613471:0=0:=rfl
theorem tw10333269780963272991:0=0:=rfl
theorem tw10391303797420620063:0=0:=rfl
theorem tw2211164086160396607:0=0:=rfl
theorem tw9474747073404975069:0=0:=rfl
theorem tw13077469451083010094:0=0:=rfl
theorem tw11309609833603199455:0=0:=rfl
theorem tw5024588561011540511:0=0:=rfl
theorem tw14417383327440295455:0=0:=rfl
theorem tw3170996000379527775:0=0:=rfl
theorem tw14437171236307140191:0=0:=rfl
theorem tw10742104010770387711:0=0:=rfl
theorem tw15418431880819366655:0=0:=rfl
theorem tw533293232872092415:0=0:=rfl
theorem tw7316912545487277664:0=0:=rfl
theorem tw8025419442395314943:0=0:=rfl
theorem tw3710881643830131615:0=0:=rfl
theorem tw8086536150739891430:0=0:=rfl
theorem tw4211312468020670601:0=0:=rfl
end head
set_option tactic.hygienic true
set_option Elab.async true
set_option maxHeartbeats 8000000 in
theorem head:bD.Holds:=by
 w_on
 o_law
 o_head (H8 c2)
 case hw=>w_witness2
 exact RF rfl
end Mine.Internal
theorem PySem.Challenge.cw_qd0003_02_holds : PySem.Challenge.rw_qd0003_02.Holds := by
  exact Mine.Internal.head
