import PyProof.Rows.All
import Wide.All
import OpenK.AllK
import Wide.FinOn
import PyProof.ExcBaseAll.Exception
import Lean
import PySem.Challenge.RW_qd0003_01
set_option maxRecDepth 100000
set_option linter.all false
set_option genSizeOf false
set_option genSizeOfSpec false
set_option genInjectivity false
set_option Elab.async false
set_option bootstrap.genMatcherCode false
set_option tactic.hygienic false

open Array renaming getElem?_eq_some_iff->cP,getElem?_setIfInBounds_self_of_lt->eH,getElem?_setIfInBounds_ne->fN,eraseIdxIfInBounds->im,mem_toList_iff->i8
open Bool renaming false_ne_true->bR,and_eq_true_iff->b5,and_eq_true->cx,eq_false_iff->cQ,or_false->dm,or_true->dX,or_eq_true_iff->eY,and_true->fh,false_or->fi,false_eq_true->gE,true_or->iF,or_eq_true->iS,or_eq_false_iff->i9,eq_iff_iff->kC,and_false->kY,and_comm->lm,not_true->lq,true_and->ls
open Classical renaming byContradiction->gX
open ForInStep renaming yield->dh
open Int renaming natCast_nonneg->bj,ofNat_le->bH,toNat_natCast->bU,le_trans->b6,toNat_of_nonneg->cy,lt_of_le_of_lt->cY,ofNat_lt->c8,add_le_add_right->gc,not_le->gK,not_lt->gL,neg_nonneg_of_nonpos->ip,le_of_lt->iG,neg_le_of_neg_le->jb,ne_of_gt->jO,toNat_le->jP,toNat_lt->jQ,emod_nonneg->kH,le_antisymm->kI,natCast_add->kJ,zero_add->lM
open Int.ofNat renaming inj->lu
open List renaming length_append->ah,getElem?_set_ne->aj,getElem?_eq_some_iff->aq,mem_singleton->au,mem_cons_self->ax,length_map->ay,range->az,mem_cons_of_mem->aE,getElem?_set_self->aF,mem_append->aH,getElem?_append_right->aI,getElem?_append_left->aJ,length_range->aR,append_nil->aT,length_set->aV,mem_map->aW,getElem?_eq_getElem->aX,mem_filterMap->aZ,append_assoc->ba,mem_cons->bd,map_append->bf,all_eq_true->bh,nodup_cons->bo,mem_of_getElem?->bq,mem_range->bt,contains_iff_mem->bx,mem_append_right->bA,mem_append_left->bD,filterMap_cons_some->bE,size_toArray->bF,filterMap_cons_none->bG,contains_cons->bS,nodup_append->bV,replicate->b7,filter_eq_nil_iff->cj,nodup_nil->cu,map_congr_left->cz,getElem?_eq_none->cA,getElem?_map->cB,mem_filter->cC,filterMap_append->cH,any_eq_true->cL,length_cons->cM,map_map->cS,filter_append->cZ,lookup_cons->c0,getElem?_eq_none_iff->dy,filterMap_cons->dJ,filter_cons->dN,pairwise_cons->dY,length_filter_le->eB,getElem?_concat_length->eG,set_set->eQ,getElem_of_mem->fe,map_cons->fm,map_filterMap->fp,foldl_append->fB,getElem?_inj->fC,getElem?_toArray->fO,nodup_range->fR,length_take_le'->ge,nil_append->gq,filter_eq_self->gv,filter_sublist->gw,getElem?_range->gx,filterMap_nil->gN,filter_filter->gO,zip_cons_cons->gP,filterMap_eq_nil_iff->gY,any_eq_false->gZ,filter_congr->g9,getElem?_nil->hG,push_toArray->hJ,length_filterMap_le->ir,not_mem_nil->iz,pairwise_singleton->iA,filterMap_eq_map'->iH,take_of_length_le->iI,dropLast_eq_take->iY,eraseIdx_toArray->iZ,mem_of_mem_head?->i4,set_append_right->i5,dropLast_concat->jc,getElem?_mapIdx->jd,getLast?_concat->je,append_toArray->ju,any_cons->jx,findIdx?_cons->jF,reverse_cons->jS,append_inj'->j5,length_drop->j6,mem_flatMap->j7,length->kr,find?_cons->kK,forIn_cons->kM,range_succ->kN,all_cons->lw,map_take->lx,filter->lT
open List.Pairwise renaming nil->l5
open List.Perm renaming eq_of_pairwise->iq
open List.cons renaming inj->dp
open Nat renaming le_trans->ac,lt_of_lt_of_le->ao,le_add_right->aA,lt_of_le_of_lt->aB,add_le_add_left->aC,add_left_cancel->aL,le_refl->aN,ne_of_lt->aP,lt_succ_of_lt->aS,ne_of_gt->aY,add_le_add_right->a8,add_right_comm->be,lt_add_of_pos_right->bg,add_le_add->bk,add_lt_add_left->bv,le_of_eq->bB,sub_self->bC,le_of_lt->bK,succ_le_succ->bL,lt_trans->bN,lt_succ_self->bO,le_of_lt_succ->bW,mul_le_mul_left->bZ,zero_le->ce,le_add_left->cK,sub_add_cancel->c6,add_assoc->da,add_sub_cancel_left->dg,zero_add->dz,not_lt->dD,add_sub_cancel'->dM,le_succ->dU,lt_or_ge->eR,succ_pos->eT,add_comm->gz,lt_of_le_of_ne->gR,le_of_succ_le->ia,le_succ_of_le->ib,lt_succ_of_le->ic,le_antisymm->iT,min_eq_left->iU,le_sub_of_add_le->jf,not_succ_le_self->jg,succ->jT,le_of_not_lt->j8,succ_ne_self->j9,lt_irrefl->lz
open Nat.succ renaming inj->fD
open Ne renaming symm->bJ
open Option renaming isSome_iff_exists->bT,bind_some->cN,getD_some->iB
open Option.some renaming inj->am
open Prod.mk renaming inj->fw
open PyProof.Rows renaming subscriptTail->gb,StrsAre->iK,assign_Tuple_tuple->jG,tail_any->li
open PySem renaming Expr->aa,Value->ae,Shared->af,wpAny_bind->ai,Addr->al,wpAny->aM,wpAny_pure->aO,Heap->aQ,Str->a9,Around->bc,wpAny_holding->bn,strKind->bw,Stmt->bI,sizeLine->bM,wpAny_standAt->bQ,wpAny_field->bY,wpAny_mono->b0,model->b8,NameKind->b9,Program->cw,wpAny_loadPart_at->cG,mainGlobals->cO,callEnvC->cT,rawInt->cU,Pos->cV,wpAny_call_entry->c7,compEnvC->db,wpAny_isSubtype_exc->dj,sizeLine_eq->dq,IsPair->du,assignEach->dv,wpAny_newObj_type->dB,wpAny_truthy_bool->dC,assignInOrder->dG,wpAny_Name->dH,Result->dP,recursionLimit->dR,World->dW,builtinsNs->d9,sysModules->ef,wpAny_setField_rec->eg,wpAny_execs_nil->eh,attributeBase->ej,swappedStores->eo,swapsWith->ez,Env->eA,wpAny_seqItems->eP,getMethod->eV,wpAny_Call_NameR->eX,wpAt_of_wpAny->fg,Comprehension->fj,FuncData->fk,wpAny_Constant_str->fo,Obj->fq,DictEntry->fv,wpAny_callSpecial?_slot->fy,ExcBaseFacts->fA,assign_Name->fE,callWith->fG,codeAny->fH,wpAny_pyIter_list->fK,wpAny_setField->fM,Scope->fP,Flow->fQ,compareOp->fU,storeName->fV,stored->fW,wpAny_call->fX,Builtin->fY,spliced->fZ,excClassObj->gf,wpAny_loadName_local->gh,wpAny_of_eq->gj,letOwnedTupleGo->gr,wpAny_loadName_free->gy,bootBuiltins->gA,notedBy->gB,valueAt->gC,noteFrame->gD,IsZip->gM,Model->gQ,cameBackBy->gU,methodCallForm->gV,strKind_is->gW,subscripted->ij,wpAny_nsGet->ik,comprehension->iu,methodCallPos->iw,wpAny_attempt->ix,wpAny_onRaise->iy,binaryOp->iC,wpAny_comp_letGo->iD,wpAny_list_append_plain->iE,cellOf->iJ,assign->iM,call_meets->iN,codeAny_compStart_list->iO,isInstance->iP,pyIter->iQ,wpAny_pyNext_list_item->iR,wpAt_bind->iW,wpAny_pyIter_listiter->i6,wpAny_pyNext_list_end->i7,checkBoundCall->ji,importBound->jj,starEach->jk,wpAny_loadPart->jl,wpAny_point->jm,wpAny_updateSeq_pair->jn,holding->jo,relabel->jp,seqIndex?->jq,wpAny_isTrue_BoolOp->jv,wpAny_loadName_cell->jw,frameOf->jz,wpAny_Constant_int->jI,wpAny_pyIter_tuple->jJ,GenState->jM,Keyword->jR,Operator->jU,Sem->jV,cLine->jW,foldedSetIterable->jX,newList->jY,wpAny_collect_seq->jZ,wpAny_pyIter_slot->j0,ClassData->j1,cellsFrom->kb,checkBuiltinCall->ke,opaqueClassAbove->kg,pastItsLine_dict->kj,wpAny_execs_cons->kl,wpAny_lookBehind->km,wpAny_madeBy_exc->kn,wpAny_pyIter_zip->kq,keywordEach->ku,Data->kD,OsState->kR,callEnv->kT,getItem->kU,hashStr->kW,operate->kX,Const->kZ,wpAt->k7,ZipApart->k8,closureFor->k9,loadGlobal->lb,loadName->lf,pyNext->lg,refuseLoop->lh,wpAny_load->lj,wpAny_rule->lk,Reads->lG,newFields->lJ,pushCells->lK,setFlight->lL,passOn->lN,standAt->lP,field->lX
open PySem.Builtin.List renaming listFitsIndex->eI
open PySem.Builtin.Range renaming rangeSize->dc,small->eZ,rangeFitsLong->kQ
open PySem.Builtin.SmallTypes renaming ownedTupleIsFree->cJ,nextOf->cW,ownedTupleHandOut->fb
open PySem.Calls renaming spliced_cons->gF,spliced_nil->jK
open PySem.Challenge renaming rw_qd0003_01->b4
open PySem.Code renaming builtin->cR,quiet_builtin->gG
open PySem.Comprehension renaming mk->l6
open PySem.DictEntry renaming refKey->j2
open PySem.EntryCells renaming newEntry->gu
open PySem.Env renaming kindOf->eJ
open PySem.ExceptHandler renaming casesOn->lQ
open PySem.Expr renaming casesOn->aG
open PySem.F renaming plainAttrs_list->eC,slot_tuple_iterator_next->eK,slot_list_pop->gk,slot_zip_next->gm,ks_slot_super_ga->gH,slot_range_iterator_iter->gI,slot_tuple_iterator_iter->gJ,slot_tuple_getitem->ja,slot_list_getitem->jr,slot_dict_update->jB,slot_list_append->jC,slot_list_extend->jD,slot_list_insert->jE,args_zip_next_1->jL,entry_list_pop->j3,entry_zip_next->j4,type_list_pop->kE
open PySem.Heap renaming get?_push_of_some->av,get?_push_size->aU,get?_update_self->bP,SameBut->bX,get?_update_other->cg,lt_size->ch,size_push->ct,get?_none_of_le->eM,get?_update_ne->jt,get?_push_at->jN,MadeExcOf->k6
open PySem.Heap.DictOf renaming new->kG
open PySem.Heap.IsSliceOf renaming new->lY
open PySem.Heap.SameBut renaming update->fc
open PySem.IsRange renaming new->lR
open PySem.NameKind renaming free->c9,cell->jy
open PySem.Obj renaming data_mapFields->cm,isFreed_of_fields->cX,putNameByArray->dZ,putName->eN,mapSeq->gS,cls_mapFields->ie,putName_eq->jh,mapFields->lA
open PySem.PyData renaming keyHash->dO,strOk->d7,eqv->fS,depthAll->iV,eqvAll->lB
open PySem.ScopeKind renaming function->gT
open PySem.Shared renaming heap->lU
open PySem.Spec renaming ltCps->fT
open PySem.Stmt renaming casesOn->br
open PySem.Str renaming ofString->cq,length_append->ig
open PySem.Value renaming ref->cI,none->d8,bool->iL,isStrOf->jA
open PySem.Value.type renaming inj->fF
open PySem.W renaming Frag->dw,findIn->dQ,ks_superIn->eO,emptyDict->eU,takerIn->fJ,looks_clsIn->ii,mroIn->iX,typeIn->jH,Looks->kt,looks_mroIn->kz,ownOf->lC,methodObj->lI,lookIn->lO,clsIn->lV
open PySem.W.WData renaming bool->lZ
open PySem.W.WShape renaming hasItems->kO,hasAll->lD
open PySem.W.WTm renaming holds->lH
namespace Mine.Internal
open PySem PySem.W PyProof.Rows PySem.Calls
variable {h h' Ro Rq:aQ}{k n d c j m N k1 nf nn nE:Nat}{pos apos:cV}{α a0 β a1 a2 a3 γ:Type}{y fl:ae}{Q E Sn:ae->af->Prop}{env env':eA}{b L D I TI TO l1 i1 i2 l2:al}{φ F X ws Rm own Y:List al}{o:fq}{target RJ RB value slice:aa}{p p1:Prop}{xs ys Rp rest:List ae}{ss ks is order:List Nat}{mg mb:a9->Option ae}{K:dw}{scope:fP}{vars lv:List (a9×Nat)}{S attrs params:List a9}{vs:Array ae}{w:dW}{A:bc}{R':dP->af->Prop}{prog:cw}{loc:Bool}{T:Nat->List al->aQ->Prop}{attr:a9}{s' s₀ Rn:af}{kvs:List (a9×ae)}{ifs:List aa}{names:List (a9×b9)}{need:Nat->List Nat}{pl:jV Bool}{body:List Stmt}
theorem nt{p0 P:Prop}(h:p0/\p1)(k:p0->p1->P):P:=k h.1 h.2
theorem mF{p0:a0->Prop}{P:Prop}(h:∃x0,p0 x0)(k:∀x0,p0 x0->P):P:=h.elim λx0 h0=>k x0 h0
theorem sf{p0 p2 P:Prop}(h:p0/\p1/\p2)(k:p0->p1->p2->P):P:=k h.1 h.2.1 h.2.2
theorem OS{p0:Prop}{p1:a1->Prop}{P:Prop}(h:p0/\∃x1,p1 x1)(k:p0->∀x1,p1 x1->P):P:=h.2.elim λx1 h1=>k h.1 x1 h1
theorem l8{p0 p1:a0->Prop}{P:Prop}(h:∃x0,p0 x0/\p1 x0)(k:∀x0,p0 x0->p1 x0->P):P:=h.elim λx0 h0=>k x0 h0.1 h0.2
theorem wl{p0:a0->a1->Prop}{P:Prop}(h:∃x0,∃x1,p0 x0 x1)(k:∀x0,∀x1,p0 x0 x1->P):P:=h.elim λx0 h0=>h0.elim λx1 h1=>k x0 x1 h1
theorem vx{p0 p2 p3 P:Prop}(h:p0/\p1/\p2/\p3)(k:p0->p1->p2->p3->P):P:=k h.1 h.2.1 h.2.2.1 h.2.2.2
theorem z6{p0:Prop}{p2:a2->Prop}{P:Prop}(h:p0/\p1/\∃x2,p2 x2)(k:p0->p1->∀x2,p2 x2->P):P:=h.2.2.elim λx2 h2=>k h.1 h.2.1 x2 h2
theorem mM{p0 p1 p2:a0->Prop}{P:Prop}(h:∃x0,p0 x0/\p1 x0/\p2 x0)(k:∀x0,p0 x0->p1 x0->p2 x0->P):P:=h.elim λx0 h0=>k x0 h0.1 h0.2.1 h0.2.2
theorem JL{p0:a0->Prop}{p1:a0->a2->Prop}{P:Prop}(h:∃x0,p0 x0/\∃x2,p1 x0 x2)(k:∀x0,p0 x0->∀x2,p1 x0 x2->P):P:=h.elim λx0 h0=>h0.2.elim λx2 h2=>k x0 h0.1 x2 h2
theorem mJ{p0 p1:a0->a1->Prop}{P:Prop}(h:∃x0,∃x1,p0 x0 x1/\p1 x0 x1)(k:∀x0,∀x1,p0 x0 x1->p1 x0 x1->P):P:=h.elim λx0 h0=>h0.elim λx1 h1=>k x0 x1 h1.1 h1.2
theorem xo{p0:a0->a1->a2->Prop}{P:Prop}(h:∃x0,∃x1,∃x2,p0 x0 x1 x2)(k:∀x0,∀x1,∀x2,p0 x0 x1 x2->P):P:=h.elim λx0 h0=>h0.elim λx1 h1=>h1.elim λx2 h2=>k x0 x1 x2 h2
theorem xn{p0:Prop}{p2 p3:a2->Prop}{P:Prop}(h:p0/\p1/\∃x2,p2 x2/\p3 x2)(k:p0->p1->∀x2,p2 x2->p3 x2->P):P:=h.2.2.elim λx2 h2=>k h.1 h.2.1 x2 h2.1 h2.2
theorem qv{p0 p1 p2 p3:a0->Prop}{P:Prop}(h:∃x0,p0 x0/\p1 x0/\p2 x0/\p3 x0)(k:∀x0,p0 x0->p1 x0->p2 x0->p3 x0->P):P:=h.elim λx0 h0=>k x0 h0.1 h0.2.1 h0.2.2.1 h0.2.2.2
theorem GN{p0 p1:a0->Prop}{p2:a0->a3->Prop}{P:Prop}(h:∃x0,p0 x0/\p1 x0/\∃x3,p2 x0 x3)(k:∀x0,p0 x0->p1 x0->∀x3,p2 x0 x3->P):P:=h.elim λx0 h0=>h0.2.2.elim λx3 h3=>k x0 h0.1 h0.2.1 x3 h3
theorem mI{p0 p1 p2:a0->a1->Prop}{P:Prop}(h:∃x0,∃x1,p0 x0 x1/\p1 x0 x1/\p2 x0 x1)(k:∀x0,∀x1,p0 x0 x1->p1 x0 x1->p2 x0 x1->P):P:=h.elim λx0 h0=>h0.elim λx1 h1=>k x0 x1 h1.1 h1.2.1 h1.2.2
theorem nU{p0 p1:a0->a1->a2->Prop}{P:Prop}(h:∃x0,∃x1,∃x2,p0 x0 x1 x2/\p1 x0 x1 x2)(k:∀x0,∀x1,∀x2,p0 x0 x1 x2->p1 x0 x1 x2->P):P:=h.elim λx0 h0=>h0.elim λx1 h1=>h1.elim λx2 h2=>k x0 x1 x2 h2.1 h2.2
theorem GO{p0:a0->a1->a2->a3->Prop}{P:Prop}(h:∃x0,∃x1,∃x2,∃x3,p0 x0 x1 x2 x3)(k:∀x0,∀x1,∀x2,∀x3,p0 x0 x1 x2 x3->P):P:=h.elim λx0 h0=>h0.elim λx1 h1=>h1.elim λx2 h2=>h2.elim λx3 h3=>k x0 x1 x2 x3 h3
theorem nJ{p0 p2:Prop}{p3 p4:a3->Prop}{P:Prop}(h:p0/\p1/\p2/\∃x3,p3 x3/\p4 x3)(k:p0->p1->p2->∀x3,p3 x3->p4 x3->P):P:=h.2.2.2.elim λx3 h3=>k h.1 h.2.1 h.2.2.1 x3 h3.1 h3.2
theorem EC{p0:Prop}{p2 p3 p4:a2->Prop}{P:Prop}(h:p0/\p1/\∃x2,p2 x2/\p3 x2/\p4 x2)(k:p0->p1->∀x2,p2 x2->p3 x2->p4 x2->P):P:=h.2.2.elim λx2 h2=>k h.1 h.2.1 x2 h2.1 h2.2.1 h2.2.2
theorem EE{p0 p1 p2 p3 p4:a0->Prop}{P:Prop}(h:∃x0,p0 x0/\p1 x0/\p2 x0/\p3 x0/\p4 x0)(k:∀x0,p0 x0->p1 x0->p2 x0->p3 x0->p4 x0->P):P:=h.elim λx0 h0=>k x0 h0.1 h0.2.1 h0.2.2.1 h0.2.2.2.1 h0.2.2.2.2
theorem pH{p0 p1 p2 p3:a0->a1->Prop}{P:Prop}(h:∃x0,∃x1,p0 x0 x1/\p1 x0 x1/\p2 x0 x1/\p3 x0 x1)(k:∀x0,∀x1,p0 x0 x1->p1 x0 x1->p2 x0 x1->p3 x0 x1->P):P:=h.elim λx0 h0=>h0.elim λx1 h1=>k x0 x1 h1.1 h1.2.1 h1.2.2.1 h1.2.2.2
theorem o9{p0 p1 p2:a0->a1->a2->Prop}{P:Prop}(h:∃x0,∃x1,∃x2,p0 x0 x1 x2/\p1 x0 x1 x2/\p2 x0 x1 x2)(k:∀x0,∀x1,∀x2,p0 x0 x1 x2->p1 x0 x1 x2->p2 x0 x1 x2->P):P:=h.elim λx0 h0=>h0.elim λx1 h1=>h1.elim λx2 h2=>k x0 x1 x2 h2.1 h2.2.1 h2.2.2
theorem vy{p0 p1:a0->a1->a2->a3->Prop}{P:Prop}(h:∃x0,∃x1,∃x2,∃x3,p0 x0 x1 x2 x3/\p1 x0 x1 x2 x3)(k:∀x0,∀x1,∀x2,∀x3,p0 x0 x1 x2 x3->p1 x0 x1 x2 x3->P):P:=h.elim λx0 h0=>h0.elim λx1 h1=>h1.elim λx2 h2=>h2.elim λx3 h3=>k x0 x1 x2 x3 h3.1 h3.2
theorem wj{a4:Type}{p0:Prop}{p2 p3:a2->a3->a4->Prop}{P:Prop}(h:p0/\p1/\∃x2,∃x3,∃x4,p2 x2 x3 x4/\p3 x2 x3 x4)(k:p0->p1->∀x2,∀x3,∀x4,p2 x2 x3 x4->p3 x2 x3 x4->P):P:=h.2.2.elim λx2 h2=>h2.elim λx3 h3=>h3.elim λx4 h4=>k h.1 h.2.1 x2 x3 x4 h4.1 h4.2
theorem sD{p0 p1 p2 p3 p4:a0->a1->Prop}{P:Prop}(h:∃x0,∃x1,p0 x0 x1/\p1 x0 x1/\p2 x0 x1/\p3 x0 x1/\p4 x0 x1)(k:∀x0,∀x1,p0 x0 x1->p1 x0 x1->p2 x0 x1->p3 x0 x1->p4 x0 x1->P):P:=h.elim λx0 h0=>h0.elim λx1 h1=>k x0 x1 h1.1 h1.2.1 h1.2.2.1 h1.2.2.2.1 h1.2.2.2.2
theorem mN{p0 p1 p2 p3:a0->a1->a2->Prop}{P:Prop}(h:∃x0,∃x1,∃x2,p0 x0 x1 x2/\p1 x0 x1 x2/\p2 x0 x1 x2/\p3 x0 x1 x2)(k:∀x0,∀x1,∀x2,p0 x0 x1 x2->p1 x0 x1 x2->p2 x0 x1 x2->p3 x0 x1 x2->P):P:=h.elim λx0 h0=>h0.elim λx1 h1=>h1.elim λx2 h2=>k x0 x1 x2 h2.1 h2.2.1 h2.2.2.1 h2.2.2.2
theorem uc{p0 p1 p2:a0->a1->a2->a3->Prop}{P:Prop}(h:∃x0,∃x1,∃x2,∃x3,p0 x0 x1 x2 x3/\p1 x0 x1 x2 x3/\p2 x0 x1 x2 x3)(k:∀x0,∀x1,∀x2,∀x3,p0 x0 x1 x2 x3->p1 x0 x1 x2 x3->p2 x0 x1 x2 x3->P):P:=h.elim λx0 h0=>h0.elim λx1 h1=>h1.elim λx2 h2=>h2.elim λx3 h3=>k x0 x1 x2 x3 h3.1 h3.2.1 h3.2.2
theorem z7{a4:Type}{p0:Prop}{p2 p3 p4:a2->a3->a4->Prop}{P:Prop}(h:p0/\p1/\∃x2,∃x3,∃x4,p2 x2 x3 x4/\p3 x2 x3 x4/\p4 x2 x3 x4)(k:p0->p1->∀x2,∀x3,∀x4,p2 x2 x3 x4->p3 x2 x3 x4->p4 x2 x3 x4->P):P:=h.2.2.elim λx2 h2=>h2.elim λx3 h3=>h3.elim λx4 h4=>k h.1 h.2.1 x2 x3 x4 h4.1 h4.2.1 h4.2.2
theorem pq{p0 p1 p2 p3 p4 p5:a0->a1->Prop}{P:Prop}(h:∃x0,∃x1,p0 x0 x1/\p1 x0 x1/\p2 x0 x1/\p3 x0 x1/\p4 x0 x1/\p5 x0 x1)(k:∀x0,∀x1,p0 x0 x1->p1 x0 x1->p2 x0 x1->p3 x0 x1->p4 x0 x1->p5 x0 x1->P):P:=h.elim λx0 h0=>h0.elim λx1 h1=>k x0 x1 h1.1 h1.2.1 h1.2.2.1 h1.2.2.2.1 h1.2.2.2.2.1 h1.2.2.2.2.2
theorem mR{p0 p1 p2 p3 p4:a0->a1->a2->Prop}{P:Prop}(h:∃x0,∃x1,∃x2,p0 x0 x1 x2/\p1 x0 x1 x2/\p2 x0 x1 x2/\p3 x0 x1 x2/\p4 x0 x1 x2)(k:∀x0,∀x1,∀x2,p0 x0 x1 x2->p1 x0 x1 x2->p2 x0 x1 x2->p3 x0 x1 x2->p4 x0 x1 x2->P):P:=h.elim λx0 h0=>h0.elim λx1 h1=>h1.elim λx2 h2=>k x0 x1 x2 h2.1 h2.2.1 h2.2.2.1 h2.2.2.2.1 h2.2.2.2.2
theorem sQ{p0 p1 p2 p3:a0->a1->a2->a3->Prop}{P:Prop}(h:∃x0,∃x1,∃x2,∃x3,p0 x0 x1 x2 x3/\p1 x0 x1 x2 x3/\p2 x0 x1 x2 x3/\p3 x0 x1 x2 x3)(k:∀x0,∀x1,∀x2,∀x3,p0 x0 x1 x2 x3->p1 x0 x1 x2 x3->p2 x0 x1 x2 x3->p3 x0 x1 x2 x3->P):P:=h.elim λx0 h0=>h0.elim λx1 h1=>h1.elim λx2 h2=>h2.elim λx3 h3=>k x0 x1 x2 x3 h3.1 h3.2.1 h3.2.2.1 h3.2.2.2
theorem pI{p0 p1 p2 p3 p4 p5:a0->a1->a2->Prop}{P:Prop}(h:∃x0,∃x1,∃x2,p0 x0 x1 x2/\p1 x0 x1 x2/\p2 x0 x1 x2/\p3 x0 x1 x2/\p4 x0 x1 x2/\p5 x0 x1 x2)(k:∀x0,∀x1,∀x2,p0 x0 x1 x2->p1 x0 x1 x2->p2 x0 x1 x2->p3 x0 x1 x2->p4 x0 x1 x2->p5 x0 x1 x2->P):P:=h.elim λx0 h0=>h0.elim λx1 h1=>h1.elim λx2 h2=>k x0 x1 x2 h2.1 h2.2.1 h2.2.2.1 h2.2.2.2.1 h2.2.2.2.2.1 h2.2.2.2.2.2
theorem ux{p0 p1 p2 p3 p4:a0->a1->a2->a3->Prop}{P:Prop}(h:∃x0,∃x1,∃x2,∃x3,p0 x0 x1 x2 x3/\p1 x0 x1 x2 x3/\p2 x0 x1 x2 x3/\p3 x0 x1 x2 x3/\p4 x0 x1 x2 x3)(k:∀x0,∀x1,∀x2,∀x3,p0 x0 x1 x2 x3->p1 x0 x1 x2 x3->p2 x0 x1 x2 x3->p3 x0 x1 x2 x3->p4 x0 x1 x2 x3->P):P:=h.elim λx0 h0=>h0.elim λx1 h1=>h1.elim λx2 h2=>h2.elim λx3 h3=>k x0 x1 x2 x3 h3.1 h3.2.1 h3.2.2.1 h3.2.2.2.1 h3.2.2.2.2
theorem mr{a:α}(e:(none:Option α)=some a):p:=nomatch e
theorem ma(e:false=true):p:=nomatch e
inductive V where
 |none
 |bool (b:Bool)
 |int (i:Int)
 |sym (k:Nat)
 |itxt (i:Int)
 |txt (n:Nat)
 |tup (l:List V)
 |lst (l:List V)
 |dct (l:List (Nat×V))
 |obj (n:Nat)
inductive O where
 |list (l:List V)
 |dict (l:List (Nat×V))
 |inst (c d:Nat)
noncomputable abbrev St:=List O
noncomputable abbrev uK(xs:List ae)(n:Nat):fq:={cls:=.type "tuple",dict:=none,data:=.seq xs.toArray n,slots:=#[]}
noncomputable abbrev pp(xs:List ae)(n:Nat):fq:={cls:=.type "list",dict:=none,data:=.seq xs.toArray n,slots:=#[]}
structure Wd where
 prog:cw
 w:dW
 S:List a9
 base:aQ
 cls:Nat->al
 exc:al
 hid:List al
noncomputable abbrev Wd.M(W:Wd):gQ:=b8 W.prog W.w
mutual
noncomputable def mm(W:Wd)(φ:List al)(h:aQ):V->ae->Prop
 |.none,x=>x=.none
 |.bool b,x=>x=.bool b
 |.int i,x=>∃t,x=.int i t
 |.sym k,x=>∃s t,W.S[k]?=some s/\x=.str s t
 |.itxt i,x=>∃t,x=.str (cq (toString i)) t
 |.txt n,x=>∃s t,s.length<=n/\x=.str s t
 |.tup l,x=>∃a xs n,x=.ref a/\(a∉φ/\a∉W.hid)/\xs.length<=bM/\h.get? a=some (uK xs n)/\my W φ h l xs
 |.lst l,x=>∃a xs n,x=.ref a/\(a∉φ/\a∉W.hid)/\xs.length<=bM/\h.get? a=some (pp xs n)/\my W φ h l xs
 |.dct l,x=>∃a kvs,x=.ref a/\(a∉φ/\∃o,W.base.get? a=some o)/\a≠ef/\h.DictOf (strKind W.prog W.w) a kvs/\nq W φ h l kvs
 |.obj n,x=>∃a,φ[n]?=some a/\x=.ref a
noncomputable def my(W:Wd)(φ:List al)(h:aQ):List V->List ae->Prop
 |[],xs=>xs=[]
 |v::l,xs=>∃x r,xs=x::r/\mm W φ h v x/\my W φ h l r
noncomputable def nq(W:Wd)(φ:List al)(h:aQ):List (Nat×V)->List (a9×ae)->Prop
 |[],es=>es=[]
 |(k,v)::l,es=>∃s x r,es=(s,x)::r/\W.S[k]?=some s/\mm W φ h v x/\nq W φ h l r
end
structure pP(φ:List al)(h h':aQ):Prop where
 there:∀b o,h.get? b=some o->∃o',h'.get? b=some o'
 keep:∀b o,h.get? b=some o->b∉φ->∃sl,h'.get? b=some {o with slots:=sl}/\(o.cls≠.type "frame" -> sl=o.slots)
theorem pP.refl(φ:List al)(h:aQ):pP φ h h:=⟨λZ o e=>⟨o,e⟩,λZ o e Z=>⟨o.slots,e,λZ=>rfl⟩⟩
theorem pP.exact(x:pP φ h h')(e:h.get? b=some o)(hb:b∉φ)(hf:o.cls≠.type "frame"):h'.get? b=some o:=by
 refine l8 (x.keep b o e hb) λsl e' hs=>?_;rw[e',hs hf]
def Grows(h:aQ)(φ Rm:List al):Prop:=∃ψ,Rm=φ++ψ/\∀a∈ψ,h.get? a=none
theorem Grows.refl(h:aQ)(φ:List al):Grows h φ φ:=⟨[],by simp,by simp⟩
theorem Grows.one(h:aQ)(φ:List al){a:al}(ha:h.get? a=none):Grows h φ (φ++[a]):=⟨[a],rfl,by simpa using ha⟩
theorem Grows.notin(g:Grows h φ Rm)(e:h.get? b=some o)(hb:b∉φ):b∉Rm:=by
 refine l8 g λψ RA TY=>?_;subst RA;intro hm
 rcases aH.mp hm with hm | hm
 .exact hb hm
 .rw[TY b hm] at e;cases e
theorem Grows.get(g:Grows h φ Rm){a:al}(e:φ[n]?=some a):Rm[n]?=some a:=by
 refine l8 g λψ RA Z=>?_;subst RA
 have hn:n < φ.length:=by
  rcases eR n φ.length with hl | hl
  .exact hl
  .rw[cA hl] at e;cases e
 rw[aJ hn];exact e
theorem pP.fresh(x:pP X h h'){a:al}(e:h'.get? a=none):h.get? a=none:=by
 cases q:h.get? a with
 |none=>rfl
 |some o=>refine mF (x.there a o q) λo' e'=>?_;rw[e] at e';cases e'
theorem Grows.trans{RN:List al}(x:pP X h h')(g:Grows h φ Rm)(g':Grows h' Rm RN):Grows h φ RN:=by
 refine l8 g λψ RA TY=>?_;subst RA;refine l8 g' λXw RA Uy=>?_;subst RA;refine⟨ψ++Xw,by simp,λa ha=>?_⟩
 rcases aH.mp ha with ha | ha
 .exact TY a ha
 .exact x.fresh (Uy a ha)
theorem pP.mono(x:pP X h h')(hs:∀b∈X,b∈Y):pP Y h h':=⟨x.there,λb o e hb=>x.keep b o e λhm=>hb (hs b hm)⟩
theorem pP.trans{Sp:aQ}(x:pP X h h')(y:pP Y h' Sp)(hY:∀b∈Y,b∈X\/h.get? b=none):pP X h Sp:=by
 refine⟨λb o e=>?_,λb o e hb=>?_⟩
 .refine mF (x.there b o e) λo' e'=>?_;exact y.there b o' e'
 .refine l8 (x.keep b o e hb) λsl e' hs=>?_
  obtain ⟨U1,SQ,RQ⟩:=y.keep b _ e' λhm=>by
   rcases hY b hm with q | q
   .exact hb q
   .rw[e] at q;cases q
  exact⟨U1,SQ,λhf=>(RQ hf).trans (hs hf)⟩
theorem rH:(uK xs n).cls≠.type "frame" := by simp
theorem o8:(pp xs n).cls≠.type "frame" := by simp
def Apart(W:Wd)(φ X:List al)(h:aQ):Prop:=∀b∈X,b∉φ->W.base.get? b=none/\(b∈W.hid\/∀o,h.get? b=some o->∀xs n,o.data≠.seq xs n)
theorem Apart.self(W:Wd)(φ:List al)(h:aQ):Apart W φ φ h:=λZ hb hn=>absurd hb hn
theorem Apart.nil(W:Wd)(φ:List al)(h:aQ):Apart W φ [] h:=λZ hb=>nomatch hb
theorem Apart.append{W:Wd}(x:Apart W φ X h)(y:Apart W φ Y h):Apart W φ (X++Y) h:=λb hb=>(aH.mp hb).elim (x b) (y b)
theorem Apart.seq{W:Wd}(x:Apart W φ X h)(hb:b∉φ/\b∉W.hid)(e:h.get? b=some o)(hd:∃xs n,o.data=.seq xs n):b∉X:=λhm=>by
 refine wl hd λxs n hd=>?_;exact (x b hm hb.1).2.resolve_left hb.2 o e xs n hd
abbrev Kp(X:List al)(h h':aQ):Prop:=∀b o,h.get? b=some o->b∉X->∃sl,h'.get? b=some {o with slots:=sl}/\(o.cls≠.type "frame" -> sl=o.slots)
theorem Kp.exact(x:Kp φ h h')(e:h.get? b=some o)(hb:b∉φ)(hf:o.cls≠.type "frame"):h'.get? b=some o:=by
 refine l8 (x b o e hb) λsl e' hs=>?_;rw[e',hs hf]
section
variable {W:Wd}
mutual
theorem mm.kp(x:Kp X h h')(ap:Apart W φ X h)(g:Grows h φ Rm):∀{v:V} {y:ae},mm W φ h v y->mm W Rm h' v y
 |.none,_,r=>r
 |.bool _,_,r=>r
 |.int _,_,r=>r
 |.sym _,_,r=>r
 |.itxt _,_,r=>r
 |.txt _,_,r=>r
 |.tup l,_,r=>by
  obtain ⟨a,xs,n,rfl,ha,hz,e,r⟩:=r;exact⟨a,xs,n,rfl,⟨g.notin e ha.1,ha.2⟩,hz,x.exact e (ap.seq ha e ⟨_,_,rfl⟩) rH,my.kp x ap g r⟩
 |.lst l,_,r=>by
  obtain ⟨a,xs,n,rfl,ha,hz,e,r⟩:=r;exact⟨a,xs,n,rfl,⟨g.notin e ha.1,ha.2⟩,hz,x.exact e (ap.seq ha e ⟨_,_,rfl⟩) o8,my.kp x ap g r⟩
 |.dct l,_,r=>by
  obtain ⟨a,kvs,rfl,ha,hs,⟨o,es,ep,e,c,q⟩,r⟩:=r
  exact⟨a,kvs,rfl,⟨g.notin e ha.1,ha.2⟩,hs,⟨o,es,ep,x.exact e (λhm=>by
   refine mF ha.2 λo' UC=>?_
   rw[(ap a hm ha.1).1] at UC;cases UC) (by rw[c.1];simp),c,q⟩,nq.kp x ap g r⟩
 |.obj n,_,r=>by
  refine l8 r λa e Rz=>?_;subst Rz;exact⟨a,g.get e,rfl⟩
theorem my.kp(x:Kp X h h')(ap:Apart W φ X h)(g:Grows h φ Rm):∀{l:List V} {ys:List ae},my W φ h l ys->my W Rm h' l ys
 |[],_,r=>r
 |v::l,_,r=>by
  refine mI r λy ys Rz a b=>?_;subst Rz;exact⟨y,ys,rfl,mm.kp x ap g a,my.kp x ap g b⟩
theorem nq.kp(x:Kp X h h')(ap:Apart W φ X h)(g:Grows h φ Rm):∀{l:List (Nat×V)} {es:List (a9×ae)},nq W φ h l es->nq W Rm h' l es
 |[],_,r=>r
 |(k,v)::l,_,r=>by
  refine mN r λs y es RI hk a b=>?_;subst RI;exact⟨s,y,es,rfl,hk,mm.kp x ap g a,nq.kp x ap g b⟩
end
end
section
variable {W:Wd}
theorem mm.evo(x:pP X h h')(ap:Apart W φ X h)(g:Grows h φ Rm){v:V}(r:mm W φ h v y):mm W Rm h' v y:=r.kp x.keep ap g
theorem my.evo(x:pP X h h')(ap:Apart W φ X h)(g:Grows h φ Rm){l:List V}(r:my W φ h l ys):my W Rm h' l ys:=r.kp x.keep ap g
theorem nq.evo(x:pP X h h')(ap:Apart W φ X h)(g:Grows h φ Rm){l:List (Nat×V)}{es:List (a9×ae)}(r:nq W φ h l es):nq W Rm h' l es:=r.kp x.keep ap g
end
def o4(W:Wd)(φ:List al)(h:aQ):O->al->Prop
 |.list l,a=>∃xs n,xs.length<=bM/\h.get? a=some (pp xs n)/\my W φ h l xs
 |.dict l,a=>∃kvs,h.DictOf (strKind W.prog W.w) a kvs/\nq W φ h l kvs
 |.inst c d,a=>∃b,φ[d]?=some b/\h.get? a=some {cls:=.ref (W.cls c),dict:=some b,data:=.plain,slots:=#[]}
structure Inv(W:Wd)(φ:List al)(σ:St)(h:aQ):Prop where
 base:W.base.StaysIn h
 len:φ.length=σ.length
 nodup:φ.Nodup
 new:∀a∈φ,W.base.get? a=none
 hid:∀a∈W.hid,∃o,h.get? a=some o
 rep:∀(n:Nat) (o:O) (a:al),σ[n]?=some o->φ[n]?=some a->o4 W φ h o a
theorem o4.kp{W:Wd}(x:Kp X h h')(ap:Apart W φ X h)(g:Grows h φ Rm){o:O}{a:al}(hX:a∉X)(r:o4 W φ h o a):o4 W Rm h' o a:=by
 cases o with
 |list l=>
  refine mI r λxs n hz e r=>?_;exact⟨xs,n,hz,x.exact e hX o8,r.kp x ap g⟩
 |dict l=>
  refine l8 r λkvs RV r=>?_;obtain ⟨o,es,ep,e,c,q⟩:=RV;exact⟨kvs,⟨o,es,ep,x.exact e hX (by rw[c.1];simp),c,q⟩,r.kp x ap g⟩
 |inst c d=>
  refine l8 r λb hb e=>?_;exact⟨b,g.get hb,x.exact e hX (by simp)⟩
theorem o4.evo{W:Wd}(x:pP X h h')(ap:Apart W φ X h)(g:Grows h φ Rm){o:O}{a:al}(hX:a∉X)(r:o4 W φ h o a):o4 W Rm h' o a:=r.kp x.keep ap g hX
theorem Inv.evo{W:Wd}{σ:St}(i:Inv W φ σ h)(x:pP X h h')(ap:Apart W φ X h)(hX:∀a∈φ,a∉X)(hb:W.base.StaysIn h'):Inv W φ σ h':=
 ⟨hb,i.len,i.nodup,i.new,λa ha=>let ⟨o,e⟩:=i.hid a ha;x.there a o e,λn o a e1 e2=>(i.rep n o a e1 e2).evo x ap (.refl _ _) (hX a (bq e2))⟩
theorem Inv.kp{W:Wd}{σ:St}(i:Inv W φ σ h)(x:Kp X h h')(ap:Apart W φ X h)(hX:∀a∈φ,a∉X)(hb:W.base.StaysIn h')(hh:∀a∈W.hid,∃o,h'.get? a=some o):Inv W φ σ h':=
 ⟨hb,i.len,i.nodup,i.new,hh,λn o a e1 e2=>(i.rep n o a e1 e2).kp x ap (.refl _ _) (hX a (bq e2))⟩
structure Good(W:Wd)(own φ:List al)(s:af)(σ':St)(Rm:List al)(s':af):Prop where
 grows:Grows s.heap φ Rm
 evo:pP (φ++own) s.heap s'.heap
 inv:Inv W Rm σ' s'.heap
 gens:s'.gens=s.gens
 os:s'.os=s.os
theorem Good.refl{W:Wd}{σ:St}{s:af}(i:Inv W φ σ s.heap):Good W own φ s σ φ s:=⟨Grows.refl _ _,pP.refl _ _,i,rfl,rfl⟩
theorem Grows.either(g:Grows h φ Rm)(hb:b∈Rm):b∈φ\/h.get? b=none:=by
 refine l8 g λψ RA TY=>?_;subst RA;exact (aH.mp hb).imp id (TY b)
theorem Good.trans{W:Wd}{Ru RE:List al}{Rx RK:St}{s Rr:af}(x:Good W own φ s Rx Ru Rn)(y:Good W own Ru Rn RK RE Rr):Good W own φ s RK RE Rr:=by
 refine⟨x.grows.trans x.evo y.grows,x.evo.trans y.evo λb hb=>?_,y.inv,y.gens.trans x.gens,y.os.trans x.os⟩
 rcases aH.mp hb with hb | hb
 .exact (x.grows.either hb).imp (bD _) id
 .exact .inl (bA _ hb)
theorem Good.more{W:Wd}{U7:List al}{σ':St}{s:af}(x:Good W own φ s σ' Rm s')(hs:∀a∈own,a∈U7):Good W U7 φ s σ' Rm s':=
 ⟨x.grows,x.evo.mono λb hb=>(aH.mp hb).elim (bD _) λh=>bA _ (hs b h),x.inv,x.gens,x.os⟩
theorem Good.up{W:Wd}{σ':St}{s:af}(x:Good W [] φ s σ' Rm s'):Good W own φ s σ' Rm s':=x.more λZ h=>nomatch h
theorem Good.rep{W:Wd}{σ':St}{s:af}(x:Good W [] φ s σ' Rm s'){v:V}(r:mm W φ s.heap v y):mm W Rm s'.heap v y:=
 r.evo x.evo ((Apart.self _ _ _).append (Apart.nil _ _ _)) x.grows
theorem Good.repL{W:Wd}{σ':St}{s:af}(x:Good W [] φ s σ' Rm s'){v:List V}{y:List ae}(r:my W φ s.heap v y):my W Rm s'.heap v y:=
 r.evo x.evo ((Apart.self _ _ _).append (Apart.nil _ _ _)) x.grows
theorem Ll{n:Int}(a:-100000000<=n)(b:n<=100000000):-2 ^ 63<=n/\n < 2 ^ 63:=⟨b6 (by decide) a,cY b (by decide)⟩
theorem PH{a L:Nat}(h:a+3 * (d+1)+3<=L):a+1+3 * d+5<=L:=(be a 1 (3 * d)).symm▸h
theorem PJ{a L:Nat}(h:a+20 * (d+1)+200<=L):a+3+20 * d+210<=L:=by
 rw[Nat.mul_succ,<-da,da _ 20] at h;rw[be a 3,da _ 3];exact ac (aC (by decide) _) h
theorem PK{a u L:Nat}(hw:u<=2)(h:a+3 * d+5<=L):a+u+3 * d+3<=L:=ac (by rw[be a u];exact aC (a8 hw 3) (a+3 * d)) h
theorem PL{a u L:Nat}(hw:u<=5)(h:a+20 * d+210<=L):a+u+20 * d+200<=L:=by
 rw[be a u,da _ u];exact ac (aC (ac (a8 hw 200) (by decide)) _) h
theorem PM{a b L:Nat}(h:a+b+3<=L):a < L:=ao (ic (ac (aA a b) (aA _ 2))) h
theorem PN{a u L:Nat}(hw:u<=2)(h:a+3 * d+5<=L):a+u+1 < L:=
 have h2:a+3<=a+3 * d+4:=bk (aA a (3 * d)) (by decide)
 ao (ic (ac (a8 (aC hw a) 1) h2)) h
theorem te{l:List α}{a b:α}(hl:l.length<=n)(e:(l++[a])[n]?=some b):n=l.length/\a=b:=by
 have h:=(aq.mp e).1;rw[ah] at h;obtain rfl:=iT hl (bW h);exact⟨rfl,am (eG.symm.trans e)⟩
variable {σ τ σ':St}{l:List V}{W W':Wd}{its:V}{p2:a0->a1->Prop}{Q₁:β->af->Prop}{Sm Sl Sk Sj Si SR SA SL:Option V}{p3:a0->a1->Prop}
inductive R(ε α:Type)where
 |ok (a:α) (σ:St)
 |exc (e:ε) (σ:St)
 |bad
namespace R
variable {ε Ur α β:Type}
noncomputable def bind:R ε α->(α->St->R ε β)->R ε β
 |.ok a σ,f=>f a σ
 |.exc e σ,_=>.exc e σ
 |.bad,_=>.bad
noncomputable def lift(e:ε):R Unit α->R ε α
 |.ok a σ=>.ok a σ
 |.exc _ σ=>.exc e σ
 |.bad=>.bad
noncomputable def of(o:Option α)(σ:St):R ε α:=match o with
 |some a=>.ok a σ
 |none=>.bad
@[simp] theorem bind_ok(a:α)(σ:St)(f:α->St->R ε β):(R.ok a σ).bind f=f a σ:=rfl
@[simp] theorem bind_exc(e:ε)(σ:St)(f:α->St->R ε β):(R.exc e σ).bind f=.exc e σ:=rfl
@[simp] theorem bind_bad(f:α->St->R ε β):(R.bad:R ε α).bind f=.bad:=rfl
@[simp] theorem lift_ok(e:ε)(a:α)(σ:St):(R.ok a σ).lift e=.ok a σ:=rfl
@[simp] theorem lift_exc(e:ε)(u:Unit)(σ:St):(R.exc u σ:R Unit α).lift e=.exc e σ:=rfl
@[simp] theorem lift_bad(e:ε):(R.bad:R Unit α).lift e=.bad:=rfl
@[simp] theorem of_some(a:α)(σ:St):(R.of (some a) σ:R ε α)=.ok a σ:=rfl
@[simp] theorem of_none(σ:St):(R.of none σ:R ε α)=.bad:=rfl
noncomputable def opt(o:Option α)(f:α->R ε β):R ε β:=match o with
 |some a=>f a
 |none=>.bad
end R
noncomputable def gd{ε α:Type}(p:Prop)[Decidable p](r:R ε α):R ε α:=if p then r else .bad
noncomputable def og{α:Type}(p:Prop)[Decidable p](a:α):Option α:=if p then some a else none
theorem nW[Decidable p]{a b:α}(h:og p a=some b):p/\a=b:=
 if c:p then ⟨c,am ((if_pos c).symm.trans h)⟩ else mr ((if_neg c).symm.trans h)
theorem bs{o:Option α}{f:α->Option β}{b:β}(h:o.bind f=some b):∃a,o=some a/\f a=some b:=by
 cases o with
 |none=>exact mr h
 |some a=>exact⟨a,rfl,h⟩
theorem ms{o:Option α}{f:α->β}{b:β}(h:o.map f=some b):∃a,o=some a/\f a=b:=by
 cases o with
 |none=>exact mr h
 |some a=>exact⟨a,rfl,am h⟩
theorem b2{a b:Bool}(h:(a&&b)=true):a=true/\b=true:=b5.mp h
inductive HD where
 |add | sub | mul | mod
inductive CY where
 |eq | ne | lt | gt | isin | notin | is | isnt
set_option genCtorIdx false in
set_option genCtorIdx false in
inductive BI where
 |len | any | sorted (m:Bool) | list (m:Bool) | tuple | dict | str
inductive BM where
 |append | pop0 | pop1 | insert | extend | update
set_option genCtorIdx false in
set_option genCtorIdx false in
inductive MX where
 |lit (v:V)
 |var (i:Nat)
 |glob (k:Nat)
 |nil
 |cons (e es:MX)
 |tup (es:MX)
 |lst (m:Bool) (es:MX)
 |dict (ks:List Nat) (es:MX)
 |attr (e:MX) (k:Nat)
 |idx (e i:MX)
 |upto (e i:MX)
 |bin (op:HD) (a b:MX)
 |cmp (op:CY) (a b:MX)
 |not (a:MX)
 |and (es:MX)
 |or (es:MX)
 |ite (c a b:MX)
 |call (f:Nat) (es:MX)
 |meth (e:MX) (k:Nat) (es:MX)
 |bi (b:BI) (e:MX)
 |bm (m:BM) (e es:MX)
 |new (c:Nat)
 |fstr (n:Nat) (es:MX)
 |comp (t Rt cond RF:MX)
 |inEach (Rt:MX) (j:Nat)
 |rng (es:MX)
 |zip (a b:MX)
set_option genCtorIdx false in
set_option genCtorIdx false in
inductive MS where
 |skip
 |seq (a b:MS)
 |expr (e:MX)
 |asg (t e:MX)
 |aug (i:Nat) (e:MX)
 |ret (e:MX)
 |iff (c:MX) (a b:MS)
 |whl (c:MX) (b:MS)
 |for (t it:MX) (b:MS)
 |raise (a b:MX)
 |tryf (b f:MS)
 |tryx (b h:MS)
 |hole
noncomputable abbrev mc:=List (Option V)
set_option genCtorIdx false in
set_option genCtorIdx false in
inductive Fl where
 |next
 |ret (v:V)
structure AV where
 params:Nat
 slots:Nat
 body:MS
structure Pg where
 fn:Nat->Option AV
 const:Nat->V
 meth:Nat->Nat->Option Nat
 init:Nat->Option Nat
 cat:Nat->Int->Option Nat
 slen:Nat->Nat
noncomputable def si:V->Option Nat
 |.obj n=>some n
 |_=>none
noncomputable def sK:V->Option Nat
 |.sym n=>some n
 |_=>none
noncomputable def nu:V->Option Int
 |.int n=>some n
 |_=>none
noncomputable def zQ:V->Option Int
 |.itxt n=>some n
 |_=>none
noncomputable def wD:V->Option (List V)
 |.tup l=>some l
 |_=>none
noncomputable def Ed:V->Option (List V)
 |.lst l=>some l
 |_=>none
theorem oK{v:V}:si v=some n->v=.obj n:=V.casesOn (motive_1:=λv=>si v=some n->v=.obj n) v mr (λZ=>mr) (λZ=>mr) (λZ=>mr) (λZ=>mr) (λZ=>mr) (λZ=>mr) (λZ=>mr) (λZ=>mr) (λZ h=>congrArg V.obj (am h))
theorem qm{v:V}:sK v=some n->v=.sym n:=V.casesOn (motive_1:=λv=>sK v=some n->v=.sym n) v mr (λZ=>mr) (λZ=>mr) (λZ h=>congrArg V.sym (am h)) (λZ=>mr) (λZ=>mr) (λZ=>mr) (λZ=>mr) (λZ=>mr) (λZ=>mr)
theorem m6{v:V}{n:Int}:nu v=some n->v=.int n:=V.casesOn (motive_1:=λv=>nu v=some n->v=.int n) v mr (λZ=>mr) (λZ h=>congrArg V.int (am h)) (λZ=>mr) (λZ=>mr) (λZ=>mr) (λZ=>mr) (λZ=>mr) (λZ=>mr) (λZ=>mr)
theorem B6{v:V}{n:Int}:zQ v=some n->v=.itxt n:=V.casesOn (motive_1:=λv=>zQ v=some n->v=.itxt n) v mr (λZ=>mr) (λZ=>mr) (λZ=>mr) (λZ h=>congrArg V.itxt (am h)) (λZ=>mr) (λZ=>mr) (λZ=>mr) (λZ=>mr) (λZ=>mr)
theorem qY{v:V}{n:List V}:wD v=some n->v=.tup n:=V.casesOn (motive_1:=λv=>wD v=some n->v=.tup n) v mr (λZ=>mr) (λZ=>mr) (λZ=>mr) (λZ=>mr) (λZ=>mr) (λZ h=>congrArg V.tup (am h)) (λZ=>mr) (λZ=>mr) (λZ=>mr)
theorem uQ{v:V}{n:List V}:Ed v=some n->v=.lst n:=V.casesOn (motive_1:=λv=>Ed v=some n->v=.lst n) v mr (λZ=>mr) (λZ=>mr) (λZ=>mr) (λZ=>mr) (λZ=>mr) (λZ=>mr) (λZ h=>congrArg V.lst (am h)) (λZ=>mr) (λZ=>mr)
noncomputable def pe:V->Option Bool
 |.bool b=>some b
 |_=>none
theorem pL{v:V}{n:Bool}:pe v=some n->v=.bool n:=V.casesOn (motive_1:=λv=>pe v=some n->v=.bool n) v mr (λZ h=>congrArg V.bool (am h)) (λZ=>mr) (λZ=>mr) (λZ=>mr) (λZ=>mr) (λZ=>mr) (λZ=>mr) (λZ=>mr) (λZ=>mr)
noncomputable def sP:V->Option Unit
 |.none=>some ()
 |_=>none
theorem ua{v:V}{u:Unit}:sP v=some u->v=.none:=V.casesOn (motive_1:=λv=>sP v=some u->v=.none) v (λZ=>rfl) (λZ=>mr) (λZ=>mr) (λZ=>mr) (λZ=>mr) (λZ=>mr) (λZ=>mr) (λZ=>mr) (λZ=>mr) (λZ=>mr)
noncomputable def Fk:V->Option Nat
 |.txt n=>some n
 |_=>none
theorem Fm{v:V}:Fk v=some n->v=.txt n:=V.casesOn (motive_1:=λv=>Fk v=some n->v=.txt n) v mr (λZ=>mr) (λZ=>mr) (λZ=>mr) (λZ=>mr) (λZ h=>congrArg V.txt (am h)) (λZ=>mr) (λZ=>mr) (λZ=>mr) (λZ=>mr)
noncomputable def O.l?:O->Option (List V)
 |.list l=>some l
 |_=>none
noncomputable def O.d?:O->Option (List (Nat×V))
 |.dict l=>some l
 |_=>none
noncomputable def O.i?:O->Option (Nat×Nat)
 |.inst c d=>some (c,d)
 |_=>none
noncomputable def listAt(σ:St)(n:Nat):Option (List V):=(σ[n]?).bind O.l?
noncomputable def dictAt(σ:St)(n:Nat):Option (List (Nat×V)):=(σ[n]?).bind O.d?
noncomputable def qG(σ:St)(n:Nat):Option (Nat×Nat):=(σ[n]?).bind O.i?
theorem O.l_eq{o:O}:o.l?=some l->o=.list l:=O.casesOn (motive:=λo=>o.l?=some l->o=.list l) o (λZ h=>congrArg O.list (am h)) (λZ=>mr) (λZ Z=>mr)
theorem O.d_eq{o:O}{l:List (Nat×V)}:o.d?=some l->o=.dict l:=O.casesOn (motive:=λo=>o.d?=some l->o=.dict l) o (λZ=>mr) (λZ h=>congrArg O.dict (am h)) (λZ Z=>mr)
theorem O.i_eq{o:O}{l:Nat×Nat}:o.i?=some l->o=.inst l.1 l.2:=O.casesOn (motive:=λo=>o.i?=some l->o=.inst l.1 l.2) o (λZ=>mr) (λZ=>mr) (λZ Z h=>congrArg (λp:Nat×Nat=>O.inst p.1 p.2) (am h))
theorem xL{o:Option α}{a b:α}(e:o=some a)(h:a=b):o=some b:=h▸e
theorem listAt_eq(h:listAt σ n=some l):σ[n]?=some (.list l):=(bs h).elim λZ h=>xL h.1 (O.l_eq h.2)
theorem qN{l:List (Nat×V)}(h:dictAt σ n=some l):σ[n]?=some (.dict l):=(bs h).elim λZ h=>xL h.1 (O.d_eq h.2)
theorem B2{l:Nat×Nat}(h:qG σ n=some l):σ[n]?=some (.inst l.1 l.2):=(bs h).elim λZ h=>xL h.1 (O.i_eq h.2)
noncomputable def hd:List V->Option V
 |x::_=>some x
 |[]=>none
noncomputable def tl:List V->List V
 |_::l=>l
 |[]=>[]
noncomputable def s7:List V->Option Unit
 |[]=>some ()
 |_=>none
theorem vd{x:V}(h:hd l=some x):l=x::tl l:=by cases l with
 |nil=>exact mr h
 |cons a l=>exact congrArg (·::l) (am h)
theorem qu{x:Unit}(h:s7 l=some x):l=[]:=by cases l with
 |nil=>rfl
 |cons a l=>exact mr h
theorem yb{x:V}{u:Unit}(h:hd l=some x)(h0:s7 (tl l)=some u):l=[x]:=(vd h).trans (congrArg (x::·) (qu h0))
theorem KG{x y:V}{u:Unit}(h:hd l=some x)(h':hd (tl l)=some y)(h0:s7 (tl (tl l))=some u):l=[x,y]:=(vd h).trans (congrArg (x::·) (yb h' h0))
noncomputable def mH{α:Type}(a b:Option α):Option α:=match a with
 |some x=>some x
 |none=>b
theorem mZ{a b:Option α}{x:α}(h:mH a b=some x):a=some x\/b=some x:=by
 cases a with
 |none=>exact .inr h
 |some y=>exact .inl h
noncomputable def rm(σ:St)(v:V):Option (List V):=(si v).bind (listAt σ)
noncomputable def xp(σ:St)(v:V):Option (List (Nat×V)):=(si v).bind (dictAt σ)
noncomputable def rZ(σ:St)(v:V):Option (List V):=mH (Ed v) (rm σ v)
noncomputable def rI(σ:St)(v:V):Option (List V):=mH (wD v) (rZ σ v)
noncomputable def DC:V->Option (List (Nat×V))
 |.dct l=>some l
 |_=>none
theorem wV{v:V}{n:List (Nat×V)}:DC v=some n->v=.dct n:=V.casesOn (motive_1:=λv=>DC v=some n->v=.dct n) v mr (λZ=>mr) (λZ=>mr) (λZ=>mr) (λZ=>mr) (λZ=>mr) (λZ=>mr) (λZ=>mr) (λZ h=>congrArg V.dct (am h)) (λZ=>mr)
noncomputable def rE(σ:St)(v:V):Option (List (Nat×V)):=mH (DC v) (xp σ v)
mutual
noncomputable def sG:V->V->Bool
 |.none,b=>match b with | .none=>true | _=>false
 |.bool a,b=>match b with | .bool b=>a==b | .int j=>(if a then 1 else 0)==j | _=>false
 |.int i,b=>match b with | .bool b=>i==(if b then 1 else 0) | .int j=>i==j | _=>false
 |.sym a,b=>match b with | .sym b=>a==b | _=>false
 |.tup a,b=>match b with | .tup l=>vP a l | _=>false
 |.lst a,b=>match b with | .lst l=>vP a l | _=>false
 |_,_=>false
noncomputable def vP:List V->List V->Bool
 |[],r=>match r with | []=>true | _=>false
 |a::l,r=>match r with | b::r=>sG a b&&vP l r | []=>false
end
mutual
noncomputable def oA(n:Nat):V->Bool
 |.none | .bool _ | .int _ | .sym _=>true
 |.tup l=>match n with
  |0=>false
  |n+1=>m9 n l
 |.lst l=>match n with
  |0=>false
  |n+1=>m9 n l
 |_=>false
noncomputable def m9(n:Nat):List V->Bool
 |[]=>true
 |v::l=>oA n v&&m9 n l
end
noncomputable def vt(σ:St)(v:V):V:=match rm σ v with
 |some l=>.lst l
 |none=>v
noncomputable def EV(σ:St)(a b:V):Option Bool:=og (oA 40 (vt σ a)&&oA 40 (vt σ b)) (sG (vt σ a) (vt σ b))
noncomputable def DV(σ:St)(x c:V):Option Bool:=(rI σ c).bind λl=>og (oA 40 x&&m9 40 l) (l.any λy=>sG y x)
noncomputable def DT(σ:St)(x c:V):Option Bool:=(rE σ c).bind λl=>(sK x).map λk=>l.any λp=>p.1==k
noncomputable def uJ(σ:St)(x c:V):Option Bool:=mH (DT σ x c) (DV σ x c)
noncomputable def isNone(a b:V):Option Bool:=(sP b).map λZ=>(sP a).isSome
noncomputable def Jj(a b:V):Option Bool:=(pe a).bind λx=>(pe b).map λy=>x==y
noncomputable def JM(a b:V):Option Bool:=mH (isNone a b) (Jj a b)
noncomputable def pS(σ:St)(op:CY)(a b:V):Option Bool:=match op with
 |.eq=>EV σ a b
 |.ne=>(EV σ a b).map not
 |.lt=>(nu a).bind λa=>(nu b).map λb=>decide (a < b)
 |.gt=>(nu a).bind λa=>(nu b).map λb=>decide (a > b)
 |.isin=>uJ σ a b
 |.notin=>(uJ σ a b).map not
 |.is=>JM a b
 |.isnt=>(JM a b).map not
noncomputable def Pf(P:Pg)(v:V):Option Nat:=mH ((sK v).map P.slen) (Fk v)
noncomputable def me:Nat:=100000
noncomputable def De(a b:V):Option V:=(nu a).bind λi=>(nu b).map λj=>.int (i+j)
noncomputable def Db(P:Pg)(a b:V):Option V:=(sK a).bind λk=>(zQ b).bind λi=>(P.cat k i).map .sym
noncomputable def Df(σ:St)(a b:V):Option V:=(rZ σ a).bind λl=>(rZ σ b).bind λr=>og ((l++r).length<=me) (.lst (l++r))
noncomputable def KE(P:Pg)(σ:St)(a b:V):Option V:=mH (De a b) (mH (Db P a b) (Df σ a b))
noncomputable def Eg(a b:V):Option V:=(nu a).bind λi=>(nu b).bind λj=>og (-1000000<=i/\i<=1000000) (.int (i * j))
noncomputable def tG(P:Pg)(σ:St)(op:HD)(a b:V):Option V:=match op with
 |.add=>KE P σ a b
 |.sub=>(nu a).bind λi=>(nu b).map λj=>.int (i - j)
 |.mul=>Eg a b
 |.mod=>(nu a).bind λi=>(nu b).bind λj=>og (0 < j) (.int (i % j))
noncomputable def vT(l:List V)(i:Int):Option V:=
 if 0<=i then l[i.toNat]? else if 0<=i+l.length then l[(i+l.length).toNat]? else none
noncomputable def mC(l:List (Nat×V))(k:Nat):Option V:=(l.find? λp=>p.1==k).map (·.2)
noncomputable def ng:List (Nat×V)->Nat->V->List (Nat×V)
 |[],k,v=>[(k,v)]
 |(k',v')::r,k,v=>if k'==k then (k',v)::r else (k',v')::ng r k v
noncomputable def itemOf(σ:St)(c i:V):Option V:=(nu i).bind λi=>(rI σ c).bind λl=>vT l i
noncomputable def Lp(σ:St)(c i:V):Option V:=(sK i).bind λk=>(rE σ c).bind λl=>mC l k
noncomputable def oM(P:Pg)(σ:St)(c i:V):Option V:=mH (itemOf σ c i) (Lp σ c i)
noncomputable def rT(n:Nat)(i:Int):Nat:=if 0<=i then min i.toNat n else (i+n).toNat
noncomputable def Hn(σ:St)(c i:V):Option V:=(nu i).bind λi=>(rZ σ c).bind λl=>og (-1000000<=i/\i<=1000000/\l.length<=me) (.lst (l.take (rT l.length i)))
noncomputable def EW(σ:St)(c i:V):Option V:=Hn σ c i
noncomputable def Az:List V->Option (List Nat)
 |[]=>some []
 |v::l=>(sK v).bind λk=>(Az l).map (k::·)
noncomputable def FR(k:Nat):List Nat->List Nat
 |[]=>[k]
 |a::l=>if k<=a then k::a::l else a::FR k l
noncomputable def rG:List Nat->List Nat
 |[]=>[]
 |a::l=>FR a (rG l)
noncomputable def q8:List V->Option (List Bool)
 |[]=>some []
 |v::l=>(pe v).bind λb=>(q8 l).map (b::·)
noncomputable def zZ{ε:Type}(σ:St)(o:O):R ε V:=.ok (.obj σ.length) (σ++[o])
noncomputable def newL(m:Bool)(l:List V)(σ:St):R Unit V:=if m then zZ σ (.list l) else .ok (.lst l) σ
noncomputable def keysOf(σ:St)(v:V):Option (List Nat):=mH ((rE σ v).map λl=>l.map (·.1)) ((rI σ v).bind Az)
noncomputable def uI(σ:St)(b:BI)(v:V):R Unit V:=match b with
 |.len=>R.of ((rI σ v).map λl=>.int l.length) σ
 |.any=>R.of ((rZ σ v).bind λl=>(q8 l).map λbs=>.bool (bs.any id)) σ
 |.sorted m=>R.opt (keysOf σ v) λks=>gd (ks.length<=16) (newL m ((rG ks).map .sym) σ)
 |.list m=>R.opt (rI σ v) λl=>gd (l.length<=me) (newL m l σ)
 |.tuple=>R.of ((rZ σ v).bind λl=>og (l.length<=me) (.tup l)) σ
 |.dict=>R.opt (rE σ v) λl=>gd (l.length<=me) (zZ σ (.dict l))
 |.str=>R.opt (nu v) λi=>gd (-1000<=i/\i<=1000) (.ok (.itxt i) σ)
noncomputable def nQ(l:List (Nat×V)):List (Nat×V)->List (Nat×V)
 |[]=>l
 |(k,v)::r=>nQ (ng l k v) r
noncomputable def vG(d:V)(n:Nat):Bool:=si d != some n
noncomputable def onL(σ:St)(v:V)(f:Nat->List V->R Unit V):R Unit V:=R.opt (si v) λn=>R.opt (listAt σ n) λl=>f n l
noncomputable def sU(σ:St)(m:BM)(v:V)(l:List V):R Unit V:=match m with
 |.append=>R.opt (hd l) λx=>R.opt (s7 (tl l)) λZ=>onL σ v λn l=>gd (l.length < me) (.ok .none (σ.set n (.list (l++[x]))))
 |.pop0=>R.opt (s7 l) λZ=>onL σ v λn l=>R.opt (l.getLast?) λv=>.ok v (σ.set n (.list l.dropLast))
 |.pop1=>R.opt ((hd l).bind nu) λi=>R.opt (s7 (tl l)) λZ=>onL σ v λn l=>gd (0<=i) (R.opt (l[i.toNat]?) λv=>.ok v (σ.set n (.list (l.eraseIdx i.toNat))))
 |.insert=>R.opt ((hd l).bind nu) λi=>R.opt (hd (tl l)) λx=>R.opt (s7 (tl (tl l))) λZ=>onL σ v λn l=>
   gd (0<=i/\i<=l.length/\l.length < me) (.ok .none (σ.set n (.list (l.take i.toNat++x::l.drop i.toNat))))
 |.extend=>R.opt ((hd l).bind Ed) λr=>R.opt (s7 (tl l)) λZ=>onL σ v λn l=>gd ((l++r).length<=me) (.ok .none (σ.set n (.list (l++r))))
 |.update=>R.opt (hd l) λd=>R.opt (s7 (tl l)) λZ=>R.opt (si v) λn=>R.opt (dictAt σ n) λl=>R.opt (rE σ d) λr=>
   gd (l.length+r.length<=me/\vG d n=true) (.ok .none (σ.set n (.dict (nQ l r))))
noncomputable def IT(σ:St)(m:BM)(v:V):Bool:=match m with
 |.append | .pop0 | .pop1 | .insert | .extend=>(rm σ v).isSome
 |.update=>(xp σ v).isSome
noncomputable def BI.loud:BI->Bool
 |.any=>true
 |.sorted _=>true
 |_=>false
variable {ρ ρ':mc}{e t es cond Rt RF RO RM:MX}{op:CY}
set_option genCtorIdx false in
set_option genCtorIdx false in
inductive It where
 |items (l:List V)
 |live (n:Nat)
noncomputable def It.at:It->Nat->St->Option (Option V)
 |.items l,i,_=>some l[i]?
 |.live n,i,σ=>(listAt σ n).map λl=>l[i]?
noncomputable def It.fuel:It->St->Nat
 |.items l,_=>l.length+1
 |.live n,σ=>((listAt σ n).map λl=>l.length+1).getD 0
noncomputable def after(g:mc->St->R mc (Fl×mc))(r:Fl×mc)(σ:St):R mc (Fl×mc):=match r.1 with
 |.next=>g r.2 σ
 |.ret _=>.ok r σ
noncomputable def ou(it:It)(f:V->St->R Unit (Option V)):Nat->Nat->List V->St->R Unit (List V)
 |0,_,_,_=>.bad
 |k+1,i,acc,σ=>R.opt (it.at i σ) λw=>match w with
  |none=>.ok acc σ
  |some v=>(f v σ).bind λr σ'=>match r with
   |some x=>gd (acc.length < me) (ou it f k (i+1) (acc++[x]) σ')
   |none=>ou it f k (i+1) acc σ'
noncomputable def pR(it:It)(f:V->mc->St->R mc (Fl×mc)):Nat->Nat->mc->St->R mc (Fl×mc)
 |0,_,_,_=>.bad
 |k+1,i,ρ,σ=>R.opt (it.at i σ) λw=>match w with
  |none=>.ok (.next,ρ) σ
  |some v=>(f v ρ σ).bind (after (pR it f k (i+1)))
noncomputable def qg(c:mc->St->R Unit Bool)(f:mc->St->R mc (Fl×mc)):Nat->mc->St->R mc (Fl×mc)
 |0,_,_=>.bad
 |k+1,ρ,σ=>((c ρ σ).lift ρ).bind λb Rx=>match b with
  |true=>(f ρ Rx).bind (after (qg c f k))
  |false=>.ok (.next,ρ) Rx
noncomputable def oF(n:Int):List V:=(az n.toNat).map λ(i:Nat)=>V.int i
noncomputable def sF(hi:Int):List V:=(az (hi+1).toNat).map λ(i:Nat)=>V.int (hi - i)
noncomputable def zo(l r:List V):List V:=(l.zip r).map λp=>.tup [p.1,p.2]
noncomputable def zg:MX->Option Nat
 |.var i=>some i
 |_=>none
noncomputable def rA:MX->Option (List Nat)
 |.nil=>some []
 |.cons e es=>(zg e).bind λi=>(rA es).map (i::·)
 |_=>none
noncomputable def bindL:List Nat->List V->mc->Option mc
 |[],l,ρ=>(s7 l).map λZ=>ρ
 |i::is,l,ρ=>(hd l).bind λv=>(og (i < ρ.length) (ρ.set i (some v))).bind λρ=>bindL is (tl l) ρ
noncomputable def xK:MX->Option (List Nat)
 |.var i=>some [i]
 |.tup ts=>rA ts
 |_=>none
noncomputable def xN(t:MX)(v:V):Option (List V):=match t with
 |.tup _=>wD v
 |_=>some [v]
noncomputable def nA(t:MX)(v:V)(ρ:mc):Option mc:=(xK t).bind λis=>(xN t v).bind λl=>bindL is l ρ
noncomputable abbrev Call:=Nat->List V->St->R Unit V
noncomputable def wN(ks:List Nat)(vs:List V)(σ:St):R Unit V:=
 gd (ks.length=vs.length/\ks.length<=8) (zZ σ (.dict (nQ [] (ks.zip vs))))
noncomputable def Bt(P:Pg)(v:V):Option Nat:=mH ((nu v).bind λi=>og (-1000<=i/\i<=1000) 5) (Pf P v)
noncomputable def re(σ:St)(v:V)(f:Nat->List (Nat×V)->Nat->Option α):Option α:=(si v).bind λn=>(qG σ n).bind λc=>(dictAt σ c.2).bind λl=>f c.1 l c.2
noncomputable def zD(σ:St)(v:V)(k:Nat):Option V:=re σ v λZ l Z=>mC l k
noncomputable def t9(P:Pg)(σ:St)(v:V)(k:Nat):Option Nat:=re σ v λc l Z=>if (mC l k).isNone then P.meth c k else none
noncomputable def E6(σ:St)(v:V)(k:Nat)(x:V):Option St:=re σ v λZ l d=>og (l.length < me) (σ.set d (.dict (ng l k x)))
noncomputable def y1(σ:St)(c i x:V):Option St:=(si c).bind λn=>(sK i).bind λk=>(dictAt σ n).bind λl=>og (l.length < me) (σ.set n (.dict (ng l k x)))
noncomputable def Jw:MX->Nat
 |.cons _ t=>Jw t+1
 |_=>0
structure xY where
 E:mc->St->R Unit V
 T:mc->St->R Unit Bool
 L:mc->St->R Unit (List V)
 F:mc->St->R Unit Nat
 and:mc->St->R Unit V
 or:mc->St->R Unit V
 all:mc->St->R Unit Bool
 any:mc->St->R Unit Bool
 I:mc->St->R Unit It
 A:V->mc->St->R mc mc
 As:List V->mc->St->R mc mc
 nil:Bool
noncomputable def uD(v:V)(σ:St):R Unit It:=match v with
 |.tup l=>.ok (.items l) σ
 |.lst l=>.ok (.items l) σ
 |.obj n=>R.opt (listAt σ n) λZ=>.ok (.live n) σ
 |_=>.bad
noncomputable def xY.no:xY:=⟨λZ Z=>.bad,λZ Z=>.bad,λZ Z=>.bad,λZ Z=>.bad,λZ Z=>.bad,λZ Z=>.bad,λZ Z=>.bad,λZ Z=>.bad,λZ Z=>.bad,λZ Z Z=>.bad,λZ Z Z=>.bad,false⟩
noncomputable def xY.ofT(f:mc->St->R Unit V)(t:mc->St->R Unit Bool):xY:={xY.no with E:=f,T:=t,I:=λρ σ=>(f ρ σ).bind uD}
noncomputable def xY.ofE(f:mc->St->R Unit V):xY:=.ofT f λρ σ=>(f ρ σ).bind λv σ=>R.of (pe v) σ
noncomputable def xY.ofI(f:mc->St->R Unit It):xY:={xY.no with I:=f}
noncomputable def OW(l:List V)(σ:St):R Unit It:=R.opt ((hd l).bind nu) λn=>gd (0<=n/\n<=me) (.ok (.items (oF n)) σ)
noncomputable def G8(l:List V)(σ:St):R Unit It:=R.opt ((hd l).bind nu) λa=>R.opt ((hd (tl l)).bind nu) λb=>R.opt ((hd (tl (tl l))).bind nu) λc=>R.opt (s7 (tl (tl (tl l)))) λZ=>
 gd (b=-1/\c=-1/\-1<=a/\a<=me) (.ok (.items (sF a)) σ)
noncomputable def wv(l:List V)(σ:St):R Unit It:=match s7 (tl l) with
 |some _=>OW l σ
 |none=>G8 l σ
noncomputable def Pq(a b:V)(σ:St):R Unit It:=R.opt (Ed a) λl=>R.opt (wD b) λr=>gd (l.length=r.length) (.ok (.items (zo l r)) σ)
noncomputable def u0(σ:St)(b:V):List (Nat×V)->Option (List Bool)
 |[]=>some []
 |p::r=>(pS σ .isin (.sym p.1) b).bind λt=>(u0 σ b r).map (t::·)
noncomputable def DU(j:Nat)(ρ:mc)(v:V)(σ:St):R Unit V:=R.opt (si v) λn=>R.opt (dictAt σ n) λl=>R.opt (ρ[j]?.join) λb=>R.opt (u0 σ b l) λbs=>gd (l.length < me) (.ok (.lst (bs.map .bool)) σ)
noncomputable def Js(n:Nat)(v:V)(σ:St):R Unit V:=match v with
 |.none=>.ok (.obj n) σ
 |_=>.bad
noncomputable def EX(P:Pg)(v:V)(σ:St)(f:Nat->St->R Unit Nat):R Unit Nat:=R.opt (Bt P v) λk=>gd (k<=1000) (f k σ)
section
variable (P:Pg)(q:Bool)(C:Call)
noncomputable def oy:MX->xY
 |.lit v=>.ofE λZ σ=>.ok v σ
 |.glob k=>.ofE λZ σ=>.ok (P.const k) σ
 |.var i=>{xY.ofE (λρ σ=>R.of (ρ[i]?.join) σ) with A:=λv ρ σ=>if i < ρ.length then .ok (ρ.set i (some v)) σ else .bad}
 |.nil=>{xY.no with L:=λZ σ=>.ok [] σ,F:=λZ σ=>.ok 0 σ,T:=λZ σ=>.ok true σ,all:=λZ σ=>.ok true σ,any:=λZ σ=>.ok false σ,As:=λl ρ σ=>match l with | []=>.ok ρ σ | _=>.bad,nil:=true}
 |.cons e es=>{xY.no with
   L:=λρ σ=>((oy e).E ρ σ).bind λv σ=>((oy es).L ρ σ).bind λl σ=>.ok (v::l) σ
   F:=λρ σ=>((oy e).E ρ σ).bind λv σ=>EX P v σ λk σ=>((oy es).F ρ σ).bind λn σ=>.ok (k+n) σ
   and:=λρ σ=>if (oy es).nil then (oy e).E ρ σ else ((oy e).E ρ σ).bind λv σ=>match pe v with
    |some true=>(oy es).and ρ σ
    |some false=>.ok v σ
    |none=>.bad
   or:=λρ σ=>if (oy es).nil then (oy e).E ρ σ else ((oy e).E ρ σ).bind λv σ=>match pe v with
    |some true=>.ok v σ
    |some false=>(oy es).or ρ σ
    |none=>.bad
   all:=λρ σ=>((oy e).T ρ σ).bind λb σ=>if b then (oy es).all ρ σ else .ok false σ
   any:=λρ σ=>((oy e).T ρ σ).bind λb σ=>if b then .ok true σ else (oy es).any ρ σ
   As:=λl ρ σ=>match l with
    |v::l=>((oy e).A v ρ σ).bind λρ σ=>(oy es).As l ρ σ
    |[]=>.bad}
 |.tup es=>{xY.ofE (λρ σ=>((oy es).L ρ σ).bind λl σ=>gd (l.length<=me) (.ok (.tup l) σ)) with
   A:=λv ρ σ=>gd (q=false) (R.opt (wD v) λl=>gd (Jw es=l.length) ((oy es).As l ρ σ))}
 |.lst m es=>.ofE λρ σ=>((oy es).L ρ σ).bind λl σ=>gd (l.length<=me) (newL m l σ)
 |.dict ks es=>.ofE λρ σ=>((oy es).L ρ σ).bind λl σ=>wN ks l σ
 |.attr e k=>{xY.ofE (λρ σ=>((oy e).E ρ σ).bind λv σ=>R.of (zD σ v k) σ) with
   A:=λx ρ σ=>(((oy e).E ρ σ).lift ρ).bind λv σ=>R.opt (E6 σ v k x) λσ'=>.ok ρ σ'}
 |.idx e i=>{xY.ofE (λρ σ=>((oy e).E ρ σ).bind λc σ=>((oy i).E ρ σ).bind λi σ=>R.of (oM P σ c i) σ) with
   A:=λx ρ σ=>(((oy e).E ρ σ).lift ρ).bind λc σ=>(((oy i).E ρ σ).lift ρ).bind λi σ=>R.opt (y1 σ c i x) λσ'=>.ok ρ σ'}
 |.upto e i=>.ofE λρ σ=>((oy e).E ρ σ).bind λc σ=>((oy i).E ρ σ).bind λi σ=>R.of (EW σ c i) σ
 |.bin op a b=>.ofE λρ σ=>((oy a).E ρ σ).bind λa σ=>((oy b).E ρ σ).bind λb σ=>R.of (tG P σ op a b) σ
 |.cmp op a b=>.ofT (λρ σ=>((oy a).E ρ σ).bind λa σ=>((oy b).E ρ σ).bind λb σ=>R.of ((pS σ op a b).map .bool) σ)
   λρ σ=>((oy a).E ρ σ).bind λa σ=>((oy b).E ρ σ).bind λb σ=>R.of (pS σ op a b) σ
 |.not a=>.ofT (λρ σ=>((oy a).E ρ σ).bind λv σ=>R.of ((pe v).map λb=>.bool !b) σ) λρ σ=>((oy a).T ρ σ).bind λb σ=>.ok (!b) σ
 |.and es=>.ofT (oy es).and (oy es).all
 |.or es=>.ofT (oy es).or (oy es).any
 |.ite c a b=>.ofT (λρ σ=>((oy c).T ρ σ).bind λt σ=>if t then (oy a).E ρ σ else (oy b).E ρ σ) λρ σ=>((oy c).T ρ σ).bind λt σ=>if t then (oy a).T ρ σ else (oy b).T ρ σ
 |.call f es=>.ofE λρ σ=>((oy es).L ρ σ).bind λl σ=>C f l σ
 |.meth e k es=>.ofE λρ σ=>((oy e).E ρ σ).bind λv σ=>R.opt (t9 P σ v k) λf=>((oy es).L ρ σ).bind λl σ=>C f (v::l) σ
 |.bi b e=>.ofE λρ σ=>gd ((q&&b.loud)=false) (((oy e).E ρ σ).bind λv σ=>uI σ b v)
 |.bm m e es=>.ofE λρ σ=>((oy e).E ρ σ).bind λv σ=>gd (IT σ m v) (((oy es).L ρ σ).bind λl σ=>sU σ m v l)
 |.new c=>.ofE λZ σ=>R.opt (P.init c) λf=>(C f [.obj (σ.length+1)] (σ++[.dict [],.inst c σ.length])).bind λr σ'=>Js (σ.length+1) r σ'
 |.inEach Rt j=>.ofE λρ σ=>gd (q=false) (((oy Rt).E ρ σ).bind (DU j ρ))
 |.fstr n es=>.ofE λρ σ=>((oy es).F ρ σ).bind λk σ=>gd (n+k<=me) (.ok (.txt (n+k)) σ)
 |.comp t Rt cond RF=>.ofE λρ σ=>gd (q=false) (((oy Rt).I ρ σ).bind λit σ=>
   (ou it (λv σ=>R.opt (nA t v ρ) λρ'=>((oy cond).T ρ' σ).bind λb σ=>if b then ((oy RF).E ρ' σ).bind λx σ=>.ok (some x) σ else .ok none σ) (it.fuel σ) 0 [] σ).bind λl σ=>.ok (.lst l) σ)
 |.rng es=>.ofI λρ σ=>((oy es).L ρ σ).bind wv
 |.zip a b=>.ofI λρ σ=>((oy a).E ρ σ).bind λa σ=>((oy b).E ρ σ).bind λb σ=>Pq a b σ
noncomputable def dE(e:MX):mc->St->R Unit V:=(oy P q C e).E
noncomputable def dT(e:MX):mc->St->R Unit Bool:=(oy P q C e).T
noncomputable def dL(e:MX):mc->St->R Unit (List V):=(oy P q C e).L
noncomputable def dF(e:MX):mc->St->R Unit Nat:=(oy P q C e).F
noncomputable def PF(e:MX):mc->St->R Unit V:=(oy P q C e).and
noncomputable def Rd(e:MX):mc->St->R Unit V:=(oy P q C e).or
noncomputable def PE(e:MX):mc->St->R Unit Bool:=(oy P q C e).all
noncomputable def PG(e:MX):mc->St->R Unit Bool:=(oy P q C e).any
noncomputable def dI(e:MX):mc->St->R Unit It:=(oy P q C e).I
noncomputable def dA(e:MX):V->mc->St->R mc mc:=(oy P q C e).A
noncomputable def QV(e:MX):List V->mc->St->R mc mc:=(oy P q C e).As
end
noncomputable def mU:Nat:=10000
noncomputable def HS:V->Bool
 |.sym _=>true
 |.txt _=>true
 |_=>false
noncomputable def isInt:V->Bool
 |.int _=>true
 |_=>false
noncomputable def R.fin{ε Ur α β:Type}(r:R ε α)(f:α->St->R Ur β)(g:ε->St->R Ur β):R Ur β:=match r with
 |.ok a σ=>f a σ
 |.exc e σ=>g e σ
 |.bad=>.bad
noncomputable def qX(r:R mc (Fl×mc))(k:mc->St->R mc (Fl×mc)):R mc (Fl×mc):=match r with
 |.ok p σ=>match p.1 with
  |.next=>k p.2 σ
  |.ret _=>.bad
 |_=>.bad
noncomputable def dS(P:Pg)(C:Bool->Call):Bool->MS->mc->St->R mc (Fl×mc)
 |_,.skip,ρ,σ=>.ok (.next,ρ) σ
 |q,.seq a b,ρ,σ=>(dS P C q a ρ σ).bind (after (dS P C q b))
 |q,.expr e,ρ,σ=>((dE P q (C q) e ρ σ).lift ρ).bind λZ σ=>.ok (.next,ρ) σ
 |q,.asg t e,ρ,σ=>((dE P q (C q) e ρ σ).lift ρ).bind λv σ=>(dA P q (C q) t v ρ σ).bind λρ σ=>.ok (.next,ρ) σ
 |q,.aug i e,ρ,σ=>R.opt ((ρ[i]?.join).bind nu) λa=>((dE P q (C q) e ρ σ).lift ρ).bind λv σ=>R.opt (nu v) λb=>.ok (.next,ρ.set i (some (.int (a+b)))) σ
 |q,.ret e,ρ,σ=>((dE P q (C q) e ρ σ).lift ρ).bind λv σ=>.ok (.ret v,ρ) σ
 |q,.iff c a b,ρ,σ=>((dT P q (C q) c ρ σ).lift ρ).bind λt σ=>if t then dS P C q a ρ σ else dS P C q b ρ σ
 |q,.whl c b,ρ,σ=>gd (q=false) (qg (dT P q (C q) c) (dS P C q b) mU ρ σ)
 |q,.for t it b,ρ,σ=>gd (q=false) (((dI P q (C q) it ρ σ).lift ρ).bind λi σ=>
   pR i (λv ρ σ=>R.opt (nA t v ρ) λρ'=>dS P C q b ρ' σ) (i.fuel σ) 0 ρ σ)
 |q,.raise a b,ρ,σ=>gd (q=false) (((dE P q (C q) a ρ σ).lift ρ).bind λv σ=>((dE P q (C q) b ρ σ).lift ρ).bind λx σ=>
   gd (HS v&&isInt x) (.exc ρ σ))
 |q,.tryf b f,ρ,σ=>gd (q=false) ((dS P C q b ρ σ).fin (λp σ=>qX (dS P C q f p.2 σ) λρ σ=>.ok (p.1,ρ) σ) λρ σ=>qX (dS P C true f ρ σ) λρ σ=>.exc ρ σ)
 |q,.tryx b h,ρ,σ=>gd (q=false) ((dS P C q b ρ σ).fin (λp σ=>.ok p σ) λρ σ=>(dS P C true h ρ σ).fin (λp σ=>.ok p σ) λZ Z=>.bad)
 |_,.hole,_,_=>.bad
noncomputable def ended(r:R mc (Fl×mc)):R Unit V:=match r with
 |.ok p σ=>.ok (match p.1 with | .ret v=>v | .next=>.none) σ
 |.exc _ σ=>.exc () σ
 |.bad=>.bad
noncomputable def vc(F:AV)(args:List V):mc:=args.map some++b7 (F.slots - F.params) none
noncomputable def mu(P:Pg):Nat->Bool->Call
 |0,_,_,_,_=>.bad
 |d+1,q,f,args,σ=>R.opt (P.fn f) λF=>gd (args.length=F.params) (ended (dS P (mu P d) q F.body (vc F args) σ))
noncomputable def Ba(r:Nat->List V->St->R Unit (List V))(i:Nat)(l:List V)(x:Option V)(σ:St):R Unit (List V):=match x with
 |some x=>Mine.Internal.gd (l.length < me) (r (i+1) (l++[x]) σ)
 |none=>r (i+1) l σ
noncomputable def m3(P:Pg)(q:Bool)(C:Call)(t cond e:MX)(ρ:mc)(v:V)(σ:St):R Unit (Option V):=R.opt (nA t v ρ) λρ'=>(dT P q C cond ρ' σ).bind λb σ=>if b then (dE P q C e ρ' σ).bind λx σ=>.ok (some x) σ else .ok none σ
variable {C:Call}
theorem mG(h:aQ):h.get? h.objs.size=none:=by
 cases q:h.get? h.objs.size with
 |none=>rfl
 |some o=>exact absurd (ch q) (lz _)
theorem pP.push(X:List al)(h:aQ)(o:fq):pP X h (h.push o):=
 ⟨λb o' e=>⟨o',av _ e⟩,λb o' e Z=>⟨o'.slots,av _ e,λZ=>rfl⟩⟩
theorem pP.of_keeps(k:∀b o,h.get? b=some o->h'.get? b=some o):pP X h h':=
 ⟨λb o' e=>⟨o',k b o' e⟩,λb o' e Z=>⟨o'.slots,k b o' e,λZ=>rfl⟩⟩
section
variable {s:af}
theorem Inv.keeps(i:Inv W φ σ h)(k:∀b o,h.get? b=some o->h'.get? b=some o):Inv W φ σ h':=
 i.evo (X:=[]) (pP.of_keeps k) (Apart.nil _ _ _) (λZ Z hm=>nomatch hm) λb o e=>k b o (i.base b o e)
theorem Good.keeps(i:Inv W φ σ s.heap){t:Nat}(k:∀b o,s.heap.get? b=some o->h'.get? b=some o):Good W own φ s σ φ {s with heap:=h',toks:=t}:=
 ⟨.refl _ _,.of_keeps k,i.keeps k,rfl,rfl⟩
theorem Good.push(i:Inv W φ σ s.heap)(o:fq):Good W own φ s σ φ {s with heap:=s.heap.push o}:=
 ⟨.refl _ _,.push _ _ _,i.keeps λZ Z e=>av _ e,rfl,rfl⟩
theorem Good.tok(i:Inv W φ σ s.heap){t:Nat}:Good W own φ s σ φ {s with toks:=t}:=
 ⟨.refl _ _,.refl _ _,i,rfl,rfl⟩
theorem nB{l:List α}{a:α}(e:l[n]?=some a):n < l.length:=by
 rcases eR n l.length with hl | hl
 .exact hl
 .rw[cA hl] at e;cases e
theorem Good.alloc(i:Inv W φ σ s.heap)(o:fq)(o':O)(hf:o.isFreed=false)(hr:o4 W (φ++[s.heap.objs.size]) (s.heap.push o) o' s.heap.objs.size):Good W own φ s (σ++[o']) (φ++[s.heap.objs.size]) {s with heap:=s.heap.push o}:=by
 have hn:=mG s.heap;have g:Grows s.heap φ (φ++[s.heap.objs.size]):=.one _ _ hn;refine⟨g,.push _ _ _,⟨λb U9 e=>av _ (i.base b U9 e),by simp [i.len],?_,?_,λa ha=>let ⟨o,e⟩:=i.hid a ha;⟨o,av _ e⟩,?_⟩,rfl,rfl⟩
 .refine bV.mpr ⟨i.nodup,by simp,?_⟩;intro a ha b hb e;rw[au.mp hb] at e;obtain ⟨n,Sy,e'⟩:=fe ha;have hσ:n < σ.length:=i.len▸Sy;have r:=i.rep n σ[n] a (aX hσ) (by rw[aX Sy,e'])
  have:∃o,s.heap.get? a=some o:=by
   cases hq:σ[n] with
   |list l=>rw[hq] at r;refine mI r λZ Z Z e Z=>?_;exact⟨_,e⟩
   |dict l=>rw[hq] at r;refine l8 r λZ RV Z=>?_;obtain ⟨_,_,_,e,_⟩:=RV;exact⟨_,e⟩
   |inst c d=>rw[hq] at r;refine l8 r λZ Z e=>?_;exact⟨_,e⟩
  refine mF this λo SQ=>?_;rw[e,hn] at SQ;cases SQ
 .intro a ha
  rcases aH.mp ha with ha | ha
  .exact i.new a ha
  .rw[au.mp ha]
   cases q:W.base.get? s.heap.objs.size with
   |none=>rfl
   |some o=>rw[i.base _ _ q] at hn;cases hn
 .intro n Sr a e1 e2
  rcases eR n σ.length with hl | hl
  .rw[aJ hl] at e1;rw[aJ (i.len.symm▸hl)] at e2;have ha:a∈φ:=bq e2;exact (i.rep n Sr a e1 e2).evo (X:=[]) (.push _ _ _) (Apart.nil _ _ _) g (λhm=>nomatch hm)
  .obtain ⟨rfl,rfl⟩:=te hl e1;obtain ⟨_,rfl⟩:=te (bB i.len) e2;exact hr
theorem Good.allocAt(i:Inv W φ σ s.heap)(o':O){a:al}{t:Nat}(ha:s.heap.get? a=none)(k:∀b o,s.heap.get? b=some o->h'.get? b=some o)(hr:o4 W (φ++[a]) h' o' a):Good W own φ s (σ++[o']) (φ++[a]) {s with heap:=h',toks:=t}:=by
 have g:Grows s.heap φ (φ++[a]):=.one _ _ ha;refine⟨g,.of_keeps k,⟨λb U9 e=>k b _ (i.base b U9 e),by simp [i.len],?_,?_,λa ha=>let ⟨o,e⟩:=i.hid a ha;⟨o,k _ _ e⟩,?_⟩,rfl,rfl⟩
 .refine bV.mpr ⟨i.nodup,by simp,?_⟩;intro c hc b hb e;rw[au.mp hb] at e;obtain ⟨n,Sy,e'⟩:=fe hc;have hσ:n < σ.length:=i.len▸Sy;have r:=i.rep n σ[n] c (aX hσ) (by rw[aX Sy,e'])
  have:∃o,s.heap.get? c=some o:=by
   cases hq:σ[n] with
   |list l=>rw[hq] at r;refine mI r λZ Z Z e Z=>?_;exact⟨_,e⟩
   |dict l=>rw[hq] at r;refine l8 r λZ RV Z=>?_;obtain ⟨_,_,_,e,_⟩:=RV;exact⟨_,e⟩
   |inst c d=>rw[hq] at r;refine l8 r λZ Z e=>?_;exact⟨_,e⟩
  refine mF this λo SQ=>?_;rw[e,ha] at SQ;cases SQ
 .intro c hc
  rcases aH.mp hc with hc | hc
  .exact i.new c hc
  .rw[au.mp hc]
   cases q:W.base.get? a with
   |none=>rfl
   |some o=>rw[i.base _ _ q] at ha;cases ha
 .intro n Sr c e1 e2
  rcases eR n σ.length with hl | hl
  .rw[aJ hl] at e1;rw[aJ (i.len.symm▸hl)] at e2;exact (i.rep n Sr c e1 e2).evo (X:=[]) (.of_keeps k) (Apart.nil _ _ _) g (λhm=>nomatch hm)
  .obtain ⟨rfl,rfl⟩:=te hl e1;obtain ⟨_,rfl⟩:=te (bB i.len) e2;exact hr
theorem Good.set(i:Inv W φ σ s.heap){a:al}{Sh o':O}{t:Nat}(hn:σ[n]?=some Sh)(ha:φ[n]?=some a)(hs:bX a s.heap h')(hx:∃o,h'.get? a=some o)(hr:o4 W φ h' o' a):Good W own φ s (σ.set n o') φ {s with heap:=h',toks:=t}:=by
 have ham:a∈φ:=bq ha;have k:∀b o,b≠a->s.heap.get? b=some o->h'.get? b=some o:=λb o hb e=>(hs.2 b hb).trans e
 have x:pP [a] s.heap h':=by
  refine⟨λb o e=>?_,λb o e hb=>⟨o.slots,k b o (by simpa using hb) e,λZ=>rfl⟩⟩
  by_cases hb:b=a
  .subst hb;exact hx
  .exact⟨o,k b o hb e⟩
 have ap:Apart W φ [a] s.heap:=λb hb WA=>absurd (au.mp hb▸ham) WA;refine⟨.refl _ _,x.mono λb hb=>bD _ (au.mp hb▸ham),⟨λb o e=>k b o ?_ (i.base b o e),by simp [i.len],i.nodup,i.new,λb hb=>let ⟨o,e⟩:=i.hid b hb;x.there b o e,?_⟩,rfl,rfl⟩
 .rintro rfl
  rw[i.new b ham] at e;cases e
 .intro m Sr b e1 e2
  by_cases hm:m=n
  .subst hm;rw[ha] at e2;cases e2;rw[aF (nB hn)] at e1;cases e1;exact hr
  .rw[aj (bJ hm)] at e1
   have hb:b≠a:=by
    rintro rfl
    exact hm ((fC (nB e2) i.nodup).mp (e2.trans ha.symm))
   exact (i.rep m Sr b e1 e2).evo x ap (.refl _ _) (by simpa using hb)
theorem qw{a:al}(ham:a∈φ)(hs:bX a s.heap h')(hx:∃o,h'.get? a=some o):pP [a] s.heap h'/\Apart W φ [a] s.heap:=by
 refine⟨⟨λb o e=>?_,λb o e hb=>⟨o.slots,(hs.2 b (by simpa using hb)).trans e,λZ=>rfl⟩⟩,λb hb WA=>absurd (au.mp hb▸ham) WA⟩
 by_cases hb:b=a
 .subst hb;exact hx
 .exact⟨o,(hs.2 b hb).trans e⟩
end
theorem mY(h:n<=me):n<=bM:=by rw[dq];exact ac h (by decide)
section
variable {W:Wd}{φ:List al}{h:aQ}
theorem my.length:∀{xs:List ae},my W φ h l xs->xs.length=l.length:=by
 induction l with
 |nil=>intro xs r;exact congrArg kr r
 |cons v l ih=>intro xs r;refine mI r λx ys e Z r=>?_;rw[e];exact congrArg jT (ih r)
theorem my.get:∀{xs:List ae} {n:Nat} {v:V},my W φ h l xs->l[n]?=some v->∃x,xs[n]?=some x/\mm W φ h v x:=by
 induction l with
 |nil=>intro xs n v r e;exact mr (hG.symm.trans e)
 |cons u l ih=>
  intro xs n v r e;obtain ⟨x,ys,rfl,ru,r⟩:=r
  cases n with
  |zero=>exact⟨x,rfl,(am e:u=v)▸ru⟩
  |succ n=>exact ih (n:=n) r e
theorem my.before{r:List V}(b:my W φ h r ys):∀{xs:List ae},my W φ h l xs->my W φ h (l++r) (xs++ys):=by
 induction l with
 |nil=>intro xs a;rw[show xs=[] from a];exact b
 |cons v l ih=>intro xs a;refine mI a λx zs e rv a=>?_;rw[e];exact⟨x,_,rfl,rv,ih a⟩
theorem my.append{r:List V}(a:my W φ h l xs)(b:my W φ h r ys):my W φ h (l++r) (xs++ys):=b.before a
theorem my.one{v:V}{x:ae}(r:mm W φ h v x):my W φ h [v] [x]:=⟨x,[],rfl,r,rfl⟩
theorem my.nil':my W φ h [] []:=rfl
theorem my.cons'{v:V}{x:ae}(r:mm W φ h v x)(q:my W φ h l xs):my W φ h (v::l) (x::xs):=⟨x,xs,rfl,r,q⟩
theorem my.uncons{v:V}(r:my W φ h (v::l) xs):∃x ys,xs=x::ys/\mm W φ h v x/\my W φ h l ys:=r
theorem my.one_inv{v:V}(r:my W φ h [v] ys):∃y,ys=[y]/\mm W φ h v y:=by
 refine mI r λy zs e rv e'=>?_;exact⟨y,e.trans (congrArg (y::·) e'),rv⟩
theorem my.two_inv{u v:V}(r:my W φ h [u,v] ys):∃x y,ys=[x,y]/\mm W φ h u x/\mm W φ h v y:=by
 refine mI r λx zs e ru r=>?_;refine l8 r.one_inv λy e' rv=>?_;exact⟨x,y,e.trans (congrArg (x::·) e'),ru,rv⟩
theorem my.take:∀{xs:List ae} (n:Nat),my W φ h l xs->my W φ h (l.take n) (xs.take n):=by
 induction l with
 |nil=>intro xs n r;rw[show xs=[] from r];cases n<;>rfl
 |cons v l ih=>
  intro xs n r;refine mI r λx ys e a b=>?_;rw[e]
  cases n with
  |zero=>rfl
  |succ n=>exact⟨x,_,rfl,a,ih n b⟩
theorem my.drop:∀{xs:List ae} (n:Nat),my W φ h l xs->my W φ h (l.drop n) (xs.drop n):=by
 induction l with
 |nil=>intro xs n r;rw[show xs=[] from r];cases n<;>rfl
 |cons v l ih=>
  intro xs n r
  cases n with
  |zero=>exact r
  |succ n=>refine mI r λx ys e Z b=>?_;rw[e];exact ih n b
theorem my.eraseIdx:∀{xs:List ae} (n:Nat),my W φ h l xs->my W φ h (l.eraseIdx n) (xs.eraseIdx n):=by
 induction l with
 |nil=>intro xs n r;rw[show xs=[] from r];rfl
 |cons v l ih=>
  intro xs n r;refine mI r λx ys e a b=>?_;rw[e]
  cases n with
  |zero=>exact b
  |succ n=>exact⟨x,_,rfl,a,ih n b⟩
theorem nq.length{l:List (Nat×V)}:∀{xs:List (a9×ae)},nq W φ h l xs->xs.length=l.length:=by
 induction l with
 |nil=>intro xs r;exact congrArg kr r
 |cons p l ih=>intro xs r;refine mN r λs x ys e Z Z r=>?_;rw[e];exact congrArg jT (ih r)
theorem nq.cons'{v:V}{l:List (Nat×V)}{s:a9}{x:ae}{xs:List (a9×ae)}(hk:W.S[k]?=some s)(rv:mm W φ h v x)(r:nq W φ h l xs):nq W φ h ((k,v)::l) ((s,x)::xs):=⟨s,x,xs,rfl,hk,rv,r⟩
theorem nq.nil':nq W φ h [] []:=rfl
theorem Bz(hS:W.S.Nodup){i:Nat}{s:a9}(hi:W.S[i]?=some s)(hj:W.S[j]?=some s):i=j:=
 (fC (nB hi) hS).mp (hi.trans hj.symm)
theorem oC(k':Nat)(v':V)(l:List (Nat×V))(k:Nat):mC ((k',v')::l) k=if k'=k then some v' else mC l k:=by
 unfold mC;rw[kK]
 by_cases e:k'=k
 .rw[if_pos e,show (k'==k)=true from beq_iff_eq.mpr e];rfl
 .rw[if_neg e,show (k'==k)=false from beq_eq_false_iff_ne.mpr e]
theorem xS(s':a9)(x:ae)(ys:List (a9×ae))(s:a9):gC ((s',x)::ys) s=if s'=s then some x else gC ys s:=by
 unfold gC;rw[kK]
 by_cases e:s'=s
 .rw[if_pos e,show decide (s'=s)=true from decide_eq_true e];rfl
 .rw[if_neg e,show decide (s'=s)=false from decide_eq_false e]
def Pw(W:Wd)(φ:List al)(h:aQ):Option V->Option ae->Prop
 |some v,o=>∃x,o=some x/\mm W φ h v x
 |none,o=>o=none
theorem nq.look(hS:W.S.Nodup){s:a9}(hk:W.S[k]?=some s){l:List (Nat×V)}:∀{xs:List (a9×ae)},nq W φ h l xs->Pw W φ h (mC l k) (gC xs s):=by
 induction l with
 |nil=>intro xs r;rw[show xs=[] from r];rfl
 |cons p l ih=>
  intro xs r;refine mN r λs' x ys e hk' rv r=>?_;rw[e,oC,xS]
  by_cases e:p.1=k
  .rw[if_pos e,if_pos (am (hk'.symm.trans (e▸hk)))];exact⟨x,rfl,rv⟩
  .rw[if_neg e,if_neg λq:s'=s=>e (Bz hS hk' (q▸hk))];exact ih r
theorem nq.get(hS:W.S.Nodup){s:a9}(hk:W.S[k]?=some s){l:List (Nat×V)}{xs:List (a9×ae)}(r:nq W φ h l xs){v:V}(e:mC l k=some v):∃x,gC xs s=some x/\mm W φ h v x:=by
 have:=r.look hS hk;rw[e] at this;exact this
theorem nq.getNone(hS:W.S.Nodup){s:a9}(hk:W.S[k]?=some s){l:List (Nat×V)}{xs:List (a9×ae)}(r:nq W φ h l xs)(e:mC l k=none):gC xs s=none:=by
 have:=r.look hS hk;rw[e] at this;exact this
theorem rV(l:List (Nat×V))(k:Nat):(l.any λp=>p.1==k)=(mC l k).isSome:=by
 induction l with
 |nil=>rfl
 |cons p l ih=>
  rw[jx,oC,ih]
  by_cases e:p.1=k
  .rw[if_pos e,show (p.1==k)=true from beq_iff_eq.mpr e];rfl
  .rw[if_neg e,show (p.1==k)=false from beq_eq_false_iff_ne.mpr e];rfl
theorem nq.any(hS:W.S.Nodup){s:a9}(hk:W.S[k]?=some s){l:List (Nat×V)}{xs:List (a9×ae)}(r:nq W φ h l xs):(l.any λp=>p.1==k)=(gC xs s).isSome:=by
 rw[rV];have:=r.look hS hk
 cases e:mC l k with
 |none=>rw[e] at this;rw[show gC xs s=none from this];rfl
 |some v=>rw[e] at this;refine l8 this λx hx Z=>?_;rw[hx];rfl
theorem tT(k':Nat)(v':V)(l:List (Nat×V))(k:Nat)(v:V):ng ((k',v')::l) k v=if k'=k then (k',v)::l else (k',v')::ng l k v:=by
 show (if (k'==k)=true then (k',v)::l else (k',v')::ng l k v)=_
 by_cases e:k'=k
 .rw[if_pos e,if_pos (beq_iff_eq.mpr e)]
 .rw[if_neg e,if_neg (λh=>e (beq_iff_eq.mp h))]
theorem yl(l:List (Nat×V))(k:Nat)(v:V):(ng l k v).length<=l.length+1:=by
 induction l with
 |nil=>exact aN _
 |cons p l ih=>
  rw[tT]
  split
  .exact dU _
  .exact bL ih
theorem y3{s:a9}{x:ae}{ys:List (a9×ae)}(hn:s∉ys.map (·.1)):fW ((s,y)::ys) s x=(s,x)::ys:=by
 have:=map_store_of_not_mem ys s x hn;simp [fW];exact this
theorem CG{s s':a9}{x:ae}{ys:List (a9×ae)}(hs:s'≠s):fW ((s',y)::ys) s x=(s',y)::fW ys s x:=by
 simp only[fW,jx,hs,decide_false,fi,fm,if_false]
 split<;>simp
theorem nq.set(hS:W.S.Nodup){s:a9}(hk:W.S[k]?=some s){v:V}{x:ae}(rv:mm W φ h v x){l:List (Nat×V)}:∀{xs:List (a9×ae)},nq W φ h l xs->(xs.map (·.1)).Nodup->nq W φ h (ng l k v) (fW xs s x):=by
 induction l with
 |nil=>intro xs r _;rw[show xs=[] from r];exact .cons' hk rv .nil'
 |cons p l ih=>
  intro xs r hn;refine mN r λs' y ys e hk' S2 r=>?_;rw[e] at hn ⊢;have Sy:=bo.mp hn;rw[tT]
  by_cases e:p.1=k
  .have hs:s'=s:=am (hk'.symm.trans (e▸hk));rw[if_pos e,hs,y3 (hs▸Sy.1)];exact .cons' (hs▸hk') rv r
  .rw[if_neg e,CG λq:s'=s=>e (Bz hS hk' (q▸hk))];exact .cons' hk' S2 (ih r Sy.2)
end
section
variable {s:af}
theorem o4.there{o:O}{a:al}:o4 W φ h o a->∃o,h.get? a=some o:=by
 cases o with
 |list l=>intro r;refine mI r λZ Z Z e Z=>?_;exact⟨_,e⟩
 |dict l=>intro r;refine l8 r λZ RV Z=>?_;obtain ⟨_,_,_,e,_⟩:=RV;exact⟨_,e⟩
 |inst c d=>intro r;refine l8 r λZ Z e=>?_;exact⟨_,e⟩
theorem Inv.here(i:Inv W φ σ h){a:al}(ha:a∈φ):∃o,h.get? a=some o:=by
 obtain ⟨n,hn,e⟩:=fe ha;have hσ:n < σ.length:=i.len▸hn;exact (i.rep n σ[n] a (aX hσ) (by rw[aX hn,e])).there
theorem Inv.notin(i:Inv W φ σ h){a:al}(ha:h.get? a=none):a∉φ/\a∉W.hid:=
 ⟨λhm=>(i.here hm).elim λZ e=>mr (ha.symm.trans e),λhm=>(i.hid _ hm).elim λZ e=>mr (ha.symm.trans e)⟩
theorem Inv.last(i:Inv W φ σ h)(a:al):(φ++[a])[σ.length]?=some a:=by
 rw[<-i.len];exact eG
theorem Inv.size_notin(i:Inv W φ σ h):h.objs.size∉φ/\h.objs.size∉W.hid:=i.notin (mG _)
theorem AL(i:Inv W φ σ s.heap)(r:my W φ s.heap l xs)(hl:l.length<=me)(h:∀x s',Good W [] φ s σ φ s'->mm W φ s'.heap (.tup l) x->Q x s'):aM W.M A (newTuple xs) Q E s:=by
 have g:=Good.push (own:=[]) i (uK xs 0);refine dB (h _ _ g ?_) (by show xs.toArray.size<=bM;rw[bF,r.length];exact mY hl);exact⟨_,xs,0,rfl,i.size_notin,by rw[r.length];exact mY hl,aU _ rfl,g.repL r⟩
theorem FI(i:Inv W φ σ s.heap)(r:my W φ s.heap l xs)(hl:l.length<=me)(h:∀x s',Good W [] φ s σ φ s'->mm W φ s'.heap (.lst l) x->Q x s'):aM W.M A (jY xs) Q E s:=by
 have g:=Good.push (own:=[]) i (pp xs 0);refine dB (h _ _ g ?_) (by show xs.toArray.size<=bM;rw[bF,r.length];exact mY hl);exact⟨_,xs,0,rfl,i.size_notin,by rw[r.length];exact mY hl,aU _ rfl,g.repL r⟩
theorem CS(i:Inv W φ σ s.heap)(r:my W φ s.heap l xs)(hl:l.length<=me)(h:∀x s' Rm,Good W [] φ s (σ++[.list l]) Rm s'->mm W Rm s'.heap (.obj σ.length) x->Q x s'):aM W.M A (jY xs) Q E s:=by
 have hn:=mG s.heap;have g:=Good.alloc (own:=[]) i (pp xs 0) (.list l) rfl ⟨xs,0,by rw[r.length];exact mY hl,aU _ rfl,r.evo (X:=[]) (.push _ _ _) (Apart.nil _ _ _) (.one _ _ hn)⟩;refine dB (h _ _ _ g ?_) (by show xs.toArray.size<=bM;rw[bF,r.length];exact mY hl);exact⟨_,i.last _,rfl⟩
end
section
variable {W:Wd}{A:bc}{E:ae->af->Prop}{s:af}{φ:List al}{σ:St}{Q:ae->af->Prop}
def LstAt(W:Wd)(φ:List al)(h:aQ)(x:ae)(l:List V):Prop:=∃a xs n,x=.ref a/\xs.length<=bM/\my W φ h l xs/\h.get? a=some (pp xs n)
def SeqAt(W:Wd)(φ:List al)(h:aQ)(x:ae)(l:List V):Prop:=∃a xs n,x=.ref a/\xs.length<=bM/\my W φ h l xs/\(h.get? a=some (uK xs n)\/h.get? a=some (pp xs n))
def AR(W:Wd)(φ:List al)(h:aQ)(x:ae)(l:List (Nat×V)):Prop:=∃a kvs,x=.ref a/\nq W φ h l kvs/\h.DictOf (strKind W.prog W.w) a kvs/\(a==ef)=false
theorem LstAt.seq{x:ae}(r:LstAt W φ h x l):SeqAt W φ h x l:=by
 refine mN r λa xs n h1 h2 h3 h4=>?_;exact⟨a,xs,n,h1,h2,h3,.inr h4⟩
theorem vA(i:Inv W φ σ s.heap){v:V}{x:ae}(r:mm W φ s.heap v x)(e:rm σ v=some l):LstAt W φ s.heap x l:=by
 refine l8 (bs e) λn e1 e2=>?_;rw[oK e1] at r;refine l8 r λa ha h1=>?_;refine mI (i.rep n _ a (listAt_eq e2) ha) λxs m hz e r=>?_;exact⟨a,xs,m,h1,hz,r,e⟩
theorem qP(i:Inv W φ σ s.heap){v:V}{x:ae}(r:mm W φ s.heap v x)(e:rZ σ v=some l):LstAt W φ s.heap x l:=by
 rcases mZ e with e | e
 .rw[uQ e] at r;refine mR r λa xs n h1 Z hz e r=>?_;exact⟨a,xs,n,h1,hz,r,e⟩
 .exact vA i r e
theorem su(i:Inv W φ σ s.heap){v:V}{x:ae}(r:mm W φ s.heap v x)(e:rI σ v=some l):SeqAt W φ s.heap x l:=by
 rcases mZ e with e | e
 .rw[qY e] at r;refine mR r λa xs n h1 Z hz e r=>?_;exact⟨a,xs,n,h1,hz,r,.inl e⟩
 .exact (qP i r e).seq
theorem GM(i:Inv W φ σ s.heap)(hsys:∃o,W.base.get? ef=some o){a:al}(ha:a∈φ):(a==ef)=false:=by
 rw[beq_eq_false_iff_ne]
 rintro rfl
 refine mF hsys λo ho=>?_;exact mr ((i.new _ ha).symm.trans ho)
theorem vz(hsys:∃o,W.base.get? ef=some o)(i:Inv W φ σ s.heap){v:V}{x:ae}{l:List (Nat×V)}(r:mm W φ s.heap v x)(e:xp σ v=some l):AR W φ s.heap x l:=by
 refine l8 (bs e) λn e1 e2=>?_;rw[oK e1] at r;refine l8 r λa ha h1=>?_;refine l8 (i.rep n _ a (qN e2) ha) λkvs e r=>?_;exact⟨a,kvs,h1,r,e,GM i hsys (bq ha)⟩
theorem qM(hsys:∃o,W.base.get? ef=some o)(i:Inv W φ σ s.heap){v:V}{x:ae}{l:List (Nat×V)}(r:mm W φ s.heap v x)(e:rE σ v=some l):AR W φ s.heap x l:=by
 rcases mZ e with e | e
 .rw[wV e] at r;refine sD r λa kvs h1 Z hs e r=>?_;exact⟨a,kvs,h1,r,e,beq_eq_false_iff_ne.mpr hs⟩
 .exact vz hsys i r e
theorem tK{i:Int}(h0:0<=i)(h:i.toNat < n):jq i n=some i.toNat:=by
 have e:(if i < 0 then i+(n:Int) else i)=i:=if_neg (gL.mpr h0);unfold jq;rw[e];exact if_pos (b5.mpr ⟨decide_eq_true h0,decide_eq_true ((jQ h0).mp h)⟩)
theorem seqIndex_neg{i:Int}(h0:i < 0)(h1:0<=i+n):jq i n=some (i+n).toNat:=by
 have e:(if i < 0 then i+(n:Int) else i)=i+n:=if_pos h0;unfold jq;rw[e];exact if_pos (b5.mpr ⟨decide_eq_true h1,decide_eq_true (Int.lt_of_lt_of_le (Int.add_lt_add_right h0 _) (Int.le_of_eq (lM _)))⟩)
def II(W:Wd)(φ:List al)(h:aQ)(xs:List ae)(i:Int)(v:V):Prop:=
 ∃k x,jq i xs.length=some k/\xs[k]?=some x/\mm W φ h v x/\(0<=i->k=i.toNat)/\(i < 0->-(xs.length:Int)<=i/\k=(i+xs.length).toNat)/\k < xs.length
theorem Dj{i:Int}{v:V}(r:my W φ s.heap l xs)(e:vT l i=some v):II W φ s.heap xs i v:=by
 have hl:=r.length
 by_cases h0:0<=i
 .refine l8 (r.get ((if_pos h0).symm.trans e)) λx hx rx=>?_;have hk:=nB hx;exact⟨i.toNat,x,tK h0 hk,hx,rx,λZ=>rfl,λh=>absurd h0 (gK.mpr h),hk⟩
 .have e:=(if_neg h0).symm.trans e
  by_cases h1:0<=i+l.length
  .refine l8 (r.get ((if_pos h1).symm.trans e)) λx hx rx=>?_;have hk:=nB hx;rw[<-hl] at h1 hx hk;exact⟨(i+xs.length).toNat,x,seqIndex_neg (gK.mp h0) h1,hx,rx,λh=>absurd h h0,λZ=>⟨Int.le_of_sub_nonneg (by rw[Int.sub_neg];exact h1),rfl⟩,hk⟩
  .exact mr ((if_neg h1).symm.trans e)
theorem FS{xs:List α}{y:α}(h:xs[j]?=some y):xs.toArray[j]?=some y:=(fO).trans h
theorem BL{i:Int}(hz:n<=bM)(h1:0<=i->k=i.toNat)(h2:i < 0->-(n:Int)<=i)(hlt:k < n):-2 ^ 63<=i/\i < 2 ^ 63:=by
 rw[dq] at hz
 rcases Int.lt_or_le i 0 with h | h
 .exact Ll (b6 (b6 (by decide:(-100000000:Int)<=-(16777216:Nat)) (Int.neg_le_neg (bH.mpr hz))) (h2 h)) (b6 (iG h) (by decide))
 .exact Ll (b6 (by decide) h) (cy h▸h1 h▸b6 (bH.mpr (ac (bK hlt) hz)) (by decide))
theorem J7(i:Inv W φ σ s.heap){v:V}{x:ae}(r:mm W φ s.heap v x)(e:rI σ v=some l){k:Int}{t:Tok}{u:V}(hk:vT l k=some u)(hs:∀a b,ij slice false a b=kX [a,b] (kU a b))(h:∀y,mm W φ s.heap u y->Q y s):aM W.M A (gb value slice x (.int k t)) Q E s:=by
 refine mN (su i r e) λa xs n RI Wg rl ho=>?_;subst RI;refine pq (Dj rl hk) λj y hj hy ry h1 h2 hlt=>?_;have hb:=BL Wg h1 (λq=>(h2 q).1) hlt
 rcases ho with ho | ho
 .have hT:s.TypeIs (.ref a) "tuple" := ⟨_,ho,rfl⟩
  exact li hT ja.lookup (getItem_meets hT (by decide) ja F.entry_tuple_getitem (F.args_tuple_getitem_2 _ _)
   (MeetsSeq.tuple_getitem_at a xs.toArray n k t j y hb.1 hb.2 hj (FS hy)) ⟨ho,h y ry⟩) (hs _ _)
 .have hl:s.heap.IsList a xs.toArray:=⟨_,ho,rfl,n,rfl⟩;refine li ⟨_,ho,rfl⟩ jr.lookup ?_ (hs _ _)
  by_cases h0:0<=k
  .exact wpAny_getItem_list hl h0 hb.2 (FS (h1 h0▸hy)) (h y ry)
  .have q:=h2 (gK.mp h0);exact wpAny_getItem_list_neg hl (gK.mp h0) q.1 hb.1 (FS (q.2▸hy)) (h y ry)
theorem E8{lo up:Option aa}(a b:ae):ij (.Slice lo up none pos) false a b=kX [b,a] (kU a b):=rfl
structure nO(W:Wd)(P:Pg):Prop where
 nodup:W.S.Nodup
 order:W.S.Pairwise λa b=>fT a.cps.toList b.cps.toList=true
 strOk:∀s∈W.S,d7 s=true
 sys:∃o,W.base.get? ef=some o
 slenLe:∀k:Nat,P.slen k<=bM
 slen:∀(k:Nat) (s:a9),W.S[k]?=some s->s.length<=P.slen k
 cat:∀(a:Nat) (i:Int) (c:Nat) (s:a9),P.cat a i=some c->W.S[a]?=some s->W.S[c]?=some (s++cq (toString i))
variable {P:Pg}
theorem AH(ok:nO W P)(i:Inv W φ σ s.heap){v:V}{x:ae}{l:List (Nat×V)}(r:mm W φ s.heap v x)(e:rE σ v=some l)(rk:mm W φ s.heap (.sym k) y){u:V}(hk:mC l k=some u)(hs:∀a b,ij slice false a b=kX [a,b] (kU a b))(h:∀z t,mm W φ s.heap u z->Q z {s with toks:=t}):aM W.M A (gb value slice x y) Q E s:=by
 refine pH (qM ok.sys i r e) λa kvs Rz rd hd Z=>?_;subst Rz;refine mJ rk λnm t hS RI=>?_;subst RI;refine l8 (rd.get ok.nodup hS hk) λz hz rz=>?_;exact li hd.typeIs F.slot_dict_getitem.lookup (wpAny_getItem_of (knd:=bw W.prog W.w) (k:=nm) (gW _ _ nm t) hd.mapOf hz (h z _ rz)) (hs _ _)
theorem zB(k:Int)(t:Tok):IsPart (.int k t) (some k):=.int k t
theorem Ge(n:Nat){k:Int}(h0:k < 0):n - (-k).toNat=(k+(n:Int)).toNat:=by
 have e:((-k).toNat:Int)=-k:=cy (ip (iG h0));rw[<-Int.toNat_sub n (-k).toNat,e,Int.sub_neg,Int.add_comm]
theorem GB(n:Nat)(k:Int):kms_hi (some k) n=rT n k:=by
 show (if k < 0 then n - (-k).toNat else min k.toNat n)=_;unfold rT
 by_cases h0:k < 0
 .rw[if_pos h0,if_neg (gK.mpr h0)];exact Ge n h0
 .rw[if_neg h0,if_pos (gL.mp h0)]
theorem EY(xs:List ae)(k:Int):slicePick xs.toArray none (some k) none=(xs.take (rT xs.length k)).toArray:=by
 rw[kms_pick_eq];show (((xs.drop (kms_lo none xs.length)).take (kms_hi (some k) xs.length - kms_lo none xs.length))).toArray=_;rw[GB,show kms_lo none xs.length=0 from rfl,List.drop_zero,Nat.sub_zero]
theorem AN(i:Inv W φ σ s.heap){v:V}{x:ae}(r:mm W φ s.heap v x)(e:rZ σ v=some l){k:Int}{t:Tok}(hk:-1000000<=k/\k<=1000000){sl:al}(Uz:s.heap.IsSliceOf sl .none (.int k t) .none)(hs:∀a b,ij slice false a b=kX [b,a] (kU a b))(h:∀y s',Good W [] φ s σ φ s'->mm W φ s'.heap (.lst (l.take (rT l.length k))) y->Q y s'):aM W.M A (gb value slice x (.ref sl)) Q E s:=by
 refine mN (qP i r e) λa xs n RI hz rl ho=>?_;subst RI;have g:=Good.push (own:=[]) i (pp (xs.take (rT xs.length k)) 0);refine li ⟨_,ho,rfl⟩ jr.lookup (wpAny_getItem_list_slice ⟨_,ho,rfl,n,rfl⟩ Uz .none (zB k t) .none (by decide) ?_ hz) (hs _ _);rw[EY];rw[<-rl.length] at h;exact h _ _ g ⟨_,_,0,rfl,i.size_notin,ac (ge _ _) hz,aU _ rfl,(g.repL rl).take (rT xs.length k)⟩
end
section
variable {s:af}
end
section
variable {s:af}{P:Pg}
theorem xq(i:Inv W φ σ s.heap){n:Int}(h:∀y s',Good W [] φ s σ φ s'->mm W φ s'.heap (.int n) y->Q y s'):Q (.int n s.toks) {s with toks:=s.toks+1}:=
 h _ _ (Good.tok i) (⟨_,rfl⟩)
theorem Fw(i:Inv W φ σ s.heap){a b v:V}{x:ae}(ra:mm W φ s.heap a x)(rb:mm W φ s.heap b y)(e:De a b=some v)(h:∀z s',Good W [] φ s σ φ s'->mm W φ s'.heap v z->Q z s'):aM W.M A (iC .Add x y) Q E s:=by
 refine l8 (bs e) λp ea e=>?_;refine l8 (ms e) λq eb Rz=>?_;subst Rz;rw[m6 ea] at ra;rw[m6 eb] at rb;refine mF ra λt RA=>?_;subst RA;refine mF rb λu RA=>?_;subst RA;exact add_int (xq i h)
theorem FK(i:Inv W φ σ s.heap){a b v:V}{x:ae}(ra:mm W φ s.heap a x)(rb:mm W φ s.heap b y)(e:((nu a).bind λi=>(nu b).map λj=>V.int (i - j))=some v)(h:∀z s',Good W [] φ s σ φ s'->mm W φ s'.heap v z->Q z s'):aM W.M A (iC .Sub x y) Q E s:=by
 refine l8 (bs e) λp ea e=>?_;refine l8 (ms e) λq eb Rz=>?_;subst Rz;rw[m6 ea] at ra;rw[m6 eb] at rb;refine mF ra λt RA=>?_;subst RA;refine mF rb λu RA=>?_;subst RA;exact sub_int (xq i h)
theorem FH(i:Inv W φ σ s.heap){a b v:V}{x:ae}(ra:mm W φ s.heap a x)(rb:mm W φ s.heap b y)(e:Eg a b=some v)(h:∀z s',Good W [] φ s σ φ s'->mm W φ s'.heap v z->Q z s'):aM W.M A (iC .Mult x y) Q E s:=by
 refine l8 (bs e) λp ea e=>?_;refine l8 (bs e) λq eb e=>?_;refine nt (nW e) λhb RA=>?_;subst RA;rw[m6 ea] at ra;rw[m6 eb] at rb;refine mF ra λt RA=>?_;subst RA;refine mF rb λu RA=>?_;subst RA;exact mul_int (xq i h) (IntMulOk.of_left (intBits_le_64 (b6 (by decide) hb.1) (cY hb.2 (by decide))))
theorem FG(i:Inv W φ σ s.heap){a b v:V}{x:ae}(ra:mm W φ s.heap a x)(rb:mm W φ s.heap b y)(e:((nu a).bind λi=>(nu b).bind λj=>og (0 < j) (V.int (i % j)))=some v)(h:∀z s',Good W [] φ s σ φ s'->mm W φ s'.heap v z->Q z s'):aM W.M A (iC .Mod x y) Q E s:=by
 refine l8 (bs e) λp ea e=>?_;refine l8 (bs e) λq eb e=>?_;refine nt (nW e) λhb RA=>?_;subst RA;rw[m6 ea] at ra;rw[m6 eb] at rb;refine mF ra λt RA=>?_;subst RA;refine mF rb λu RA=>?_;subst RA;exact mod_int (jO hb) (xq i (by rw[Int.fmod_eq_emod_of_nonneg p (iG hb)];exact h))
end
def qc(h:aQ)(L:al):Prop:=∃o es ep,h.get? L=some o/\o.cls=.type "frame" /\ o.data=.dict es ep
noncomputable def rN(W:Wd)(φ:List al)(h:aQ):List eA->Prop
 |[]=>True
 |env::r=>env.scope.kind≠.module/\(∃L,env.frame=some L/\L∉φ/\W.base.get? L=none/\qc h L)/\rN W φ h r
noncomputable def nT(l:List eA):List al:=l.filterMap (·.frame)
theorem rN.mem{l:List eA}:rN W φ h l->∀{b:al},b∈nT l->b∉φ/\W.base.get? b=none/\qc h b:=by
 induction l with
 |nil=>exact λZ b hb=>nomatch hb
 |cons env r ih=>
  intro x b hb;refine sf x λZ RV hr=>?_;obtain ⟨L,hf,hn,hb',ha⟩:=RV;rw[nT,dJ,hf] at hb
  rcases bd.mp hb with e | hb
  .rw[e];exact⟨hn,hb',ha⟩
  .exact ih hr hb
theorem rN.fun{l:List eA}:rN W φ h l->h.FunFrames {} l:=by
 induction l with
 |nil=>exact λZ=>trivial
 |cons env r ih=>
  intro x;refine sf x λhk RV hr=>?_;obtain ⟨L,hf,hn,hb',o,es,ep,ho,hc,hd⟩:=RV;exact⟨hk,⟨L,o,hf,rfl,ho,λvs q=>nomatch hd.symm.trans q⟩,ih hr⟩
structure Kept(X F:List al)(h h':aQ):Prop where
 there:∀b o,h.get? b=some o->∃o',h'.get? b=some o'
 keep:∀b o,b∉X->h.get? b=some o->∃sl,h'.get? b=some {o with slots:=sl}/\(b∉F->sl=o.slots)
theorem Kept.refl(X F:List al)(h:aQ):Kept X F h h:=⟨λb o e=>⟨o,e⟩,λb o Z e=>⟨o.slots,e,λZ=>rfl⟩⟩
theorem Kept.trans{Sp:aQ}(x:Kept X F h h')(y:Kept Y F h' Sp):Kept (X++Y) F h Sp:=by
 refine⟨λb o e=>?_,λb o hb e=>?_⟩
 .refine mF (x.there b o e) λo' e'=>?_;exact y.there b o' e'
 .refine l8 (x.keep b o (λhm=>hb (bD _ hm)) e) λsl e' q=>?_;refine l8 (y.keep b _ (λhm=>hb (bA _ hm)) e') λU1 SQ q'=>?_;exact⟨U1,SQ,λhF=>(q' hF).trans (q hF)⟩
theorem Kept.frAt(x:Kept X F h h')(a:qc h L)(hX:L∉X):qc h' L:=by
 refine o9 a λo es ep e c d=>?_;refine l8 (x.keep L o hX e) λsl e' Z=>?_;exact⟨_,es,ep,e',c,d⟩
structure Pz where
 oe:fq
 vs:Array ae
 a0:ae
 T:al
 oT:fq
 ts:Array ae
structure Km(W:Wd)(Ro h:aQ)(fl:ae)(e:al)(d:Pz):Prop where
 h0:Ro.get? e=none
 he:h.get? e=some d.oe
 hc:d.oe.cls=.ref W.exc
 hd:d.oe.data=.fields d.vs
 v0:d.vs[0]?=some d.a0
 v1:d.vs[1]?=some (.ref d.T)
 ne:d.T≠e
 t0:Ro.get? d.T=none
 hT:h.get? d.T=some d.oT
 dT:d.oT.data=.fields d.ts
 t3:d.ts[3]?=some fl
def nF(W:Wd)(Ro:aQ)(fl:ae)(e:al)(h:aQ):Prop:=∃d,Km W Ro h fl e d
structure IE(W:Wd)(Ro:aQ)(e:al)(h:aQ):Prop where
 h0:Ro.get? e=none
 ex:∃oe vs a0,h.get? e=some oe/\oe.cls=.ref W.exc/\oe.data=.fields vs/\vs[0]?=some a0/\vs[1]?=some .none
def nR(W:Wd)(Ro:aQ)(own:Option al)(e:al)(h:aQ):Prop:=IE W Ro e h\/∃fl,nF W Ro fl e h/\(fl=.none\/∃L,own=some L/\fl=cU L)
theorem nF.held{e:al}(x:nF W Ro (cU L) e h):nR W Ro (some L) e h:=.inr ⟨_,x,.inr ⟨L,rfl,rfl⟩⟩
theorem nF.flying{own:Option al}{e:al}(x:nF W Ro .none e h):nR W Ro own e h:=.inr ⟨_,x,.inl rfl⟩
theorem nF.born{e:al}(x:nF W Rq fl e h)(hn:∀b,Rq.get? b=none->Ro.get? b=none):nF W Ro fl e h:=by
 refine mF x λd x=>?_;exact⟨d,hn _ x.h0,x.he,x.hc,x.hd,x.v0,x.v1,x.ne,hn _ x.t0,x.hT,x.dT,x.t3⟩
theorem nR.born{own:Option al}{e:al}(x:nR W Rq own e h)(hn:∀b,Rq.get? b=none->Ro.get? b=none):nR W Ro own e h:=by
 rcases x with x | ⟨fl,x,y⟩
 .exact .inl ⟨hn _ x.h0,x.ex⟩
 .exact .inr ⟨fl,x.born hn,y⟩
structure vR(Ro:aQ)(F:List al)(h h':aQ):Prop where
 X:∃X,(∀b∈X,Ro.get? b=none/\∀o,h.get? b=some o->∃vs,o.data=.fields vs)/\Kept X F h h'
theorem vR.fields_trans{Sp:aQ}(x:vR Ro F h h')(y:vR Ro F h' Sp):vR Ro F h Sp:=by
 refine l8 x.X λX hX kx=>?_;refine l8 y.X λY hY ky=>?_;refine⟨X++Y,λb hb=>?_,kx.trans ky⟩
 rcases aH.mp hb with hb | hb
 .exact hX b hb
 .refine⟨(hY b hb).1,λo e=>?_⟩
  by_cases hm:b∈X
  .exact (hX b hm).2 o e
  .refine l8 (kx.keep b o hm e) λsl e' Z=>?_;refine mF ((hY b hb).2 _ e') λvs hv=>?_;exact⟨vs,hv⟩
theorem vR.frAt(x:vR Ro F h h')(a:qc h L):qc h' L:=by
 refine l8 x.X λX hX kx=>?_;refine kx.frAt a λhm=>?_;refine o9 a λo es ep e Z d=>?_;refine mF ((hX L hm).2 o e) λvs q=>?_;rw[d] at q;cases q
theorem rN.map{l:List eA}:(∀L,L∈nT l->L∉φ->W.base.get? L=none->qc h L->L∉Rm/\W'.base.get? L=none/\qc h' L)->rN W φ h l->rN W' Rm h' l:=by
 induction l with
 |nil=>exact λZ Z=>trivial
 |cons env r ih=>
  intro k H
  have e1:∀{b},env.frame=some b->b∈nT (env::r):=λhf=>by rw[nT,dJ,hf];exact ax
  exact⟨H.1,qv H.2.1 λL hf hn hb a=>⟨L,hf,k L (e1 hf) hn hb a⟩,ih (λL hm=>k L (aZ.mpr ((aZ.mp hm).imp λe he=>⟨aE _ he.1,he.2⟩))) H.2.2⟩
theorem vR.frs(x:vR Ro F h h'){l:List eA}:rN W φ h l->rN W φ h' l:=rN.map λL Z hn hb a=>⟨hn,hb,x.frAt a⟩
section
variable {W:Wd}{own φ Rm:List al}{σ σ':St}{s₀ s:af}
theorem vR.evo(x:vR Ro F h h')(hF:∀b∈F,qc h b)(hb:W.base.StaysIn Ro):∃X,pP X h h'/\Apart W φ X h/\(∀b∈X,Ro.get? b=none/\∀o,h.get? b=some o->∃vs,o.data=.fields vs):=by
 refine l8 x.X λX hX kx=>?_
 have hbX:∀b∈X,W.base.get? b=none:=λb hm=>by
  cases q:W.base.get? b with
  |none=>rfl
  |some o=>have:=hb b o q;rw[(hX b hm).1] at this;cases this
 refine⟨X,⟨λb o e=>?_,λb o e hn=>?_⟩,λb hm Z=>⟨hbX b hm,.inr λo e xs n q=>by refine mF ((hX b hm).2 o e) λvs hv=>?_;rw[hv] at q;cases q⟩,hX⟩
 .exact kx.there b o e
 .refine l8 (kx.keep b o hn e) λsl e' q=>?_;refine⟨sl,e',λhc=>q λhm=>hc ?_⟩;refine o9 (hF b hm) λo' Z Z SQ c Z=>?_;rw[e] at SQ;cases SQ;exact c
theorem pP.frAt(x:pP X h h')(a:qc h L)(hX:L∉X):qc h' L:=by
 refine o9 a λo es ep e c d=>?_;refine l8 (x.keep L o e hX) λsl e' Z=>?_;exact⟨_,es,ep,e',c,d⟩
theorem pP.ns(x:pP X h h'){m:a9->Option ae}(a:h.Ns L m)(hX:L∉X):h'.Ns L m:=by
 refine nU a λo es ep e r=>?_;refine l8 (x.keep L o e hX) λsl e' Z=>?_;exact⟨_,es,ep,e',r⟩
def x5(h:aQ)(b:al)(vs:Array ae):Prop:=∃o,h.get? b=some o/\o.data=.fields vs
theorem x5.not(x:x5 h b vs)(e:h.get? b=some o)(hd:o.data≠.fields vs):p:=by
 refine l8 x λo' e' d=>?_;exact absurd ((am (e.symm.trans e'))▸d) hd
theorem o4.notF{o:O}(r:o4 W φ h o b)(x:x5 h b vs):p:=by
 cases o with
 |list l=>refine mI r λZ Z Z e Z=>?_;exact x.not e nofun
 |dict l=>refine l8 r λZ RV Z=>?_;obtain ⟨_,_,_,e,_,d,_⟩:=RV;exact x.not e (by rw[d];exact nofun)
 |inst _ _=>refine l8 r λZ Z e=>?_;exact x.not e nofun
theorem Inv.notF{a:al}(i:Inv W φ σ h)(ha:a∈φ)(x:x5 h a vs):p:=by
 obtain ⟨n,hn,e⟩:=fe ha;have hσ:n < σ.length:=i.len▸hn;exact (i.rep n σ[n] a (aX hσ) (by rw[aX hn,e])).notF x
theorem Good.hop(x:Good W own φ s₀ σ' Rm s)(hb:W.base.StaysIn s₀.heap)(y:vR s₀.heap F s.heap h')(hF:∀b∈F,qc s.heap b/\b∉Rm/\W.base.get? b=none){t:Nat}:Good W own φ s₀ σ' Rm {s with heap:=h',toks:=t}:=by
 obtain ⟨X,ev,ap,hX⟩:=y.evo (λb m=>(hF b m).1) hb
 have hφ:∀a∈Rm,a∉X:=λa ha hm=>by
  refine mF (x.inv.here ha) λo e=>?_;refine mF ((hX a hm).2 o e) λvs q=>?_;exact x.inv.notF ha ⟨o,e,q⟩
 refine⟨x.grows,⟨λb o e=>?_,λb o e hn=>?_⟩,x.inv.evo ev ap hφ λb o e=>?_,x.gens,x.os⟩
 .refine mF (x.evo.there b o e) λo' e'=>?_;exact ev.there b o' e'
 .refine l8 (x.evo.keep b o e hn) λsl e' q=>?_
  obtain ⟨U1,SQ,q'⟩:=ev.keep b _ e' λhm=>by rw[(hX b hm).1] at e;cases e
  exact⟨U1,SQ,λhc=>(q' hc).trans (q hc)⟩
 .refine l8 y.X λX' Yg kx=>?_;refine l8 (kx.keep b o (λhm=>by have:=hb b o e;rw[(Yg b hm).1] at this;cases this) (x.inv.base b o e)) λsl e' q=>?_
  have:sl=o.slots:=q λhm=>by rw[(hF b hm).2.2] at e;cases e
  rw[e',this]
end
theorem uH{x:ae}(h:env'.frame=env.frame):gD x env'=gD x env:=by
 unfold gD jz;rw[h]
section
variable {M:gQ}{s:af}
theorem Hq{out:List eA}{e:al}{oe:fq}{head:ae}{SI:Bool}{Q:Unit->af->Prop}(hfr:A.frames=some (env::out))(hl:rN W φ s.heap (env::out))(hf:env.frame=some L)(he:s.heap.get? e=some oe)(hd:oe.data=.fields vs)(hsz:1 < vs.size)(h:∀h' T,Kept [e] (nT (env::out)) s.heap h'->s.heap.get? T=none->T≠e->h'.get? e=some (oe.mapFields (·.setIfInBounds 1 (.ref T)))->
   (∃oT ts,h'.get? T=some oT/\oT.data=.fields ts/\ts[3]?=some (cU L))->Q () {s with heap:=h'}):
  aM M A (do let a <-jz env;let pl <-entryPlaceOf L SI;let b <-gu head a .none (cU L) .none pl;setField (.ref e) 1 b) Q E s:=by
 have hene:e∉(env::out).filterMap (·.frame):=λhm=>by
  refine z7 (hl.mem hm) λZ Z o es ep ho Z Xf=>?_;rw[he] at ho;cases ho;rw[hd] at Xf;cases Xf
 refine ai (wpAny_frameOf_fun hfr hl.fun hf λRq RL=>?_);refine ai (wpAny_entryPlaceOf λpl S9=>?_);unfold gu lJ;refine ai (dB ?_ (S9.sizeOk5 _ _ _ _ _));generalize hO:({cls:=.type "traceback",dict:=none,data:=.fields ([head,.ref L,.none,cU L,.none]++(if pl.isEmpty then b7 6 d8 else pl)).toArray}:fq)=O
 have hOf:O.isFreed=false:=by subst hO;rfl
 have he₁:Rq.get? e=some oe:=(RL.2.1 e hene).trans he;have he₂:=av (h:=Rq) O he₁;refine fM he₂ hd hsz (h _ Rq.objs.size ⟨λb o hb=>?_,λb o Yb hb=>?_⟩ ?_ (aY (ch he₁)) ?_ ?_)
 .by_cases q:b=e
  .subst q;exact⟨_,bP _ he₂ (cX (cm hd _))⟩
  .refine mF (RL.2.2 b o hb) λsl e'=>?_;exact⟨_,(cg _ _ (bJ q)).trans (av _ e')⟩
 .have q:b≠e:=by simpa using Yb
  refine mF (RL.2.2 b o hb) λsl e'=>?_;refine⟨sl,(cg _ _ (bJ q)).trans (av _ e'),λhF=>?_⟩;have:=RL.2.1 b hF;rw[e',hb] at this;exact congrArg fq.slots (am this)
 .exact eM (by rw[RL.1];exact aN _)
 .exact bP _ he₂ (cX (cm hd _))
 .refine⟨O,_,(cg _ _ (aP (ch he₁))).trans (aU Rq hOf),by rw[<-hO],?_⟩
  rcases S9 with rfl | ⟨_,_,_,_,_,_,_,rfl⟩<;>simp
theorem ze{T:al}{o':fq}{f:fq->fq}(hT:h.get? T=some o)(hf:(f o).isFreed=false)(e:h.get? b=some o'):∃U9,(h.update T f).get? b=some U9:=by
 by_cases hb:b=T
 .rw[hb];exact⟨_,bP _ hT hf⟩
 .exact⟨o',(cg _ _ (bJ hb)).trans e⟩
theorem Fp{T:al}{f:fq->fq}{ts:Array ae}(t0:Ro.get? T=none)(hT:h.get? T=some o)(hd:o.data=.fields ts)(hf:(f o).isFreed=false):vR Ro F h (h.update T f):=by
 refine⟨[T],λb hb=>?_,λb o e=>ze hT hf e,λb o hb q=>⟨o.slots,?_,λZ=>rfl⟩⟩
 .rw[au.mp hb];exact⟨t0,λo' q=>⟨ts,am (hT.symm.trans q)▸hd⟩⟩
 .exact (cg _ _ λ(z:T=b)=>hb (au.mpr z.symm)).trans q
theorem FF{out:List eA}{e:al}{oe:fq}{a0 head:ae}{SI:Bool}{Q:Unit->af->Prop}(hfr:A.frames=some (env::out))(hl:rN W φ s.heap (env::out))(hf:env.frame=some L)(hn:∀b,s.heap.get? b=none->Ro.get? b=none)(h0:Ro.get? e=none)(he:s.heap.get? e=some oe)(hc:oe.cls=.ref W.exc)(hd:oe.data=.fields vs)(v0:vs[0]?=some a0)(hsz:1 < vs.size)(h:∀h',vR Ro (nT (env::out)) s.heap h'->nF W Ro (cU L) e h'->Q () {s with heap:=h'}):
  aM M A (do let a <-jz env;let pl <-entryPlaceOf L SI;let b <-gu head a .none (cU L) .none pl;setField (.ref e) 1 b) Q E s:=
 Hq hfr hl hf he hd hsz λh' T k hT Yj hE Yk=>h h' ⟨[e],λb hb=>(au.mp hb)▸⟨h0,λo q=>⟨vs,am (he.symm.trans q)▸hd⟩⟩,k⟩ (Yk.elim λoT x=>x.elim λts y=>
  ⟨⟨_,_,a0,T,oT,ts⟩,h0,hE,(ie _ _).trans hc,cm hd _,(fN (by decide)).trans v0,eH hsz,Yj,hn _ hT,y.1,y.2.1,y.2.2⟩)
theorem xT{out:List eA}{e:al}{Q:Unit->af->Prop}(hfr:A.frames=some (env::out))(hl:rN W φ s.heap (env::out))(hf:env.frame=some L)(TG:env'.frame=env.frame)(hn:∀b,s.heap.get? b=none->Ro.get? b=none)(x:nR W Ro (some L) e s.heap)(h:∀h',vR Ro (nT (env::out)) s.heap h'->nF W Ro (cU L) e h'->Q () {s with heap:=h'}):aM M A (gD (.ref e) env') Q E s:=by
 rw[uH TG];unfold gD;simp only[hf]
 rcases x with x | ⟨fl,⟨d,x⟩,T3⟩
 .refine mR x.ex λoe vs a0 he hc hd Wj h1=>?_;refine ai (bY he hd h1 ?_);rw[if_neg (by decide)];exact FF hfr hl hf hn x.h0 he hc hd Wj (cP.mp h1).1 h
 .refine ai (bY x.he x.hd x.v1 ?_);rw[if_pos (show (cI d.T != d8)=true from rfl)];refine ai (bY x.hT x.dT x.t3 ?_)
  rcases T3 with e1 | ⟨L',hL',e1⟩
  .rw[e1,if_neg (show ¬((d8==cU L)=true) from nofun)];have fr:=cX (cm x.dT (·.setIfInBounds 3 d8));refine ai (fM x.hT x.dT (cP.mp x.t3).1 ?_);have hop:vR Ro (nT (env::out)) s.heap _:=Fp x.t0 x.hT x.dT fr;refine FF hfr (hop.frs hl) hf (λb q=>?_) x.h0 ((cg s.heap (lA (·.setIfInBounds 3 d8)) x.ne).trans x.he) x.hc x.hd x.v0 (cP.mp x.v1).1 λh' Ta fl=>h h' (hop.fields_trans Ta) fl
   cases q':s.heap.get? b with
   |none=>exact hn b q'
   |some o=>refine mF (ze x.hT fr q') λo' e'=>?_;exact mr (q.symm.trans e')
  .rw[e1,<-am hL',if_pos (show (cU L==cU L)=true from beq_self_eq_true _)];exact aO (h s.heap ⟨[],λb hb=>(nomatch hb),Kept.refl _ _ _⟩ ⟨d,x.h0,x.he,x.hc,x.hd,x.v0,x.v1,x.ne,x.t0,x.hT,x.dT,x.t3.trans (congrArg some (e1.trans (by rw[am hL'])))⟩)
theorem pN{env env':eA}{e:al}{fr:Option al}{Q:Unit->af->Prop}(x:nF W Ro fl e s.heap)(h:∀h',vR Ro F s.heap h'->nF W Ro (fr.elim .none λf=>cU f) e h'->Q () {s with heap:=h'}):aM M A (lL (.ref e) fr) Q E s:=by
 refine mF x λd x=>?_;have sz:=(cP.mp x.t3).1;have fz:=cX (cm x.dT (·.setIfInBounds 3 (fr.elim .none λf=>cU f)));unfold lL;refine ai (bY x.he x.hd x.v1 ?_);rw[if_pos (show (cI d.T != d8)=true from rfl)];exact fM x.hT x.dT sz (h _ (Fp x.t0 x.hT x.dT fz) ⟨⟨d.oe,d.vs,d.a0,d.T,d.oT.mapFields (·.setIfInBounds 3 (fr.elim .none λf=>cU f)),d.ts.setIfInBounds 3 (fr.elim .none λf=>cU f)⟩,x.h0,(cg _ _ x.ne).trans x.he,x.hc,x.hd,x.v0,x.v1,x.ne,x.t0,bP _ x.hT fz,cm x.dT _,eH sz⟩)
theorem CQ{out:List eA}{e:al}{Q:Unit->af->Prop}(hfr:A.frames=some (env::out))(hl:rN W φ s.heap (env::out))(hf:env.frame=some L)(TG:env'.frame=env.frame)(hn:∀b,s.heap.get? b=none->Ro.get? b=none)(x:nR W Ro (some L) e s.heap)(h:∀h',vR Ro (nT (env::out)) s.heap h'->nF W Ro .none e h'->Q () {s with heap:=h'}):aM M A (leaving env' (.ref e)) Q E s:=by
 unfold leaving;exact ai (xT hfr hl hf TG hn x λh' hop held=>pN (env:=env) (env':=env) held λSp Ta fl=>h Sp (hop.fields_trans Ta) fl)
theorem zk{what:String}{e:al}{Q:α->af->Prop}(x:nF W Ro fl e s.heap)(h:∀h',vR Ro F s.heap h'->nF W Ro (env.frame.elim .none λf=>cU f) e h'->E (.ref e) {s with heap:=h'}):aM M A (lN what (.ref e) env:jV α) Q E s:=by
 refine mF (id x) λd y=>?_;unfold lN;refine ai (bY y.he y.hd y.v1 ?_);rw[if_neg (show ¬((cI d.T==d8)=true) from nofun)];exact ai (pN (env:=env) (env':=env) x λh' hop fl=>wpAny_throw (h h' hop fl))
theorem AE{e:al}(x:nF W Ro fl e s.heap)(h:∀h',vR Ro F s.heap h'->nF W Ro (env.frame.elim .none λf=>cU f) e h'->E (.ref e) {s with heap:=h'}):gU M A env E (.ref e) s:=by
 refine mF (id x) λd y=>?_;unfold gU;refine ai (bY y.he y.hd y.v1 ?_);rw[if_neg (show ¬((cI d.T==d8)=true) from nofun)];exact pN (env:=env) (env':=env) x λh' hop fl=>h h' hop fl
end
section
variable {W:Wd}{a:al}{φ:List al}{h:aQ}
noncomputable abbrev Wd.hide(W:Wd)(a:al):Wd:={W with hid:=a::W.hid}
noncomputable abbrev Wd.with(W:Wd)(hs:List al):Wd:={W with hid:=hs}
section
variable {hs:List al}
mutual
theorem mm.with(k:∀b o,h.get? b=some o->b∉W.hid->b∉hs):∀{v:V} {y:ae},mm W φ h v y->mm (W.with hs) φ h v y
 |.none,_,r=>r
 |.bool _,_,r=>r
 |.int _,_,r=>r
 |.sym _,_,r=>r
 |.itxt _,_,r=>r
 |.txt _,_,r=>r
 |.tup l,_,r=>by
  refine mR r λb xs n e0 hb hz e r=>?_;exact⟨b,xs,n,e0,⟨hb.1,k b _ e hb.2⟩,hz,e,my.with k r⟩
 |.lst l,_,r=>by
  refine mR r λb xs n e0 hb hz e r=>?_;exact⟨b,xs,n,e0,⟨hb.1,k b _ e hb.2⟩,hz,e,my.with k r⟩
 |.dct l,_,r=>by
  refine sD r λb kvs e0 hb hs q r=>?_;exact⟨b,kvs,e0,hb,hs,q,nq.with k r⟩
 |.obj n,_,r=>r
theorem my.with(k:∀b o,h.get? b=some o->b∉W.hid->b∉hs):∀{l:List V} {ys:List ae},my W φ h l ys->my (W.with hs) φ h l ys
 |[],_,r=>r
 |v::l,_,r=>by
  refine mI r λy ys e p q=>?_;exact⟨y,ys,e,mm.with k p,my.with k q⟩
theorem nq.with(k:∀b o,h.get? b=some o->b∉W.hid->b∉hs):∀{l:List (Nat×V)} {es:List (a9×ae)},nq W φ h l es->nq (W.with hs) φ h l es
 |[],_,r=>r
 |(_,v)::l,_,r=>by
  refine mN r λs y es e hk p q=>?_;exact⟨s,y,es,e,hk,mm.with k p,nq.with k q⟩
end
theorem o4.with(k:∀b o,h.get? b=some o->b∉W.hid->b∉hs){o:O}(r:o4 W φ h o b):o4 (W.with hs) φ h o b:=by
 cases o with
 |list l=>refine mI r λxs n hz e r=>?_;exact⟨xs,n,hz,e,r.with k⟩
 |dict l=>refine l8 r λkvs e r=>?_;exact⟨kvs,e,r.with k⟩
 |inst c d=>exact r
end
theorem zN(ha:h.get? a=none):∀b o,h.get? b=some o->b∉W.hid->b∉a::W.hid:=λb o e hb hm=>(bd.mp hm).elim (λ(q:b=a)=>mr ((q▸ha).symm.trans e)) hb
theorem zF:∀b o,h.get? b=some o->b∉a::W.hid->b∉W.hid:=λb o Z hb hm=>hb (aE _ hm)
theorem mm.hide(ha:h.get? a=none){v:V}(r:mm W φ h v y):mm (W.hide a) φ h v y:=r.with (zN ha)
theorem my.hide(ha:h.get? a=none){v:List V}{y:List ae}(r:my W φ h v y):my (W.hide a) φ h v y:=r.with (zN ha)
theorem mm.bare{v:V}(r:mm (W.hide a) φ h v y):mm W φ h v y:=mm.with (W:=W.hide a) (hs:=W.hid) zF r
theorem my.bare{v:List V}{y:List ae}(r:my (W.hide a) φ h v y):my W φ h v y:=my.with (W:=W.hide a) (hs:=W.hid) zF r
theorem o4.hide(ha:h.get? a=none){o:O}(r:o4 W φ h o b):o4 (W.hide a) φ h o b:=r.with (zN ha)
theorem o4.bare{o:O}(r:o4 (W.hide a) φ h o b):o4 W φ h o b:=o4.with (W:=W.hide a) (hs:=W.hid) zF r
theorem Inv.bare(i:Inv (W.hide a) φ σ h):Inv W φ σ h:=
 ⟨i.base,i.len,i.nodup,i.new,λb hb=>i.hid b (aE _ hb),λn o b e1 e2=>(i.rep n o b e1 e2).bare⟩
theorem Inv.hide(i:Inv W φ σ h)(ha:h.get? a=none)(k:∀b o,h.get? b=some o->h'.get? b=some o)(VR:∃o,h'.get? a=some o):Inv (W.hide a) φ σ h':=by
 have i':Inv (W.hide a) φ σ h':=⟨λb o e=>k b o (i.base b o e),i.len,i.nodup,i.new,λb hb=>?_,λn o b e1 e2=>((i.rep n o b e1 e2).hide ha).evo (X:=[]) (pP.of_keeps k) (Apart.nil _ _ _) (.refl _ _) (λhm=>nomatch hm)⟩
 .exact i'
 .rcases bd.mp hb with q | q
  .subst q;exact VR
  .refine mF (i.hid b q) λo e=>?_;exact⟨o,k b o e⟩
end
noncomputable def o5:List a9:=["len", "any", "sorted", "list", "tuple", "dict", "str", "set", "range", "enumerate", "zip", "super"]
theorem StaysIn.ns{base:aQ}(k:base.StaysIn h){a:al}{m:a9->Option ae}(n:base.Ns a m):h.Ns a m:=by
 refine nU n λo es ep e r=>?_;exact⟨o,es,ep,k a o e,r⟩
theorem Inv.const(i:Inv W φ σ h){v:V}(r:mm W [] W.base v y):mm W φ h v y:=
 r.evo (X:=[]) (pP.of_keeps i.base) (Apart.nil _ _ _) ⟨φ,by simp,i.new⟩
def qH(W:Wd)(φ:List al)(h:aQ)(ρ:mc)(i:Nat)(u:Option ae):Prop:=∀v,(ρ[i]?).join=some v->∃y,u=some y/\mm W φ h v y
structure mQ(W:Wd)(env:eA)(vars:List (a9×Nat))(ρ:mc)(φ:List al)(h:aQ):Prop where
 kind:env.scope.kind=.function
 glob:env.globals=cO
 bui:env.builtins=d9
 inj:(vars.map (·.2)).Nodup
 apart:∀x y c,env.cells.lookup x=some c->env.cells.lookup y=some c->x=y
 out:env.locals∉φ/\W.base.get? env.locals=none
 loc:∃m,h.Ns env.locals m/\∀x i,vars.lookup x=some i->env.kindOf x=some .local->qH W φ h ρ i (m x)
 cell:∀x c,env.cells.lookup x=some c->c∉φ/\W.base.get? c=none/\c≠env.locals/\∃u,h.IsCell c u/\
  ∀i,vars.lookup x=some i->env.kindOf x=some .cell\/env.kindOf x=some .free->qH W φ h ρ i u
 has:∀x i,vars.lookup x=some i->env.kindOf x=some .local\/((env.kindOf x=some .cell\/env.kindOf x=some .free)/\∃c,env.cells.lookup x=some c)
theorem tL(h:(vars.map (·.2)).Nodup){x y:a9}{i:Nat}(hx:vars.lookup x=some i)(hy:vars.lookup y=some i):x=y:=by
 have a:=mem_of_lookup hx;have b:=mem_of_lookup hy
 clear hx hy
 induction vars with
 |nil=>cases a
 |cons p r ih=>
  refine nt (bo.mp h) λq1 q2=>?_
  rcases bd.mp a with e | a'<;>rcases bd.mp b with e' | b'
  .rw[<-e'] at e;exact (fw e).1
  .exact absurd (aW.mpr ⟨_,b',by rw[<-e]⟩) q1
  .exact absurd (aW.mpr ⟨_,a',by rw[<-e']⟩) q1
  .exact ih q2 a' b'
section
theorem qH.map{i:Nat}{u:Option ae}(x:qH W φ h ρ i u)(f:∀v y,mm W φ h v y->mm W' Rm h' v y):qH W' Rm h' ρ i u:=λv e=>by
 refine l8 (x v e) λy hy r=>?_;exact⟨y,hy,f v y r⟩
theorem mQ.there(x:mQ W env vars ρ φ h):∃o,h.get? env.locals=some o/\∀vs n,o.data≠.seq vs n:=by
 refine l8 x.loc λm RV Z=>?_;obtain ⟨o,_,_,e,d,_⟩:=RV;exact⟨o,e,λvs n q=>by rw[d] at q;cases q⟩
theorem mQ.cellThere(x:mQ W env vars ρ φ h){n:a9}{c:al}(hc:env.cells.lookup n=some c):∃o,h.get? c=some o/\∀vs n,o.data≠.seq vs n:=by
 refine nJ (x.cell n c hc) λZ Z Z u SS Z=>?_;obtain ⟨o,e,d⟩:=SS;exact⟨o,e,λvs n q=>by rw[d] at q;cases q⟩
theorem tx(x:∃o,h.get? b=some o/\∀vs n,o.data≠.seq vs n)(e:h.get? b=some o):∀vs n,o.data≠.seq vs n:=by
 refine l8 x λo' e' q=>?_;rw[<-am (e'.symm.trans e)];exact q
theorem mQ.evo(x:mQ W env vars ρ φ h)(ev:pP X h h')(ap:Apart W φ X h)(g:Grows h φ Rm)(hL:env.locals∉X)(hc:∀n c,env.cells.lookup n=some c->c∉X):mQ W env vars ρ Rm h':=by
 have f:∀v y,mm W φ h v y->mm W Rm h' v y:=λv y r=>r.evo ev ap g;refine⟨x.kind,x.glob,x.bui,x.inj,x.apart,⟨x.there.elim λo q=>g.notin q.1 x.out.1,x.out.2⟩,?_,λn c hnc=>?_,x.has⟩
 .refine l8 x.loc λm hm hv=>?_;exact⟨m,ev.ns hm hL,λn i a b=>(hv n i a b).map f⟩
 .refine nJ (x.cell n c hnc) λa b c' u SS hv=>?_;obtain ⟨o,e,d⟩:=SS;refine l8 (ev.keep c o e (hc n c hnc)) λsl e' Z=>?_;exact⟨g.notin e a,b,c',u,⟨_,e',d⟩,λi p q=>(hv i p q).map f⟩
theorem mQ.good{s:af}(x:mQ W env vars ρ φ s.heap)(g:Good W [] φ s σ' Rm s'):mQ W env vars ρ Rm s'.heap:=
 x.evo g.evo ((Apart.self _ _ _).append (Apart.nil _ _ _)) g.grows (by rw[aT];exact x.out.1) λn c hnc=>by rw[aT];exact (x.cell n c hnc).1
theorem mQ.hop(x:mQ W env vars ρ φ h)(y:vR Ro F h h')(hF:∀b∈F,qc h b)(hb:W.base.StaysIn Ro):mQ W env vars ρ φ h':=by
 obtain ⟨X,ev,ap,hX⟩:=y.evo hF hb;refine x.evo ev ap (.refl _ _) (λhm=>?_) λn c hnc hm=>?_
 .refine l8 x.loc λm RV Z=>?_;obtain ⟨o,_,_,e,d,_⟩:=RV;refine mF ((hX _ hm).2 o e) λvs q=>?_;rw[d] at q;cases q
 .refine nJ (x.cell n c hnc) λZ Z Z u SS Z=>?_;obtain ⟨o,e,d⟩:=SS;refine mF ((hX _ hm).2 o e) λvs q=>?_;rw[d] at q;cases q
theorem mQ.map(x:mQ W env vars ρ φ h)(hb:W'.base=W.base)(f:∀v y,mm W φ h v y->mm W' φ h v y):mQ W' env vars ρ φ h:=by
 refine⟨x.kind,x.glob,x.bui,x.inj,x.apart,hb▸x.out,?_,λn c hnc=>?_,x.has⟩
 .refine l8 x.loc λm hm hv=>?_;exact⟨m,hm,λn i a b=>(hv n i a b).map f⟩
 .refine nJ (x.cell n c hnc) λa b c' u hu hv=>?_;exact⟨a,hb▸b,c',u,hu,λi p q=>(hv i p q).map f⟩
theorem mQ.hide{a:al}(x:mQ W env vars ρ φ h)(ha:h.get? a=none):mQ (W.hide a) env vars ρ φ h:=x.map rfl λv y r=>r.hide ha
theorem mQ.bare{a:al}(x:mQ (W.hide a) env vars ρ φ h):mQ W env vars ρ φ h:=mQ.map (W:=W.hide a) x rfl λv y r=>r.bare
end
section
variable {W:Wd}{M:gQ}{A:bc}{E:ae->af->Prop}{s:af}{φ:List al}{σ:St}{env:eA}{vars:List (a9×Nat)}{ρ:mc}
theorem FE(ok:mQ W env vars ρ φ s.heap){x:a9}{i:Nat}{v:V}(hx:vars.lookup x=some i)(hv:(ρ[i]?).join=some v)(hn:(x==("__classdict__" : a9))=false)(h:∀y,mm W φ s.heap v y->Q y s):aM M A (lf env x) Q E s:=by
 rcases ok.has x i hx with hl | ⟨hk,c,hc⟩
 .refine l8 ok.loc λm hm hr=>?_;refine l8 (hr x i hx hl v hv) λy hy r=>?_;exact gh ok.kind hl hm hy (h y r)
 .refine nJ (ok.cell x c hc) λZ Z Z u hu hr=>?_;refine l8 (hr i hx hk v hv) λy RA r=>?_;subst RA
  rcases hk with hk | hk
  .exact jw ok.kind hk hc hu (h y r)
  .exact gy ok.kind hk hc hu (h y r) hn
theorem pX(ok:mQ W env vars ρ φ s.heap)(hb:W.base.StaysIn s.heap)(hm:W.base.Ns cO mg){x:a9}(hk:env.kindOf x=some .globalImplicit)(hy:mg x=some y)(h:Q y s):aM M A (lf env x) Q E s:=by
 rw[loadName_read ok.kind hk];unfold lb;rw[ok.glob];refine ai (ik (StaysIn.ns hb hm) ?_);rw[hy];exact aO h
theorem v3(ok:mQ W env vars ρ φ s.heap)(hb:W.base.StaysIn s.heap)(hm:W.base.Ns cO mg)(XV:W.base.Ns d9 mb){x:a9}(hk:env.kindOf x=some .globalImplicit)(hx:mg x=none)(hy:mb x=some y)(h:Q y s):aM M A (lf env x) Q E s:=by
 rw[loadName_read ok.kind hk];unfold lb;rw[ok.glob,ok.bui];refine ai (ik (StaysIn.ns hb hm) ?_);rw[hx];refine ai (ik (StaysIn.ns hb XV) ?_);rw[hy];exact aO h
theorem BD{a:al}{es:Array fv}{ep:Nat}{name:a9}{v:ae}{Q:Unit->af->Prop}(ho:s.heap.get? a=some o)(hd:o.data=.dict es ep)(hr:es.toList.any (·.refKey)=false)(h:Q () {s with heap:=s.heap.update a (eN name (dO w.params name) (.str name s.toks) v),toks:=s.toks+1}):aM (b8 prog w) A (nsSet a name v) Q E s:=by
 unfold nsSet;refine ai (ai (wpAny_askSetting (aO (ai (wpAny_mkText (ai (jl ho ?_)))))));rw[hd];dsimp only
 rw[show aRefKeyMayBeTheName name es=false by
  rw[aRefKeyMayBeTheName_at,<-Array.any_toList (as:=es) (p:=λx=>x.refKey),hr,kY]]
 exact wpAny_updatePart ho h
theorem EB{a:al}{m:a9->Option ae}(hn:h.Ns a m):∃o es ep,h.get? a=some o/\o.data=.dict es ep/\es.toList.any (·.refKey)=false:=by
 refine mN hn λo es ep ho hd hk hm=>?_;refine⟨o,es,ep,ho,hd,gZ.mpr λe he=>?_⟩;refine wl (hk e (i8.mp he)) λn t h=>?_;rw[j2,h];exact λq=>ma q
theorem E4{es:Array fv}{ep:Nat}(hd:o.data=.dict es ep)(name:a9)(i:Int)(k v:ae):∃VT n2,eN name i k v o=⟨o.cls,o.dict,.dict VT n2,o.slots⟩:=by
 obtain ⟨c,d,dt,sl⟩:=o;obtain rfl:dt=.dict es ep:=hd;rw[jh];unfold dZ
 cases hi:es.findIdx? (·.key.isStr name)<;>simp only[hi]<;>exact⟨_,_,rfl⟩
theorem JK{a:al}{m:a9->Option ae}(hn:h.Ns a m)(name:a9)(i:Int)(t:Tok)(v:ae):(h.update a (eN name i (.str name t) v)).Ns a (λx=>if x=name then some v else m x):=by
 refine mN hn λo es ep ho hd hk hm=>?_;obtain ⟨c,d,dt,sl⟩:=o;obtain rfl:dt=.dict es ep:=hd;have hu:=bP (eN name i (.str name t) v) ho;rw[jh] at hu ⊢
 cases hi:es.findIdx? (·.key.isStr name) with
 |some j=>
  simp only[dZ,hi] at hu ⊢
  exact⟨_,_,ep,hu rfl,rfl,hk.modify _ _,λx=>by
   show _=if x=name then some v else m x
   rw[<-hm];exact findBy_modify (λn v=>v.isStr n) ae.isStr_inj es name x v j hi⟩
 |none=>
  simp only[dZ,hi] at hu ⊢;refine⟨_,_,ep+1,hu rfl,rfl,hk.push _ _ _ _,λx=>?_⟩;show _=if x=name then some v else m x;rw[<-hm];refine findBy_push (λn v=>v.isStr n) es name x _ _ v (λy=>?_) hi;show (name==y)=decide (y=name);rw[kC,beq_iff_eq,decide_eq_true_iff];exact eq_comm
theorem BE{a:al}{m:a9->Option ae}{name:a9}{v:ae}{Q:Unit->af->Prop}(hn:s.heap.Ns a m)(h:∀h',h'.Ns a (λx=>if x=name then some v else m x)->bX a s.heap h'->(qc s.heap a->qc h' a)->Q () {s with heap:=h',toks:=s.toks+1}):
  aM (b8 prog w) A (nsSet a name v) Q E s:=by
 refine o9 (EB hn) λo es ep ho hd hr=>?_;refine BD ho hd hr (h _ (JK hn name _ _ v) (fc ..) λhf=>?_);refine o9 hf λo' Z Z UC hc Z=>?_;refine wl (E4 hd name (dO w.params name) (.str name s.toks) v) λVT n2 e=>?_;have hu:=bP (eN name (dO w.params name) (.str name s.toks) v) ho;rw[e] at hu;rw[am (UC.symm.trans ho)] at hc;exact⟨_,VT,n2,hu rfl,hc,rfl⟩
noncomputable def ownOf(env:eA):List al:=env.locals::env.cells.filterMap λp=>env.cells.lookup p.1
theorem mem_ownOf{x:a9}{c:al}(h:env.cells.lookup x=some c):c∈ownOf env:=aE _ (aZ.mpr ⟨_,mem_of_lookup h,h⟩)
theorem nV(h:b∈ownOf env):b=env.locals\/∃n,env.cells.lookup n=some b:=by
 rcases bd.mp h with e | h
 .exact .inl e
 .refine l8 (aZ.mp h) λp Z e=>?_;exact .inr ⟨p.1,e⟩
noncomputable def uf(loc:Bool)(env:eA):List al:=if loc then [env.locals] else ownOf env
theorem yC(loc:Bool)(env:eA):env.locals∈uf loc env:=by cases loc<;>simp [uf,ownOf]
theorem sm(h:b∈uf loc env):b∈ownOf env:=by
 cases loc
 .exact h
 .rw[au.mp h];exact ax
theorem qH.same{i:Nat}{v:V}(hi:i < ρ.length)(r:mm W φ h v y):qH W φ h (ρ.set i (some v)) i (some y):=λw e=>by
 rw[aF hi] at e;rw[<-am e];exact⟨y,rfl,r⟩
theorem qH.other{i:Nat}{v:Option V}{u:Option ae}(UV:i≠j)(x:qH W φ h ρ j u):qH W φ h (ρ.set i v) j u:=λw e=>by
 rw[aj UV] at e;exact x w e
theorem tF{c:al}(hs:bX c h h')(hx:∃o,h'.get? c=some o):pP [c] h h':=by
 refine⟨λb o e=>?_,λb o e hb=>⟨o.slots,(hs.2 b λq=>hb (au.mpr q)).trans e,λZ=>rfl⟩⟩
 by_cases hb:b=c
 .rw[hb];exact hx
 .exact⟨o,(hs.2 b hb).trans e⟩
theorem sE{c:al}(hb:W.base.get? c=none)(hn:∃o,h.get? c=some o/\∀vs n,o.data≠.seq vs n):Apart W φ [c] h:=λb hm Z=>by
 rw[au.mp hm];exact⟨hb,.inr λo e=>tx hn e⟩
theorem yS{c:al}(inv:Inv W φ σ s.heap){t:Nat}(hs:bX c s.heap h')(hx:∃o,h'.get? c=some o)(ha:c∉φ)(hb:W.base.get? c=none)(hn:∃o,s.heap.get? c=some o/\∀vs n,o.data≠.seq vs n)(ho:c∈own):
  Good W own φ s σ φ {s with heap:=h',toks:=t}:=by
 have ev:=tF hs hx;refine⟨.refl _ _,ev.mono λb hm=>bA _ (by rw[au.mp hm];exact ho),inv.evo ev (sE hb hn) (λa hm XY=>ha (au.mp XY▸hm)) (λb o e=>?_),rfl,rfl⟩;exact (hs.2 b λq=>mr (hb.symm.trans (q▸e))).trans (inv.base b o e)
theorem xU(ok:mQ W env vars ρ φ s.heap)(inv:Inv W φ σ s.heap){x:a9}{i:Nat}{v:V}{Q:Unit->af->Prop}(hx:vars.lookup x=some i)(hi:i < ρ.length)(rv:mm W φ s.heap v y)(hl:env.kindOf x=some .local)(h:∀s',Good W (uf loc env) φ s σ φ s'->mQ W env vars (ρ.set i (some v)) φ s'.heap->(qc s.heap env.locals->qc s'.heap env.locals)->Q () s'):aM (b8 prog w) A (fV env x y) Q E s:=by
 refine l8 ok.loc λm hm hr=>?_;rw[storeName_local hl (by rw[ok.kind];rfl)];refine BE hm λh' Sy RQ hfr=>?_
 have hex:∃o,h'.get? env.locals=some o:=by refine nU Sy λo' Z Z e Z=>?_;exact⟨o',e⟩
 have f:∀v y,mm W φ s.heap v y->mm W φ h' v y:=λv y r=>r.evo (tF RQ hex) (sE ok.out.2 ok.there) (.refl _ _);refine h _ (yS inv RQ hex ok.out.1 ok.out.2 ok.there (yC _ _)) ⟨ok.kind,ok.glob,ok.bui,ok.inj,ok.apart,ok.out,⟨_,Sy,λz j hz Vn=>?_⟩,λz c hz=>?_,ok.has⟩ hfr
 .by_cases hzx:z=x
  .rw[if_pos hzx,am (hz.symm.trans (hzx▸hx))];exact .same (am (hz.symm.trans (hzx▸hx))▸hi) (f v y rv)
  .rw[if_neg hzx];exact .other (λq=>hzx (tL ok.inj hz (q▸hx))) ((hr z j hz Vn).map f)
 .refine nJ (ok.cell z c hz) λa b c' u hu hv=>?_;refine⟨a,b,c',u,hu.sameBut RQ c',λj hj UU=>.other (λq=>?_) ((hv j hj UU).map f)⟩;rw[tL ok.inj hj (q▸hx),hl] at UU
  rcases UU with q | q<;>cases q
theorem zl(ok:mQ W env vars ρ φ s.heap)(inv:Inv W φ σ s.heap){x:a9}{i:Nat}{c:al}{v:V}{Q:Unit->af->Prop}(hx:vars.lookup x=some i)(hi:i < ρ.length)(rv:mm W φ s.heap v y)(hk:env.kindOf x=some .cell\/env.kindOf x=some .free)(hc:env.cells.lookup x=some c)(h:∀s',Good W (ownOf env) φ s σ φ s'->mQ W env vars (ρ.set i (some v)) φ s'.heap->(qc s.heap env.locals->qc s'.heap env.locals)->Q () s'):aM M A (fV env x y) Q E s:=by
 refine nJ (ok.cell x c hc) λca cb cc u hu hr=>?_
 have hst:fV env x y=(do cellSet (<-cellOf env x) (some y)):=by
  unfold fV
  have hb:(env.scope.kind==ScopeKind.class)=false:=by rw[ok.kind];rfl
  rcases hk with hk | hk<;>simp [hk,hb]
 rw[hst];refine ai (wpAny_cellOf hc (wpAny_cellSet hu λh' hu' RQ=>?_))
 have hex:∃o,h'.get? c=some o:=by refine l8 hu' λo' e' Z=>?_;exact⟨o',e'⟩
 have f:∀v y,mm W φ s.heap v y->mm W φ h' v y:=λv y r=>r.evo (tF RQ hex) (sE cb (ok.cellThere hc)) (.refl _ _);refine h _ (yS inv RQ hex ca cb (ok.cellThere hc) (mem_ownOf hc)) ⟨ok.kind,ok.glob,ok.bui,ok.inj,ok.apart,ok.out,?_,λz WY hz=>?_,ok.has⟩ λhf=>(tF RQ hex).frAt hf λhm=>cc (au.mp hm).symm
 .refine l8 ok.loc λm hm UB=>?_;refine⟨m,hm.sameBut RQ (bJ cc),λz j hz Vn=>.other (λq=>?_) ((UB z j hz Vn).map f)⟩;rw[tL ok.inj hz (q▸hx)] at Vn;rw[Vn] at hk
  rcases hk with q | q<;>cases q
 .by_cases hzx:z=x
  .rw[hzx] at hz ⊢;rw[am (hz.symm.trans hc)];refine⟨ca,cb,cc,some y,hu',λj hj UU=>?_⟩;rw[am (hj.symm.trans hx)];exact .same hi (f v y rv)
  .refine nJ (ok.cell z WY hz) λa b c' u' Wk hv=>?_;exact⟨a,b,c',u',Wk.sameBut RQ λq=>hzx (ok.apart z x c (q▸hz) hc),λj hj UU=>.other (λq=>hzx (tL ok.inj hj (q▸hx))) ((hv j hj UU).map f)⟩
theorem Hy(ok:mQ W env vars ρ φ s.heap)(inv:Inv W φ σ s.heap){x:a9}{i:Nat}{v:V}{Q:Unit->af->Prop}(hx:vars.lookup x=some i)(hi:i < ρ.length)(rv:mm W φ s.heap v y)(TC:loc=true->env.kindOf x=some .local)(h:∀s',Good W (uf loc env) φ s σ φ s'->mQ W env vars (ρ.set i (some v)) φ s'.heap->(qc s.heap env.locals->qc s'.heap env.locals)->Q () s'):aM (b8 prog w) A (fV env x y) Q E s:=by
 rcases ok.has x i hx with hl | ⟨hk,c,hc⟩
 .exact xU ok inv hx hi rv hl h
 .cases loc with
  |false=>exact zl ok inv hx hi rv hk hc h
  |true=>rw[TC rfl] at hk;rcases hk with q | q<;>cases q
theorem mQ.ownApart(ok:mQ W env vars ρ φ h):Apart W φ (ownOf env) h:=λb hb Z=>by
 rcases nV hb with q | ⟨n,hn⟩
 .rw[q];exact⟨ok.out.2,.inr λo e=>tx ok.there e⟩
 .exact⟨(ok.cell n b hn).2.1,.inr λo e=>tx (ok.cellThere hn) e⟩
end
structure Cx where
 env:eA
 env₀:eA
 out:List eA
 vars:List (a9×Nat)
structure n0(A:bc)(c:Cx)(q:Bool)(d:Nat):Prop where
 frames:A.frames=some (c.env₀::c.out)
 frame:c.env.frame=c.env₀.frame
 depth:A.depth+3 * d+5<=dR
 units:A.units+20 * d+210<=jW
 handled:q=false->A.handled=none
structure mB(W:Wd)(c:Cx)(ρ:mc)(φ:List al)(σ:St)(s:af):Prop where
 inv:Inv W φ σ s.heap
 ok:mQ W c.env c.vars ρ φ s.heap
 frs:rN W φ s.heap (c.env₀::c.out)
 sep:∀b∈ownOf c.env,b∉nT c.out
section
variable {W:Wd}{c:Cx}{ρ:mc}{φ Rm:List al}{σ σ':St}{s s':af}
theorem rN.evo(ev:pP X h h')(g:Grows h φ Rm){l:List eA}(H:rN W φ h l)(hX:∀b∈nT l,b∉X\/qc h' b):rN W Rm h' l:=
 H.map λL hL hn hb a=>nU a λo Z Z e Z=>⟨g.notin e hn,hb,(hX L hL).elim (λq=>ev.frAt a q) id⟩
theorem mB.good(x:mB W c ρ φ σ s)(g:Good W [] φ s σ' Rm s'):mB W c ρ Rm σ' s':=
 ⟨g.inv,x.ok.good g,x.frs.evo g.evo g.grows λb hb=>.inl (by simpa using (x.frs.mem hb).1),x.sep⟩
def mi(W:Wd)(c:Cx)(φ:List al)(s:af){α β:Type}(r:R Unit α)(rep:List al->aQ->α->β->Prop)(Q:β->af->Prop)(E:ae->af->Prop):Prop:=
 match r with
 |.ok v σ'=>∀Rm y s',Good W [] φ s σ' Rm s'->rep Rm s'.heap v y->Q y s'
 |.exc _ σ'=>∀Rm e s',Good W [] φ s σ' Rm s'->nR W s.heap c.env₀.frame e s'.heap->E (.ref e) s'
 |.bad=>False
theorem mi.step{r:R Unit α}{rep:List al->aQ->α->β->Prop}{Q:β->af->Prop}(g:Good W [] φ s σ' Rm s')(h:mi W c φ s r rep Q E):mi W c Rm s' r rep Q E:=by
 cases r with
 |ok v RY=>exact λRN y R3 g' r=>h RN y R3 (g.trans g') r
 |exc u RY=>exact λRN e R3 g' x=>h RN e R3 (g.trans g') (x.born λb hb=>g.evo.fresh hb)
 |bad=>exact h
theorem mi.bind{δ:Type}{r:R Unit α}{k:α->St->R Unit γ}{rep:List al->aQ->γ->δ->Prop}{Tl:List al->aQ->α->β->Prop}{Q:δ->af->Prop}(h:mi W c φ s (r.bind k) rep Q E)(hk:∀v σ' Rm y s',r=.ok v σ'->Good W [] φ s σ' Rm s'->Tl Rm s'.heap v y->mi W c Rm s' (k v σ') rep Q E->Q₁ y s'):mi W c φ s r Tl Q₁ E:=by
 cases r with
 |ok v σ'=>exact λRm y s' g rp=>hk v σ' Rm y s' rfl g rp (mi.step g h)
 |exc u σ'=>exact h
 |bad=>exact h
theorem mi.opt{o:Option γ}{f:γ->R Unit α}{rep:List al->aQ->α->β->Prop}{Q:β->af->Prop}(h:mi W c φ s (R.opt o f) rep Q E):∃a,o=some a/\mi W c φ s (f a) rep Q E:=by
 cases o with
 |none=>exact h.elim
 |some a=>exact⟨a,rfl,h⟩
theorem mi.gd[Decidable p]{r:R Unit α}{rep:List al->aQ->α->β->Prop}{Q:β->af->Prop}(h:mi W c φ s (gd p r) rep Q E):p/\mi W c φ s r rep Q E:=by
 unfold Mine.Internal.gd at h
 by_cases hp:p
 .rw[if_pos hp] at h;exact⟨hp,h⟩
 .rw[if_neg hp] at h;exact h.elim
theorem mi.of{o:Option α}{rep:List al->aQ->α->β->Prop}{Q:β->af->Prop}(h:mi W c φ s (R.of o σ) rep Q E):∃v,o=some v/\∀y s',Good W [] φ s σ φ s'->rep φ s'.heap v y->Q y s':=by
 cases o with
 |none=>exact h.elim
 |some v=>exact⟨v,rfl,λy s' g r=>h φ y s' g r⟩
end
structure Nm where
 S:List a9
 cn:List a9
 fnm:List (Option a9)
 cnm:List a9
structure Gl where
 P:Pg
 nm:Nm
 fnA:Nat->al
structure oS(G:Gl)(W:Wd)(mg mb:a9->Option ae):Prop where
 g:W.base.Ns cO mg
 b:W.base.Ns d9 mb
 con:∀k x,G.nm.cn[k]?=some x->∃y,mg x=some y/\mm W [] W.base (G.P.const k) y
 fns:∀f x,G.nm.fnm[f]?=some (some x)->mg x=some (.ref (G.fnA f))
 cls:∀k x,G.nm.cnm[k]?=some x->mg x=some (.ref (W.cls k))
 exc:mg "KindFault" = some (.ref W.exc)
 bui:∀x∈o5,mg x=none/\mb x=gA x
structure Ck where
 kinds:List (a9×b9)
 vars:List (a9×Nat)
noncomputable def Cx.ck(c:Cx):Ck:=⟨c.env.scope.names,c.vars⟩
noncomputable def pC:List a9:=["__debug__", "__classdict__"]
noncomputable def isVar(k:Ck)(i:Nat)(x:a9):Bool:=k.vars.lookup x==some i&&!pC.contains x
noncomputable def nv(k:Ck)(x:a9):Bool:=k.kinds.lookup x==some .globalImplicit&&!pC.contains x
theorem pv{x:a9}(h:(!pC.contains x)=true):(x==("__debug__" : a9))=false/\(x==("__classdict__" : a9))=false:=by
 simp only[pC,bS,List.contains_nil,dm,Bool.not_eq_true',i9] at h;exact h
section
variable {M:gQ}{c:Cx}{s:af}
theorem Pj{i:Nat}{x:a9}(hc:isVar c.ck i x=true)(H:mB W c ρ φ σ s)(h:mi W c φ s (R.of ((ρ[i]?).join) σ) (mm W) Q E):aM M A (eval (.Name x pos) c.env) Q E s:=by
 refine l8 h.of λv hv h=>?_;simp only[isVar,cx,beq_iff_eq] at hc;refine nt (pv hc.2) λh1 h2=>?_;exact dH (FE H.ok hc.1 hv h2 λy r=>h y s (.refl H.inv) r) h1
theorem J2{G:Gl}(gl:oS G W mg mb){x:a9}(hk:G.nm.cn[k]?=some x)(hc:nv c.ck x=true)(H:mB W c ρ φ σ s)(h:mi W c φ s (.ok (G.P.const k) σ) (mm W) Q E):aM M A (eval (.Name x pos) c.env) Q E s:=by
 simp only[nv,cx,beq_iff_eq] at hc;refine nt (pv hc.2) λh1 h2=>?_;refine l8 (gl.con k x hk) λy hy r=>?_;exact dH (pX H.ok H.inv.base gl.g hc.1 hy (h φ y s (.refl H.inv) (H.inv.const r))) h1
theorem Fu{G:Gl}(gl:oS G W mg mb){f:Nat}{x:a9}(hk:G.nm.fnm[f]?=some (some x))(hc:nv c.ck x=true)(H:mB W c ρ φ σ s)(h:Q (.ref (G.fnA f)) s):aM M A (eval (.Name x pos) c.env) Q E s:=by
 simp only[nv,cx,beq_iff_eq] at hc;refine nt (pv hc.2) λh1 h2=>?_;exact dH (pX H.ok H.inv.base gl.g hc.1 (gl.fns f x hk) h) h1
theorem CM{G:Gl}(gl:oS G W mg mb){x:a9}(hk:G.nm.cnm[k]?=some x)(hc:nv c.ck x=true)(H:mB W c ρ φ σ s)(h:Q (.ref (W.cls k)) s):aM M A (eval (.Name x pos) c.env) Q E s:=by
 simp only[nv,cx,beq_iff_eq] at hc;refine nt (pv hc.2) λh1 h2=>?_;exact dH (pX H.ok H.inv.base gl.g hc.1 (gl.cls k x hk) h) h1
theorem wJ{G:Gl}(gl:oS G W mg mb)(hc:nv c.ck "KindFault" = true)(H:mB W c ρ φ σ s)(h:Q (.ref W.exc) s):aM M A (eval (.Name "KindFault" pos) c.env) Q E s:=by
 simp only[nv,cx,beq_iff_eq] at hc;refine nt (pv hc.2) λh1 h2=>?_;exact dH (pX H.ok H.inv.base gl.g hc.1 gl.exc h) h1
theorem ul{G:Gl}(gl:oS G W mg mb){x:a9}(hk:x∈o5)(hb:gA x=some y)(hc:nv c.ck x=true)(H:mB W c ρ φ σ s)(h:Q y s):aM M A (eval (.Name x pos) c.env) Q E s:=by
 simp only[nv,cx,beq_iff_eq] at hc;refine nt (pv hc.2) λh1 h2=>?_;refine nt (gl.bui x hk) λb1 b2=>?_;exact dH (v3 H.ok H.inv.base gl.g gl.b hc.1 b1 (b2.trans hb) h) h1
end
variable {G:Gl}
mutual
noncomputable def sx(S:List a9):V->PyData
 |.none=>.none
 |.bool b=>.bool b
 |.int i=>.int i
 |.sym k=>.str ((S[k]?).getD ⟨#[]⟩)
 |.tup l=>.tuple (pT S l)
 |.lst l=>.list (pT S l)
 |_=>.none
noncomputable def pT(S:List a9):List V->List PyData
 |[]=>[]
 |v::l=>sx S v::pT S l
end
section
mutual
theorem xJ:∀{n:Nat} {v:V} {y:ae},mm W φ h v y->oA n v=true->∃as,lG h y (sx W.S v) as
 |_,.none,_,r,_=>⟨[],r▸.none⟩
 |_,.bool b,_,r,_=>⟨[],r▸.bool b⟩
 |_,.int i,_,r,_=>by refine mF r λt RA=>?_;subst RA;exact⟨[],.int i t⟩
 |_,.sym k,_,r,_=>by
  refine mJ r λs t e RI=>?_;subst RI;refine⟨[],?_⟩;show lG h _ (.str ((W.S[k]?).getD ⟨#[]⟩)) [];rw[e];exact .str s t
 |0,.tup l,_,r,q=>ma q
 |n+1,.tup l,_,r,q=>by
  obtain ⟨a,xs,m,rfl,_,_,e,r⟩:=r;refine mF (tJ (n:=n) r q) λas ra=>?_;exact⟨as,.tuple e rfl rfl ra⟩
 |0,.lst l,_,r,q=>ma q
 |n+1,.lst l,_,r,q=>by
  obtain ⟨a,xs,m,rfl,_,_,e,r⟩:=r;refine mF (tJ (n:=n) r q) λas ra=>?_;exact⟨a::as,.list e rfl rfl ra⟩
 |_,.itxt _,_,_,q=>ma q
 |_,.txt _,_,_,q=>ma q
 |_,.dct _,_,_,q=>ma q
 |_,.obj _,_,_,q=>ma q
theorem tJ:∀{n:Nat} {l:List V} {ys:List ae},my W φ h l ys->m9 n l=true->∃as,ReadsAll h ys (pT W.S l) as
 |_,[],_,r,_=>⟨[],(show _=_ from r)▸.nil⟩
 |n,v::l,_,r,q=>by
  refine mI r λy ys Rz rv rl=>?_;subst Rz;refine mF (xJ rv (b2 q).1) λas a=>?_;refine mF (tJ rl (b2 q).2) λbs b=>?_;exact⟨as++bs,.cons a b⟩
end
end
theorem CH(hS:∀s∈S,d7 s=true)(k:Nat):d7 ((S[k]?).getD ⟨#[]⟩)=true:=by
 cases e:S[k]? with
 |none=>simp [d7]
 |some s=>exact hS s (bq e)
mutual
theorem Bj{S:List a9}(hS:∀s∈S,d7 s=true):∀{n:Nat} {v:V},oA n v=true->(sx S v).canLay0=true/\(sx S v).depth<=n
 |n,.none,_=>⟨rfl,ce n⟩
 |n,.bool b,_=>⟨rfl,ce n⟩
 |n,.int i,_=>⟨rfl,ce n⟩
 |n,.sym k,_=>⟨CH hS k,ce n⟩
 |0,.tup l,q=>ma q
 |n+1,.tup l,q=>let this:=Bi hS (n:=n) (l:=l) q;⟨this.1,bL this.2⟩
 |0,.lst l,q=>ma q
 |n+1,.lst l,q=>let this:=Bi hS (n:=n) (l:=l) q;⟨this.1,bL this.2⟩
 |_,.itxt _,q=>ma q
 |_,.txt _,q=>ma q
 |_,.dct _,q=>ma q
 |_,.obj _,q=>ma q
theorem Bi{S:List a9}(hS:∀s∈S,d7 s=true):∀{n:Nat} {l:List V},m9 n l=true->PyData.canLayAll0 (pT S l)=true/\iV (pT S l)<=n
 |n,[],_=>⟨rfl,ce n⟩
 |n,v::l,q=>
  let a:=Bj hS (b2 q).1
  let b:=Bi hS (b2 q).2
  ⟨b5.mpr ⟨a.1,b.1⟩,Nat.max_le.mpr ⟨a.2,b.2⟩⟩
end
mutual
noncomputable def known(n:Nat):V->Bool
 |.sym k=>decide (k < n)
 |.tup l=>knowns n l
 |.lst l=>knowns n l
 |_=>true
noncomputable def knowns(n:Nat):List V->Bool
 |[]=>true
 |v::l=>known n v&&knowns n l
end
theorem Gj(hS:S.Nodup){i:Nat}(k:decide (i < S.length)=true)(k':decide (j < S.length)=true):fS (sx S (.sym i)) (sx S (.sym j))=sG (.sym i) (.sym j):=by
 have e:=aX (of_decide_eq_true k);have e':=aX (of_decide_eq_true k');show ((S[i]?).getD ⟨#[]⟩==(S[j]?).getD ⟨#[]⟩)=(i==j);rw[e,e',kC,beq_iff_eq,beq_iff_eq];exact⟨λq=>(fC (of_decide_eq_true k) hS).mp (e.trans ((congrArg some q).trans e'.symm)),λq=>am (e.symm.trans ((congrArg (λn=>S[n]?) q).trans e'))⟩
mutual
theorem DJ{S:List a9}(hS:S.Nodup):∀{a b:V},known S.length a=true->known S.length b=true->∀{n m:Nat},oA n a=true->oA m b=true->fS (sx S a) (sx S b)=sG a b
 |.none,b,_,_,_,_,_,q=>by cases b<;>first | rfl | exact ma q
 |.bool x,b,_,_,_,_,_,q=>by cases b<;>first | rfl | exact ma q
 |.int x,b,_,_,_,_,_,q=>by cases b<;>first | rfl | exact ma q
 |.sym i,b,k,k',_,_,_,q=>by
  cases b with
  |sym j=>exact Gj hS k k'
  |_=>first | rfl | exact ma q
 |.tup l,b,k,k',n,m,q,q'=>by
  cases b with
  |tup l'=>cases n with
   |zero=>exact ma q
   |succ n=>cases m with
    |zero=>exact ma q'
    |succ m=>exact DH hS (a:=l) (b:=l') k k' (n:=n) (m:=m) q q'
  |_=>first | rfl | exact ma q'
 |.lst l,b,k,k',n,m,q,q'=>by
  cases b with
  |lst l'=>cases n with
   |zero=>exact ma q
   |succ n=>cases m with
    |zero=>exact ma q'
    |succ m=>exact DH hS (a:=l) (b:=l') k k' (n:=n) (m:=m) q q'
  |_=>first | rfl | exact ma q'
 |.itxt _,_,_,_,_,_,q,_=>ma q
 |.txt _,_,_,_,_,_,q,_=>ma q
 |.dct _,_,_,_,_,_,q,_=>ma q
 |.obj _,_,_,_,_,_,q,_=>ma q
theorem DH{S:List a9}(hS:S.Nodup):∀{a b:List V},knowns S.length a=true->knowns S.length b=true->∀{n m:Nat},m9 n a=true->m9 m b=true->lB (pT S a) (pT S b)=vP a b
 |[],b,_,_,_,_,_,_=>by cases b<;>rfl
 |a::l,b,k,k',n,m,q,q'=>by
  cases b with
  |nil=>rfl
  |cons b l'=>
   show (fS (sx S a) (sx S b)&&lB (pT S l) (pT S l'))=(sG a b&&vP l l');rw[DJ hS (b2 k).1 (b2 k').1 (b2 q).1 (b2 q').1,DH hS (b2 k).2 (b2 k').2 (b2 q).2 (b2 q').2]
end
section
mutual
theorem mm.known:∀{v:V} {y:ae},mm W φ h v y->known W.S.length v=true
 |.sym k,_,r=>by refine mJ r λs t e Z=>?_;exact decide_eq_true (nB e)
 |.tup l,_,r=>by refine mR r λa xs m Z Z Z e r=>?_;exact my.knowns r
 |.lst l,_,r=>by refine mR r λa xs m Z Z Z e r=>?_;exact my.knowns r
 |.none,_,_=>rfl
 |.bool _,_,_=>rfl
 |.int _,_,_=>rfl
 |.itxt _,_,_=>rfl
 |.txt _,_,_=>rfl
 |.dct _,_,_=>rfl
 |.obj _,_,_=>rfl
theorem my.knowns:∀{l:List V} {ys:List ae},my W φ h l ys->knowns W.S.length l=true
 |[],_,_=>rfl
 |v::l,_,r=>by
  refine mI r λy ys Z rv rl=>?_;exact b5.mpr ⟨mm.known rv,my.knowns rl⟩
end
theorem yK(i:Inv W φ σ h){v:V}(r:mm W φ h v y)(n:Nat)(q:oA n (vt σ v)=true):(∃as,lG h y (sx W.S (vt σ v)) as)/\Mine.Internal.known W.S.length (vt σ v)=true:=by
 unfold vt at q ⊢
 cases e:rm σ v with
 |none=>rw[e] at q;exact⟨xJ r q,r.known⟩
 |some l=>
  rw[e] at q;refine l8 (bs e) λk e1 e2=>?_;rw[oK e1] at r;refine l8 r λa ha h1=>?_;refine mI (i.rep k _ a (listAt_eq e2) ha) λxs m hz e' rl=>?_;rw[h1]
  cases n with
  |zero=>exact ma q
  |succ n=>
   refine mF (tJ (n:=n) rl q) λas ra=>?_;exact⟨⟨a::as,.list e' rfl rfl ra⟩,rl.knowns⟩
theorem CB{s:af}(i:Inv W φ σ s.heap){c:V}(r:mm W φ s.heap c y)(e:rI σ c=some l)(q:m9 n l=true):
  (∃as,lG s.heap y (.tuple (pT W.S l)) as\/lG s.heap y (.list (pT W.S l)) as)/\knowns W.S.length l=true:=by
 refine mN (su i r e) λa xs m RI hz rl ho=>?_;subst RI;refine mF (tJ rl q) λas ra=>?_;refine⟨?_,rl.knowns⟩
 rcases ho with ho | ho
 .exact⟨as,.inl (.tuple ho rfl rfl ra)⟩
 .exact⟨a::as,.inr (.list ho rfl rfl ra)⟩
end
section
variable {s:af}{P:Pg}
theorem wx{d:PyData}(h1:d.canLay0=true)(h2:d.depth<=40):SeqAt.shaped d=true:=by
 unfold SeqAt.shaped;rw[h1,decide_eq_true (ac h2 (by decide))];rfl
theorem wH(ok:nO W P)(i:Inv W φ σ s.heap){a b:V}{x:ae}(ra:mm W φ s.heap a x)(rb:mm W φ s.heap b y){r:Bool}(e:EV σ a b=some r):
  ∃d d' as bs,lG s.heap x d as/\lG s.heap y d' bs/\SeqAt.shaped d=true/\SeqAt.shaped d'=true/\fS d d'=r:=by
 refine nt (nW e) λhs RA=>?_;subst RA;refine nt (yK i ra 40 (b2 hs).1) λR6 k1=>?_;obtain ⟨as,r1⟩:=R6;refine nt (yK i rb 40 (b2 hs).2) λR6 k2=>?_;obtain ⟨bs,r2⟩:=R6;have l1:=Bj ok.strOk (b2 hs).1;have l2:=Bj ok.strOk (b2 hs).2;exact⟨_,_,as,bs,r1,r2,wx l1.1 l1.2,wx l2.1 l2.2,DJ ok.nodup k1 k2 (b2 hs).1 (b2 hs).2⟩
theorem w_eq(ok:nO W P)(i:Inv W φ σ s.heap)(hu:A.units+64 < jW){a b:V}{x:ae}(ra:mm W φ s.heap a x)(rb:mm W φ s.heap b y){r:Bool}(e:EV σ a b=some r)(h:Q (.bool r) s):aM W.M A (fU .Eq x y) Q E s:=by
 refine ux (wH ok i ra rb e) λd d' as bs r1 r2 s1 s2 VW=>?_;subst VW;exact eq_dataH r1 r2 s1 s2 hu h
theorem QR(ok:nO W P)(i:Inv W φ σ s.heap)(hu:A.units+64 < jW){a b:V}{x:ae}(ra:mm W φ s.heap a x)(rb:mm W φ s.heap b y){r:Bool}(e:EV σ a b=some r)(h:Q (.bool !r) s):aM W.M A (fU .NotEq x y) Q E s:=by
 refine ux (wH ok i ra rb e) λd d' as bs r1 r2 s1 s2 VW=>?_;subst VW;exact ne_dataH r1 r2 s1 s2 hu h
end
noncomputable def CY.py:CY->CmpOp
 |.eq=>.Eq | .ne=>.NotEq | .lt=>.Lt | .gt=>.Gt | .isin=>.In | .notin=>.NotIn | .is=>.Is | .isnt=>.IsNot
noncomputable def HD.py:HD->jU
 |.add=>.Add | .sub=>.Sub | .mul=>.Mult | .mod=>.Mod
section
variable {s:af}{P:Pg}
theorem F5(hS:W.S.Nodup){a:V}(ka:known W.S.length a=true)(qa:oA 40 a=true):knowns W.S.length l=true->m9 40 l=true->((pT W.S l).any λy=>fS y (sx W.S a))=l.any λy=>sG y a:=by
 induction l with
 |nil=>intro _ _;rfl
 |cons v l ih=>
  intro k q;show (fS (sx W.S v) (sx W.S a)||(pT W.S l).any λy=>fS y (sx W.S a))=(sG v a||l.any λy=>sG y a);rw[DJ hS (b2 k).1 ka (b2 q).1 qa,ih (b2 k).2 (b2 q).2]
theorem Hu(ok:nO W P)(i:Inv W φ σ s.heap)(hu:A.units+64 < jW){a b:V}{x:ae}(ra:mm W φ s.heap a x)(rb:mm W φ s.heap b y){r:Bool}(e:DV σ a b=some r)(h:Q (.bool r) s):aM W.M A (fU .In x y) Q E s:=by
 refine l8 (bs e) λl hs e=>?_;refine nt (nW e) λhq e=>?_;refine nt (CB i rb hs (b2 hq).2) λR6 ks=>?_;obtain ⟨as,rs⟩:=R6;refine mF (xJ ra (b2 hq).1) λbs rx=>?_;have l1:=Bi ok.strOk (b2 hq).2;have l2:=Bj ok.strOk (b2 hq).1;have hany:=(F5 ok.nodup ra.known (b2 hq).1 ks (b2 hq).2).trans e;have hm:min (iV (pT W.S l)) (sx W.S a).depth<=40:=ac (Nat.min_le_left _ _) l1.2;have hu':A.units+1+min (iV (pT W.S l)) (sx W.S a).depth < jW:=aB (aC hm _) (aB (aC (by decide:1+40<=64) A.units) hu)
 rcases rs with rs | rs
 .exact SeqAt.in_tuple_reads rs rx l1.1 l2.1 hu' (by rw[hany];exact h)
 .exact SeqAt.in_list_reads rs rx l1.1 l2.1 hu' (by rw[hany];exact h)
theorem Ht(ok:nO W P)(i:Inv W φ σ s.heap){a b:V}{x:ae}(ra:mm W φ s.heap a x)(rb:mm W φ s.heap b y){r:Bool}(e:DT σ a b=some r)(h:∀t,Q (.bool r) {s with toks:=t}):aM W.M A (fU .In x y) Q E s:=by
 refine l8 (bs e) λl hd e=>?_;refine l8 (ms e) λk ek Rz=>?_;subst Rz;rw[qm ek] at ra;refine pH (qM ok.sys i rb hd) λad kvs Rz rd Te hsys=>?_;subst Rz;refine mJ ra λnm t hS RI=>?_;subst RI;exact wpAny_in_of (knd:=bw W.prog W.w) (k:=nm) (gW _ _ nm t) hsys Te.mapOf (by rw[<-rd.any ok.nodup hS];exact h _)
theorem Pm(ok:nO W P)(i:Inv W φ σ s.heap)(hu:A.units+64 < jW){a b:V}{x:ae}(ra:mm W φ s.heap a x)(rb:mm W φ s.heap b y){r:Bool}(e:uJ σ a b=some r)(h:∀t,Q (.bool r) {s with toks:=t}):aM W.M A (fU .In x y) Q E s:=
 (mZ e).elim (λe=>Ht ok i ra rb e h) λe=>Hu ok i hu ra rb e (h s.toks)
theorem Hv(ok:nO W P)(i:Inv W φ σ s.heap)(hu:A.units+64 < jW){a b:V}{x:ae}(ra:mm W φ s.heap a x)(rb:mm W φ s.heap b y){r:Bool}(e:uJ σ a b=some r)(h:∀t,Q (.bool !r) {s with toks:=t}):aM W.M A (fU .NotIn x y) Q E s:=by
 have key:=Pm (A:=A) (E:=E) (Q:=λv s'=>match v with | .bool b=>Q (.bool !b) s' | _=>False) ok i hu ra rb e h;have e1:fU .In x y=(do return .bool (<-contains y x)):=rfl;show aM W.M A (do return .bool (!(<-contains y x))) Q E s;rw[e1] at key;intro Γ p XG;have k:=key Γ p XG;simp only[jV.wp_bind',jV.wp_pure'] at k ⊢;exact k
theorem mm.noneOr{v:V}{x:ae}:mm W φ s.heap v x->plainIs x .none=true/\(x==.none)=(sP v).isSome:=by
 cases v with
 |none=>intro r;cases r;exact⟨rfl,rfl⟩
 |bool b=>intro r;cases r;exact⟨rfl,rfl⟩
 |int _=>intro r;refine mF r λt RA=>?_;subst RA;exact⟨rfl,rfl⟩
 |sym _=>intro r;refine mJ r λZ t Z RI=>?_;subst RI;exact⟨rfl,rfl⟩
 |itxt _=>intro r;refine mF r λt RA=>?_;subst RA;exact⟨rfl,rfl⟩
 |txt _=>intro r;refine mJ r λZ t Z RI=>?_;subst RI;exact⟨rfl,rfl⟩
 |tup _=>intro r;refine nU r λZ Z Z RI Z=>?_;subst RI;exact⟨rfl,rfl⟩
 |lst _=>intro r;refine nU r λZ Z Z RI Z=>?_;subst RI;exact⟨rfl,rfl⟩
 |dct _=>intro r;refine mJ r λZ Z Rz Z=>?_;subst Rz;exact⟨rfl,rfl⟩
 |obj _=>intro r;refine l8 r λZ Z Rz=>?_;subst Rz;exact⟨rfl,rfl⟩
theorem yY:∀a b:Bool,plainIs (.bool a) (.bool b)=true/\((iL a)==(iL b))=(a==b)
 |true,true=>⟨rfl,rfl⟩
 |true,false=>⟨rfl,rfl⟩
 |false,true=>⟨rfl,rfl⟩
 |false,false=>⟨rfl,rfl⟩
theorem w_is{a b:V}{x:ae}(ra:mm W φ s.heap a x)(rb:mm W φ s.heap b y){r:Bool}(e:JM a b=some r):plainIs x y=true/\(x==y)=r:=by
 rcases mZ e with e | e
 .refine l8 (ms e) λu eb Rz=>?_;subst Rz;rw[ua eb] at rb;rw[show y=.none from rb];exact ra.noneOr
 .refine l8 (bs e) λp ea e=>?_;refine l8 (ms e) λq eb Rz=>?_;subst Rz;rw[pL ea] at ra;rw[pL eb] at rb;rw[show x=.bool p from ra,show y=.bool q from rb];exact yY p q
theorem zb{f:Int->Int->Bool}{a b:V}{x:ae}{r:Bool}(ra:mm W φ s.heap a x)(rb:mm W φ s.heap b y)(e:((nu a).bind λa=>(nu b).map λb=>f a b)=some r):
  ∃i j t u,x=.int i t/\y=.int j u/\f i j=r:=by
 refine l8 (bs e) λp ea e=>?_;refine l8 (ms e) λq eb e=>?_;rw[m6 ea] at ra;rw[m6 eb] at rb;refine mF ra λt h1=>?_;refine mF rb λu h2=>?_;exact⟨p,q,t,u,h1,h2,e⟩
theorem FA(ok:nO W P)(i:Inv W φ σ s.heap)(hu:A.units+64 < jW){a b:V}{x:ae}(ra:mm W φ s.heap a x)(rb:mm W φ s.heap b y){r:Bool}(e:pS σ op a b=some r)(h:∀t,Q (.bool r) {s with toks:=t}):aM W.M A (fU op.py x y) Q E s:=by
 cases op with
 |eq=>exact w_eq ok i hu ra rb e (h s.toks)
 |ne=>
  refine l8 (ms e) λr' e' Rz=>?_;subst Rz;exact QR ok i hu ra rb e' (h s.toks)
 |lt=>
  refine uc (zb ra rb e) λp q t u Ti VY VX=>?_;subst Ti;subst VY;subst VX;exact lt_int (h s.toks)
 |gt=>
  refine uc (zb ra rb e) λp q t u Ti VY VX=>?_;subst Ti;subst VY;subst VX;exact gt_int (h s.toks)
 |isin=>exact Pm ok i hu ra rb e h
 |notin=>
  refine l8 (ms e) λr' e' Rz=>?_;subst Rz;exact Hv ok i hu ra rb e' h
 |is=>
  have w:=w_is (s:=s) ra rb e;exact wpAny_is_plain w.1 (by rw[w.2];exact h s.toks)
 |isnt=>
  refine l8 (ms e) λr' e' Rz=>?_;subst Rz;have w:=w_is (s:=s) ra rb e';exact wpAny_isNot_plain w.1 (by rw[w.2];exact h s.toks)
end
section
variable {s:af}{P:Pg}
theorem Fe{a b:List V}(r1:my W φ h a xs)(r2:my W φ h b ys)(hl:(a++b).length<=me):xs.toArray.size+ys.toArray.size<=bM:=by
 rw[bF,bF,r1.length,r2.length,<-ah];exact mY hl
theorem Fy(i:Inv W φ σ s.heap){a b v:V}{x:ae}(ra:mm W φ s.heap a x)(rb:mm W φ s.heap b y)(e:Df σ a b=some v)(h:∀z s',Good W [] φ s σ φ s'->mm W φ s'.heap v z->Q z s'):aM W.M A (iC .Add x y) Q E s:=by
 refine l8 (bs e) λl ea e=>?_;refine l8 (bs e) λr eb e=>?_;refine nt (nW e) λhl RA=>?_;subst RA;refine mN (qP i ra ea) λp xs n RI hx r1 hp=>?_;subst RI;refine mN (qP i rb eb) λq ys m RI hy r2 hq=>?_;subst RI;have hz:=Fe r1 r2 hl;have g:=Good.push (own:=[]) i (pp (xs++ys) 0);refine concat_meets ⟨_,hp,rfl⟩ ⟨_,hq,rfl⟩ noFill_list_add seq_list_add F.slot_list_add F.entry_list_add (F.args_list_add_2 _ _) (AutoSeq1.list___add___list_list_0 p _ n q _ m hz) ⟨hp,hq,?_⟩;rw[ju];exact h _ _ g ⟨_,xs++ys,0,rfl,i.size_notin,by rw[ah];exact hz,aU _ rfl,g.repL (r1.append r2)⟩
theorem Fi(ok:nO W P){v:V}{x:ae}(r:mm W φ s.heap v x)(e:Pf P v=some n):∃t k,x=.str t k/\t.length<=n:=by
 rcases mZ e with e | e
 .refine l8 (ms e) λk ek Rz=>?_;subst Rz;rw[qm ek] at r;refine mJ r λt k' hS h=>?_;exact⟨t,k',h,ok.slen k t hS⟩
 .rw[Fm e] at r;refine mJ r λt k' hS h=>?_;exact⟨t,k',h,hS⟩
theorem Fv(ok:nO W P)(i:Inv W φ σ s.heap){a b v:V}{x:ae}(ra:mm W φ s.heap a x)(rb:mm W φ s.heap b y)(e:Db P a b=some v)(h:∀z s',Good W [] φ s σ φ s'->mm W φ s'.heap v z->Q z s'):aM W.M A (iC .Add x y) Q E s:=by
 refine l8 (bs e) λa ea e=>?_;refine l8 (bs e) λj eb e=>?_;refine l8 (ms e) λc e' Rz=>?_;subst Rz;rw[qm ea] at ra;rw[B6 eb] at rb;refine mJ ra λt k hS RI=>?_;subst RI;refine mF rb λk' RA=>?_;subst RA;have hc:=ok.cat a j c t e' hS;exact SB.add (λt' k=>h _ _ (Good.tok i) ⟨_,_,hc,rfl⟩) ((ig ..)▸ac (ok.slen c _ hc) (ok.slenLe c))
theorem Pl(ok:nO W P)(i:Inv W φ σ s.heap){op:HD}{a b v:V}{x:ae}(ra:mm W φ s.heap a x)(rb:mm W φ s.heap b y)(e:tG P σ op a b=some v)(h:∀z s',Good W [] φ s σ φ s'->mm W φ s'.heap v z->Q z s'):aM W.M A (iC op.py x y) Q E s:=by
 cases op with
 |add=>
  rcases mZ e with e | e
  .exact Fw i ra rb e h
  rcases mZ e with e | e
  .exact Fv ok i ra rb e h
  .exact Fy i ra rb e h
 |sub=>exact FK i ra rb e h
 |mul=>exact FH i ra rb e h
 |mod=>exact FG i ra rb e h
end
noncomputable def oz(S:List a9)(ks:List Nat):List a9:=ks.map λk=>(S[k]?).getD ⟨#[]⟩
theorem yv(k:Nat)(l:List Nat):(FR k l).Perm (k::l):=by
 induction l with
 |nil=>exact .refl _
 |cons a l ih=>
  by_cases hk:k<=a
  .rw[show FR k (a::l)=k::a::l from if_pos hk]
  .rw[show FR k (a::l)=a::FR k l from if_neg hk];exact (ih.cons a).trans (.swap _ _ _)
theorem pf:∀l:List Nat,(rG l).Perm l
 |[]=>.refl _
 |a::l=>(yv a _).trans ((pf l).cons a)
theorem zO(k:Nat){l:List Nat}:l.Pairwise (·<=·)->(FR k l).Pairwise (·<=·):=by
 induction l with
 |nil=>exact λZ=>iA _ _
 |cons a l ih=>
  intro h;have h':=dY.mp h
  by_cases hk:k<=a
  .rw[show FR k (a::l)=k::a::l from if_pos hk];exact dY.mpr ⟨λb hb=>(bd.mp hb).elim (λe=>e▸hk) λhb=>ac hk (h'.1 b hb),h⟩
  .rw[show FR k (a::l)=a::FR k l from if_neg hk];exact dY.mpr ⟨λb hb=>(bd.mp ((yv k l).mem_iff.mp hb)).elim (λe=>e▸Nat.le_of_not_le hk) (h'.1 b),ih h'.2⟩
theorem pW:∀l:List Nat,(rG l).Pairwise (·<=·)
 |[]=>.nil
 |a::l=>zO a (pW l)
theorem w6(l:List Nat):(rG l).length=l.length:=(pf l).length_eq
theorem Cw(hS:S.Pairwise λa b=>fT a.cps.toList b.cps.toList=true):∀{p:Nat},p < S.length->(∀k∈ks,k < S.length)->risingS ((S[p]?).getD ⟨#[]⟩) (oz S ks)=true->(p::ks).Pairwise (·<=·):=by
 induction ks with
 |nil=>exact λZ Z Z=>iA _ _
 |cons k ks ih=>
  intro p hp hk h;have WC:=hk k ax;have h:=b2 (show (!fT ((S[k]?).getD ⟨#[]⟩).cps.toList ((S[p]?).getD ⟨#[]⟩).cps.toList&&risingS ((S[k]?).getD ⟨#[]⟩) (oz S ks))=true from h)
  have Xc:p<=k:=by
   refine j8 λq=>?_;have e:=List.pairwise_iff_getElem.mp hS k p WC hp q;have h1:=h.1;rw[aX WC,aX hp,iB,iB,e] at h1;exact ma h1
  have ih:=ih WC (λj hj=>hk j (aE _ hj)) h.2;exact dY.mpr ⟨λb hb=>(bd.mp hb).elim (λe=>e▸Xc) λhb=>ac Xc ((dY.mp ih).1 b hb),ih⟩
theorem xG{f:α->β}{n m:List β}(h:n.Perm m):∀l:List α,n=l.map f->∃l':List α,l'.Perm l/\m=l'.map f:=by
 induction h with
 |nil=>exact λl e=>⟨l,.refl _,e⟩
 |cons x _ ih=>
  intro l e
  cases l with
  |nil=>cases e
  |cons a l=>
   refine l8 (ih l (List.tail_eq_of_cons_eq e)) λl' h1 h2=>?_;exact⟨a::l',h1.cons a,by rw[h2,List.head_eq_of_cons_eq e];rfl⟩
 |swap x y r=>
  intro l e
  cases l with
  |nil=>cases e
  |cons a l=>cases l with
   |nil=>cases e
   |cons b l=>exact⟨b::a::l,.swap _ _ _,by cases e;rfl⟩
 |trans _ _ ih1 ih2=>
  intro l e;refine l8 (ih1 l e) λl' h1 h2=>?_;refine l8 (ih2 l' h2) λXE h3 h4=>?_;exact⟨XE,h3.trans h1,h4⟩
theorem w7(hS:S.Pairwise λa b=>fT a.cps.toList b.cps.toList=true)(hk:∀k∈ks,k < S.length){ss:List a9}(hp:ss.Perm (oz S ks))(hs:sortedS ss=true):ss=oz S (rG ks):=by
 refine l8 (xG hp.symm ks rfl) λSD h1 Rz=>?_;subst Rz;have hk':∀k∈SD,k < S.length:=λk h=>hk k (h1.mem_iff.mp h)
 have hle:SD.Pairwise (·<=·):=by
  cases SD with
  |nil=>exact .nil
  |cons p r=>exact Cw hS (hk' p ax) (λk h=>hk' k (aE _ h)) hs
 have:SD=rG ks:=iq (λa b Z Z h1 h2=>iT h1 h2) hle (pW ks) (h1.trans (pf ks).symm);rw[this];rfl
section
variable {W:Wd}{A:bc}{E:ae->af->Prop}{s:af}{φ:List al}{σ:St}{Q:ae->af->Prop}{P:Pg}
theorem sw{s:a9}(h:S[k]?=some s)(ks:List Nat):oz S (k::ks)=s::oz S ks:=by
 show ((S[k]?).getD ⟨#[]⟩)::oz S ks=_;rw[h];rfl
theorem Fg:∀{xs:List ae} {ks:List Nat},my W φ h l xs->Az l=some ks->iK xs (oz W.S ks)/\∀k∈ks,k < W.S.length:=by
 induction l with
 |nil=>
  intro xs ks r e;rw[show xs=[] from r,<-am e];exact⟨.nil,λZ h=>nomatch h⟩
 |cons v l ih=>
  intro xs ks r e;refine l8 (bs e) λk e1 e=>?_;refine l8 (ms e) λSD e2 e=>?_;refine mI r λy ys h1 rv rl=>?_;rw[qm e1] at rv;refine mJ rv λs t hs h2=>?_;have ih:=ih rl e2;rw[h1,h2,<-e,sw hs];exact⟨.cons s t ih.1,λj hj=>(bd.mp hj).elim (λq=>q▸nB hs) (ih.2 j)⟩
theorem Cv:∀{xs:List ae},(∀k∈ks,k < W.S.length)->iK xs (oz W.S ks)->my W φ h (ks.map .sym) xs:=by
 induction ks with
 |nil=>intro xs _ r;cases r;rfl
 |cons k ks ih=>
  intro xs hk r;have e:=aX (hk k ax);rw[sw e] at r
  cases r with
  |cons y t r=>exact⟨_,_,rfl,⟨_,t,e,rfl⟩,ih (λj hj=>hk j (aE _ hj)) r⟩
def AW(W:Wd)(φ:List al)(s:af)(σ:St)(m:Bool)(l:List V)(Rm:List al)(y:ae)(s':af):Prop:=match m with
 |true=>Good W [] φ s (σ++[.list l]) Rm s'/\mm W Rm s'.heap (.obj σ.length) y
 |false=>Good W [] φ s σ Rm s'/\mm W Rm s'.heap (.lst l) y
theorem Good.newL(i:Inv W φ σ s.heap)(m:Bool){a:al}{t:Nat}(ha:s.heap.get? a=none)(k:∀b o,s.heap.get? b=some o->h'.get? b=some o)(e:h'.get? a=some (pp xs n))(hz:xs.length<=bM)(r:my W φ s.heap l xs):∃Rm,AW W φ s σ m l Rm (.ref a) {s with heap:=h',toks:=t}:=by
 cases m with
 |true=>exact⟨φ++[a],Good.allocAt i _ ha k ⟨xs,n,hz,e,r.evo (X:=[]) (.of_keeps k) (Apart.nil _ _ _) (.one _ _ ha)⟩,⟨_,i.last a,rfl⟩⟩
 |false=>exact⟨φ,Good.keeps i k,⟨_,xs,n,rfl,i.notin ha,hz,e,r.evo (X:=[]) (.of_keeps k) (Apart.nil _ _ _) (.refl _ _)⟩⟩
theorem sB(k:∀b o,h.get? b=some o->h'.get? b=some o){a:al}(ha:h'.get? a=none):h.get? a=none:=by
 cases q:h.get? a with
 |none=>rfl
 |some o=>exact mr (ha.symm.trans (k _ _ q))
theorem Kc(ok:nO W P)(hD:s.heap.get? D=some (pp xs n))(hs:iK xs (oz W.S ks))(hk:∀k∈ks,k < W.S.length)(hl:ks.length<=16)(h:∀h' ys m,(∀b o,b≠D->s.heap.get? b=some o->h'.get? b=some o)->h'.get? D=some (pp ys m)->iK ys (oz W.S (rG ks))->Q .none {s with heap:=h'}):
  aM W.M A (call (.builtin "list.sort") [.ref D]) Q E s:=by
 refine c7 slot_list_sort ⟨_,hD,rfl⟩ entry_list_sort ?_ (args_list_sort _);refine list_sort_treeK strKind_oneLt hD hs.keysOf (λUu TT rest e=>keyKind_strs (by rw[<-e];exact hs)) (by rw[hs.length,oz,ay];exact aB hl (by decide)) λU0 hp hst=>⟨_,rfl,?_⟩;refine mM (sorted_out_str hs hp hst) λYK a1 a2 a3=>?_;have e:=w7 ok.order hk a2 a3;subst e;refine mF (sortedHeap_at (h:=s.heap) (a:=D) (vs:=xs) (n:=n) (out:=(arrOf U0).map (·.2)) hD) λm hm=>?_;refine h _ ((arrOf U0).map (·.2)).toList m (λb o hb e=>?_) (by rw[hm]) a1;rw[sortedHeap_old hb (ch e)];exact e
theorem vL(hs:iK xs (oz S ks))(hl:ks.length<=16):xs.length<=bM:=by
 rw[hs.length,oz,ay,dq];exact ac hl (by decide)
theorem D2{SD:List Nat}(h:SD.Perm ks):rG SD=rG ks:=iq (λa b Z Z h1 h2=>iT h1 h2) (pW SD) (pW ks) ((pf SD).trans (h.trans (pf ks).symm))
theorem AM(ok:nO W P)(i:Inv W φ σ s.heap){x:ae}(m:Bool)(hk:∀k∈ks,k < W.S.length)(hl:ks.length<=16)(hc:∀R:List ae->af->Prop,(∀h' dr tk xs SD,(∀b o,s.heap.get? b=some o->h'.get? b=some o)->SD.Perm ks->iK xs (oz W.S SD)->R xs {s with heap:=h',drawn:=dr,toks:=tk})->aM W.M A.in1 (collect x) R E s)(h:∀Rm y s',AW W φ s σ m ((rG ks).map .sym) Rm y s'->Q y s'):
  aM W.M A (call (.builtin "sorted") [x]) Q E s:=by
 refine call_function_entry kind_sorted plain_sorted entry_sorted (args_sorted1 _) ?_;unfold fY.«sorted»;refine ai (m:=checkCount "sorted" 1 1 _) (aO (ai (hc _ λh' dr tk xs SD hk' hp hs=>ai ?_)));have hl':SD.length<=16:=hp.length_eq▸hl;have hi:=D2 hp;refine wpAny_newList ?_ (vL hs hl');have hD:(h'.push (pp xs 0)).get? h'.objs.size=some (pp xs 0):=aU _ rfl;have hfree:=sB hk' (mG h');refine ai (bn (Kc (s:={s with heap:=h'.push (pp xs 0),drawn:=dr,toks:=tk}) ok hD hs (λk hm=>hk k (hp.mem_iff.mp hm)) hl' λSp ys n Vp Yr RQ=>aO ⟨_,rfl,?_⟩));rw[hi] at RQ;obtain ⟨Rm,g⟩:=Good.newL (t:=tk) i m hfree (λb o e=>Vp b o (λq=>mr (hfree.symm.trans (q▸e))) (av _ (hk' b o e))) Yr (vL RQ (by rw[w6];exact hl))
  (Cv (λk hm=>hk k ((pf ks).mem_iff.mp hm)) RQ)
 refine h Rm _ _ ?_
 cases m with
 |true=>exact⟨⟨g.1.grows,g.1.evo,g.1.inv,g.1.gens,g.1.os⟩,g.2⟩
 |false=>exact⟨⟨g.1.grows,g.1.evo,g.1.inv,g.1.gens,g.1.os⟩,g.2⟩
end
noncomputable def BI.py:BI->ae
 |.len=>.builtin "len" |.any=>.builtin "any" |.sorted _=>.builtin "sorted" |.list _=>.type "list" |.tuple=>.type "tuple" |.dict=>.type "dict" |.str=>.type "str"
section
variable {s:af}{P:Pg}
theorem Pn(i:Inv W φ σ s.heap){v:V}{x:ae}(r:mm W φ s.heap v x)(e:rI σ v=some l)(h:∀y s',Good W [] φ s σ φ s'->mm W φ s'.heap (.int l.length) y->Q y s'):
  aM W.M A (call (.builtin "len") [x]) Q E s:=by
 refine mN (su i r e) λa xs n RI hz rl ho=>?_;subst RI
 have hq:Q (.int xs.toArray.size (s.toks+1)) {s with toks:=s.toks+1+1}:=by
  refine h _ _ (Good.tok i) ⟨s.toks+1,?_⟩;rw[bF,rl.length]
 rw[dq] at hz
 rcases ho with ho | ho
 .exact len_tuple (items:=xs.toArray) (⟨_,ho,rfl,n,rfl⟩:IsTup s.heap a xs.toArray) (by rw[bF];exact cY (bH.mpr hz) (by decide)) hq
 .exact call_len_list ⟨_,ho,rfl,n,rfl⟩ (by rw[bF];exact cY (bH.mpr hz) (by decide)) hq
theorem BS:∀{xs:List ae} {bs:List Bool},my W φ h l xs->q8 l=some bs->LSm.BoolsAre xs bs:=by
 induction l with
 |nil=>intro xs bs r e;rw[show xs=[] from r,<-am e];exact .nil
 |cons v l ih=>
  intro xs YT r e;refine l8 (bs e) λb e1 e=>?_;refine l8 (ms e) λYF e2 e=>?_;refine mI r λy ys h1 rv rl=>?_;rw[pL e1] at rv;rw[h1,<-e,show y=.bool b from rv];exact .cons b (ih rl e2)
theorem w_any(hh:A.handled=none)(i:Inv W φ σ s.heap){v:V}{x:ae}{bs:List Bool}(r:mm W φ s.heap v x)(e:rZ σ v=some l)(eb:q8 l=some bs)(h:∀y s',Good W [] φ s σ φ s'->mm W φ s'.heap (.bool (bs.any id)) y->Q y s'):aM W.M A (call (.builtin "any") [x]) Q E s:=by
 refine mN (qP i r e) λa xs n RI hz rl ho=>?_;subst RI;have hl:s.heap.IsList a xs.toArray:=⟨_,ho,rfl,n,rfl⟩;have hb:=BS rl eb;have hlt:a < s.heap.objs.size:=ch ho;refine call_any_walk (fK hl ?_)
 refine⟨s.heap.objs.size,[s.heap.objs.size,a],[s.heap.objs.size],xs.toArray.size,_,_,λi=>(bs[i]?).getD false,rfl,Walks.list (A:=A.in1) hh _ a (aP hlt) xs.toArray,
  ⟨⟨_,aU _ rfl,rfl,rfl⟩,hl.push _⟩,λi v s' Q' E' hP hQ=>?_,λh' tk hk=>?_⟩
 .refine l8 (hb.get i v ((fO).symm.trans hP)) λb e Rz=>?_;subst Rz;simp only[e,iB] at hQ;exact dC hQ
 .have e:((az xs.toArray.size).any λi=>(bs[i]?).getD false)=bs.any id:=by
   rw[bF,hb.length];exact LSm.range_any bs
  rw[e];exact h _ _ (Good.keeps i (LSm.kept_iter hk)) rfl
theorem mi.newL{c:Cx}{m:Bool}(h:mi W c φ s (newL m l σ) (mm W) Q E)(g:AW W φ s σ m l Rm y s'):Q y s':=by
 cases m with
 |true=>exact h Rm y s' g.1 g.2
 |false=>exact h Rm y s' g.1 g.2
theorem D6{l:List (Nat×V)}:∀{kvs:List (a9×ae)},nq W φ h l kvs->kvs.map (·.1)=oz W.S (l.map (·.1))/\∀k∈l.map (·.1),k < W.S.length:=by
 induction l with
 |nil=>intro kvs r;rw[show kvs=[] from r];exact⟨rfl,λZ h=>nomatch h⟩
 |cons p l ih=>
  intro kvs r;refine mN r λs y ys e hk Z r=>?_;have ih:=ih r;rw[e,fm,fm,sw hk,ih.1];exact⟨rfl,λj hj=>(bd.mp hj).elim (λe=>e▸nB hk) (ih.2 j)⟩
theorem ve{k:a9}(h:(bw W.prog W.w).is k y=true):∃t,y=.str k t:=by
 simp only[bw] at h
 cases y<;>simp [jA] at h
 subst h;exact⟨_,rfl⟩
theorem xQ:∀{kvs:List (a9×ae)},xs.length=kvs.length->(∀(j:Nat) (v:ae),xs[j]?=some v->∃k x,kvs[j]?=some (k,x)/\(bw W.prog W.w).is k v=true)->iK xs (kvs.map (·.1)):=by
 induction xs with
 |nil=>intro kvs e _;cases kvs with | nil=>exact .nil | cons _ _=>cases e
 |cons y xs ih=>
  intro kvs e hp
  cases kvs with
  |nil=>cases e
  |cons p kvs=>
   refine mJ (hp 0 y rfl) λk x h1 h2=>?_;rw[show p=(k,x) from am h1];refine mF (ve h2) λt h2=>?_;rw[h2];exact .cons k t (ih (fD e) λj v hj=>hp (j+1) v hj)
theorem CN(ok:nO W P)(hh:A.handled=none)(i:Inv W φ σ s.heap){v:V}{x:ae}(r:mm W φ s.heap v x)(e:keysOf σ v=some ks)(hl:ks.length<=16):
  (∀k∈ks,k < W.S.length)/\∀R:List ae->af->Prop,(∀h' dr tk xs SD,(∀b o,s.heap.get? b=some o->h'.get? b=some o)->SD.Perm ks->iK xs (oz W.S SD)->R xs {s with heap:=h',drawn:=dr,toks:=tk})->aM W.M A.in1 (collect x) R E s:=by
 rcases mZ e with e | e
 .refine l8 (ms e) λl hd Rz=>?_;subst Rz;refine pH (qM ok.sys i r hd) λa kvs Rz rd Te hsys=>?_;subst Rz;refine mF Te.dictAt λep RP=>?_;have hk:=D6 rd
  have Vm:kvs.length<=bM:=by
   rw[rd.length,dq];rw[ay] at hl;exact ac hl (by decide)
  refine⟨hk.2,λR hR=>kdu_collect (A:=A.in1) (kdl_dict (knd:=bw W.prog W.w) (kvs:=kvs) (ep:=ep) hsys) hh RP Vm λh' tk acc hk' Vv=>hR h' s.drawn tk acc.toList _ hk' (.refl _) ?_⟩;rw[<-hk.1];exact xQ (W:=W) (Array.length_toList.trans Vv.1) λj v e=>Vv.2 j v (Array.getElem?_toList.symm.trans e)
 .refine l8 (bs e) λl hs hk=>?_;refine mN (su i r hs) λa xs n RI hz rl ho=>?_;subst RI;have hs:=Fg rl hk;refine⟨hs.2,λR hR=>?_⟩
  rcases ho with ho | ho
  .exact jZ (A:=A.in1) a (T:="tuple") (.inr rfl) ho rfl rfl (λh' hk'=>hR h' s.drawn s.toks _ _ hk' (.refl _) hs.1) hz
  .exact jZ (A:=A.in1) a (T:="list") (.inl rfl) ho rfl rfl (λh' hk'=>hR h' s.drawn s.toks _ _ hk' (.refl _) hs.1) hz
theorem J8(i:Inv W φ σ s.heap){m:Bool}{v:V}{x:ae}(r:mm W φ s.heap v x)(e:rI σ v=some l)(h:∀Rm y s',AW W φ s σ m l Rm y s'->Q y s'):aM W.M A (call (.type "list") [x]) Q E s:=by
 refine mN (su i r e) λa xs n RI hz rl ho=>?_;subst RI;have fin:∀h' c',(∀b o',s.heap.get? b=some o'->h'.get? b=some o')->h'.get? s.heap.objs.size=some {cls:=.type "list",dict:=none,data:=.seq xs.toArray c',slots:=#[]}->Q (.ref s.heap.objs.size) {s with heap:=h'}:=λh' c' k e=>
  (Good.newL (t:=s.toks) i m (mG _) k e hz rl).elim λRm g=>h Rm _ _ g
 rcases ho with ho | ho
 .exact call_list_seq a (T:="tuple") (.inr rfl) ho rfl rfl fin hz
 .exact call_list_seq a (T:="list") (.inl rfl) ho rfl rfl fin hz
theorem Hz(i:Inv W φ σ s.heap){v:V}{x:ae}(r:mm W φ s.heap v x)(e:rZ σ v=some l)(h:∀y s',Good W [] φ s σ φ s'->mm W φ s'.heap (.tup l) y->Q y s'):aM W.M A (call (.type "tuple") [x]) Q E s:=by
 refine mN (qP i r e) λa xs n RI hz rl ho=>?_;subst RI;refine call_tuple_list (items:=xs.toArray) ⟨_,ho,rfl,n,rfl⟩ (λh' k=>?_) hz;have k':∀b o,s.heap.get? b=some o->(h'.push (uK xs 0)).get? b=some o:=λb o e=>av _ (k b o e);exact h _ _ (Good.keeps i k') ⟨_,xs,0,rfl,i.notin (sB k (mG h')),hz,aU _ rfl,rl.evo (X:=[]) (.of_keeps k') (Apart.nil _ _ _) (.refl _ _)⟩
theorem J5(ok:nO W P)(i:Inv W φ σ s.heap){v:V}{x:ae}{l:List (Nat×V)}(r:mm W φ s.heap v x)(hd:rE σ v=some l)(hl:l.length<=me)(h:∀Rm y s',Good W [] φ s (σ++[.dict l]) Rm s'->mm W Rm s'.heap (.obj σ.length) y->Q y s'):
  aM W.M A (call (.type "dict") [x]) Q E s:=by
 refine pH (qM ok.sys i r hd) λa kvs Rz rd Te hsys=>?_;subst Rz;refine kt_call_dict hsys Te (by rw[rd.length];exact mY hl) λh' Ya RQ=>?_;have k:∀b o,s.heap.get? b=some o->h'.get? b=some o:=λb o e=>(RQ.2 b (aP (ch e))).trans (av _ e);exact h (φ++[s.heap.objs.size]) _ _ (Good.allocAt (t:=s.toks) i _ (mG _) k ⟨kvs,Ya,rd.evo (X:=[]) (.of_keeps k) (Apart.nil _ _ _) (.one _ _ (mG _))⟩) ⟨_,i.last _,rfl⟩
theorem QP(ok:nO W P){c:Cx}{b:BI}{v:V}{x:ae}(hh:b.loud=true->A.handled=none)(i:Inv W φ σ s.heap)(r:mm W φ s.heap v x)(h:mi W c φ s (uI σ b v) (mm W) Q E):aM W.M A (call b.py [x]) Q E s:=by
 cases b with
 |len=>
  refine l8 (mi.of h) λu hu h=>?_;refine l8 (ms hu) λl hl Rz=>?_;subst Rz;exact Pn i r hl h
 |any=>
  refine l8 (mi.of h) λu hu h=>?_;refine l8 (bs hu) λl hl hu=>?_;refine l8 (ms hu) λbs hb Rz=>?_;subst Rz;exact w_any (hh rfl) i r hl hb h
 |sorted m=>
  refine l8 (mi.opt h) λks hk h=>?_;have w:=CN (E:=E) ok (hh rfl) i r hk h.gd.1;exact AM (P:=P) ok i m w.1 h.gd.1 w.2 λRm y s' g=>h.gd.2.newL g
 |list m=>
  refine l8 (mi.opt h) λl hl h=>?_;exact J8 i r hl λRm y s' g=>h.gd.2.newL g
 |tuple=>
  refine l8 (mi.of h) λu hu h=>?_;refine l8 (bs hu) λl hl hu=>?_;refine nt (nW hu) λZ RA=>?_;subst RA;exact Hz i r hl h
 |dict=>
  refine l8 (mi.opt h) λl hl h=>?_;exact J5 ok i r hl h.gd.1 h.gd.2
 |str=>
  refine l8 (mi.opt h) λj hj h=>?_;rw[m6 hj] at r;refine mF r λt RA=>?_;subst RA;have hb:=h.gd.1;exact str_of_int_fit (N:=2000) (by split;exact cY (Int.sub_le_sub_left hb.1 0) (by decide);exact cY hb.2 (by decide)) (by decide) λZ=>h.gd.2 _ _ _ (Good.tok i) ⟨_,rfl⟩
end
noncomputable def BM.name:BM->a9
 |.append=>"append" |.pop0=>"pop" |.pop1=>"pop" |.insert=>"insert" |.extend=>"extend" |.update=>"update"
noncomputable def BM.id:BM->String
 |.append=>"list.append" |.pop0=>"list.pop" |.pop1=>"list.pop" |.insert=>"list.insert" |.extend=>"list.extend" |.update=>"dict.update"
theorem rW{p:cw}{a:al}(d:h.DictOf (bw p w) a kvs):(kvs.map (·.1)).Nodup:=by
 refine pI d λZ Z Z Z Z Z Z Z hn=>?_;exact hn
theorem qf{p:cw}{a:al}(d:h.DictOf (bw p w) a kvs):∃o,h.get? a=some o:=by
 refine nU d λo Z Z e Z=>?_;exact⟨o,e⟩
theorem xP{s:a9}{x:ae}(hn:(kvs.map (·.1)).Nodup):((fW kvs s x).map (·.1)).Nodup:=by
 unfold fW
 split
 .rw[cS,cz (g:=(·.1)) λp Z=>by
   show (if p.1=s then (p.1,x) else p).1=p.1
   split<;>rfl]
  exact hn
 .rename_i h;rw[bf];refine bV.mpr ⟨hn,bo.mpr ⟨iz,.nil⟩,λa ha b hb e=>?_⟩;refine l8 (aW.mp ha) λp hp hq=>?_;exact h (cL.mpr ⟨p,hp,decide_eq_true (hq.trans (e.trans (au.mp hb)))⟩)
theorem nq.merge(hS:W.S.Nodup){r:List (Nat×V)}:∀{l:List (Nat×V)} {kvs more:List (a9×ae)},nq W φ h l kvs->(kvs.map (·.1)).Nodup->nq W φ h r more->nq W φ h (nQ l r) (merged kvs more):=by
 induction r with
 |nil=>intro l kvs more a _ b;rw[show more=[] from b];exact a
 |cons p r ih=>
  intro l kvs more a hn b;refine mN b λs x ys e hk rv b=>?_;rw[e];exact ih (kvs:=fW kvs s x) (nq.set hS hk rv a hn) (xP hn) b
section
variable {W:Wd}{A:bc}{E:ae->af->Prop}{s:af}{φ:List al}{σ:St}{Q:ae->af->Prop}{P:Pg}
theorem qZ(i:Inv W φ σ s.heap){l':List V}{a:al}{xs':List ae}(e:σ[n]?=some (.list l))(ha:φ[n]?=some a)(ho:s.heap.get? a=some (pp xs m)){f:Array ae->Array ae}(hf:f xs.toArray=xs'.toArray)(hz:xs'.length<=bM){t:Nat}(r:my W φ s.heap l' xs'):Good W [] φ s (σ.set n (.list l')) φ {s with heap:=s.heap.update a (gS f),toks:=t}/\∀v y,mm W φ s.heap v y->mm W φ (s.heap.update a (gS f)) v y:=by
 have hnew:∃k,(s.heap.update a (gS f)).get? a=some (pp xs' k):=by
  have h1:=bP (gS f) ho (by rfl);exact⟨if (xs'.toArray.size==xs.toArray.size)=true then m else m+1,by rw[h1];simp only[gS,hf,pp]⟩
 refine mF hnew λk hk=>?_;have hs:bX a s.heap (s.heap.update a (gS f)):=fc ..;refine nt (qw (W:=W) (φ:=φ) (s:=s) (bq ha) hs ⟨_,hk⟩) λev ap=>?_;refine⟨Good.set i e ha hs ⟨_,hk⟩ ⟨xs',k,hz,hk,r.evo ev ap (.refl _ _)⟩,λv y rv=>rv.evo ev ap (.refl _ _)⟩
theorem u8{j:Int}(h0:0<=j)(h:j.toNat<=n)(hz:n<=bM):eI j=true:=by
 rw[dq] at hz;have e:=Ll (b6 (by decide) h0) (cy h0▸b6 (bH.mpr (ac h hz)) (by decide));exact b5.mpr ⟨decide_eq_true e.1,decide_eq_true e.2⟩
theorem xl{j:Int}(h:eI j=true):¬(!eI j)=true:=by rw[h];decide
theorem xm{a:Bool}(h:n<=bM):¬(a&&fY.List.listTooLong n)=true:=λq=>dD.mpr h (of_decide_eq_true (b2 q).2)
theorem Ai(i:Inv W φ σ s.heap){a:al}(ha:φ[n]?=some a){u:V}{U4:List (Nat×V)}(ry:mm W φ s.heap u (.ref b))(hd:rE σ u=some U4)(hn:vG u n=true):a≠b:=by
 intro q;rw[q] at ha
 rcases mZ hd with e | e
 .rw[wV e] at ry;refine mI ry λa' Z hq hb' Z=>?_
  cases hq
  exact hb'.1 (bq ha)
 .refine l8 (bs e) λm e1 Z=>?_;rw[oK e1] at ry;refine l8 ry λa' VR hq=>?_
  cases hq
  have XU:m=n:=(fC (nB VR) i.nodup).mp (VR.trans ha.symm);rw[vG,e1,XU,bne_self_eq_false] at hn;exact ma hn
theorem mi.onL{c:Cx}{v:V}{f:Nat->List V->R Unit V}(h:mi W c φ s (onL σ v f) (mm W) Q E):∃n l,v=.obj n/\σ[n]?=some (.list l)/\mi W c φ s (f n l) (mm W) Q E:=by
 refine l8 (mi.opt h) λn h1 h=>?_;refine l8 (mi.opt h) λl h2 h=>?_;exact⟨n,l,oK h1,listAt_eq h2,h⟩
def IJ(W:Wd)(φ:List al)(h:aQ)(n:Nat)(x:ae)(l:List V):Prop:=∃a xs k,φ[n]?=some a/\x=.ref a/\xs.length<=bM/\h.get? a=some (pp xs k)/\my W φ h l xs
theorem tg(i:Inv W φ σ s.heap){x:ae}(r:mm W φ s.heap (.obj n) x)(e:σ[n]?=some (.list l)):IJ W φ s.heap n x l:=by
 refine l8 r λa ha h1=>?_;refine mI (i.rep n _ a e ha) λxs k hz e r=>?_;exact⟨a,xs,k,ha,h1,hz,e,r⟩
section
variable {c:Cx}{v:V}{l:List V}{x:ae}{ys:List ae}(i:Inv W φ σ s.heap)(r:mm W φ s.heap v x)(rl:my W φ s.heap l ys)
include i r rl
theorem Fz(h:mi W c φ s (sU σ .append v l) (mm W) Q E):aM W.M A (call (.builtin "list.append") (x::ys)) Q E s:=by
 refine l8 (mi.opt h) λu h1 h=>?_;refine l8 (mi.opt h) λZ h2 h=>?_;obtain ⟨n,l₀,rfl,e,h⟩:=mi.onL h;obtain ⟨a,xs,k,ha,rfl,hz,ho,r0⟩:=tg i r e;rw[yb h1 h2] at rl;obtain ⟨y,rfl,ry⟩:=rl.one_inv;have g:=(qZ (t:=s.toks) i e ha ho (f:=(·.push y)) (xs':=xs++[y]) (l':=l₀++[u]) (hJ ..) (by rw[ah,r0.length];exact mY h.gd.1) (r0.append (.one ry))).1;exact iN jC ⟨_,ho,rfl⟩ F.entry_list_append (F.args_list_append_2 _ _) (list_append a xs.toArray k y hz) ⟨ho,h.gd.2 _ _ _ g rfl⟩
theorem Ka(h:mi W c φ s (sU σ .pop0 v l) (mm W) Q E):aM W.M A (call (.builtin "list.pop") (x::ys)) Q E s:=by
 refine l8 (mi.opt h) λZ h2 h=>?_;obtain ⟨n,l₀,rfl,e,h⟩:=mi.onL h;obtain ⟨u,hg,h⟩:=mi.opt h;obtain ⟨a,xs,k,ha,rfl,hz,ho,r0⟩:=tg i r e;rw[qu h2] at rl;rw[show ys=[] from rl];rw[List.getLast?_eq_getElem?] at hg;refine l8 (r0.get hg) λy hy ry=>?_
 have hl1:l₀.length - 1=xs.length - 1:=by rw[r0.length]
 rw[hl1] at hy;have g:=qZ (t:=s.toks) i e ha ho (f:=λz=>z.eraseIdxIfInBounds (xs.toArray.size - 1)) (xs':=xs.dropLast) (l':=l₀.dropLast)
  (by
   simp only[bF,im,nB hy,dite_true]
   rw[iZ,List.eraseIdx_length_sub_one])
  (by rw[List.length_dropLast];exact ac (Nat.sub_le _ _) hz) (by rw[iY,iY,hl1];exact r0.take _)
 exact iN gk ⟨_,ho,rfl⟩ j3 (F.args_list_pop_1 _) (MeetsSeq.list_pop_last a xs.toArray k y (FS hy) hz) ⟨ho,h _ _ _ g.1 (g.2 _ _ ry)⟩
theorem Kb(h:mi W c φ s (sU σ .pop1 v l) (mm W) Q E):aM W.M A (call (.builtin "list.pop") (x::ys)) Q E s:=by
 refine l8 (mi.opt h) λj h1 h=>?_;refine l8 (mi.opt h) λZ h2 h=>?_;obtain ⟨n,l₀,rfl,e,h⟩:=mi.onL h;have hj:=h.gd.1;refine l8 (mi.opt h.gd.2) λu hg h=>?_;refine mR (tg i r e) λa xs k ha Ti hz ho r0=>?_;subst Ti;refine l8 (bs h1) λw h1 h3=>?_;rw[yb h1 h2,m6 h3] at rl;refine JL rl.one_inv λy0 RA t0 RI=>?_;subst RA;subst RI;refine l8 (r0.get hg) λy hy ry=>?_;have hk:=nB hy;have g:=qZ (t:=s.toks) i e ha ho (f:=λz=>z.eraseIdxIfInBounds j.toNat) (xs':=xs.eraseIdx j.toNat) (l':=l₀.eraseIdx j.toNat)
  (by
   simp only[im,bF,hk,dite_true]
   rw[iZ])
  (ac (List.length_eraseIdx_le xs j.toNat) hz) (r0.eraseIdx _)
 exact iN gk ⟨_,ho,rfl⟩ j3 (F.args_list_pop_2 _ _) (MeetsSeq.list_pop_at a xs.toArray k j t0 j.toNat y (u8 hj (bK hk) hz) (tK hj hk) (FS hy) hz) ⟨ho,h _ _ _ g.1 (g.2 _ _ ry)⟩
theorem FD(h:mi W c φ s (sU σ .insert v l) (mm W) Q E):aM W.M A (call (.builtin "list.insert") (x::ys)) Q E s:=by
 refine l8 (mi.opt h) λj h1 h=>?_;refine l8 (mi.opt h) λu h2 h=>?_;refine l8 (mi.opt h) λZ h0 h=>?_;obtain ⟨n,l₀,rfl,e,h⟩:=mi.onL h;have hj:=h.gd.1;have h:=h.gd.2;refine mR (tg i r e) λa xs k ha Ti hz ho r0=>?_;subst Ti;refine l8 (bs h1) λw h1 h3=>?_;rw[KG h1 h2 h0,m6 h3] at rl;refine mI rl.two_inv λy0 y Rz V0 ry=>?_;subst Rz;obtain ⟨t0,rfl⟩:=V0;have hlen:=r0.length
 have hjn:j.toNat<=xs.length:=by rw[hlen];exact jP.mpr hj.2.1
 have hll:=mY (n:=l₀.length+1) hj.2.2
 have hz2:(xs.take j.toNat++y::xs.drop j.toNat).length<=bM:=by
  rw[ah,cM,List.length_take,j6,iU hjn,<-da,dM hjn,hlen];exact hll
 have g:=(qZ (t:=s.toks) i e ha ho (f:=λxs=>have k:=if j < 0 then (j+(xs.size:Int)).toNat else min j.toNat xs.size;(xs.extract 0 k).push y++xs.extract k)
  (xs':=xs.take j.toNat++y::xs.drop j.toNat) (l':=l₀.take j.toNat++u::l₀.drop j.toNat)
  (by
   simp only[gL.mpr hj.1,if_false,bF];rw[iU hjn];simp
   rw[iI (by rw[j6];exact aN _)]) hz2 ((r0.take _).append (.cons' ry (r0.drop _)))).1
 exact iN jE ⟨_,ho,rfl⟩ F.entry_list_insert (F.args_list_insert_3 _ _ _) (AutoSeq1.list_insert_list_int_val_1 a xs.toArray k j t0 y (xl (u8 hj.1 hjn hz)) hz) ⟨ho,h _ _ _ g rfl⟩
theorem FC(h:mi W c φ s (sU σ .extend v l) (mm W) Q E):aM W.M A (call (.builtin "list.extend") (x::ys)) Q E s:=by
 refine l8 (mi.opt h) λTX h1 h=>?_;refine l8 (mi.opt h) λZ h2 h=>?_;obtain ⟨n,l₀,rfl,e,h⟩:=mi.onL h;obtain ⟨a,xs,k,ha,rfl,hz,ho,r0⟩:=tg i r e;obtain ⟨w,h1,h3⟩:=bs h1;rw[yb h1 h2,uQ h3] at rl;obtain ⟨y,rfl,b,zs,k',rfl,_,We,hob,rb⟩:=rl.one_inv
 have hz2:(xs++zs).length<=bM:=by
  rw[ah,r0.length,rb.length,<-ah];exact mY h.gd.1
 have hz3:xs.length+zs.length<=bM:=ah▸hz2;have g:=(qZ (t:=s.toks) i e ha ho (f:=λx=>x++zs.toArray) (xs':=xs++zs) (l':=l₀++TX) (ju ..) hz2 (r0.append rb)).1;exact iN jD ⟨_,ho,rfl⟩ F.entry_list_extend (F.args_list_extend_2 _ _) (AutoSeq1.list_extend_list_list_0 a xs.toArray k b zs.toArray k' (xm hz3) hz (ib hz3)) ⟨ho,hob,h.gd.2 _ _ _ g rfl⟩
theorem FL(ok:nO W P)(h:mi W c φ s (sU σ .update v l) (mm W) Q E):aM W.M A (call (.builtin "dict.update") (x::ys)) Q E s:=by
 refine l8 (mi.opt h) λd h1 h=>?_;refine l8 (mi.opt h) λZ h2 h=>?_;refine l8 (mi.opt h) λn hv h=>?_;refine l8 (mi.opt h) λl₀ e h=>?_;refine l8 (mi.opt h) λU4 hd h=>?_;have hl:=h.gd.1;have h:=h.gd.2;have e:=qN e;rw[oK hv] at r;refine l8 r λa ha Rz=>?_;subst Rz;refine l8 (i.rep n _ a e ha) λkvs Te rd=>?_;rw[yb h1 h2] at rl;refine l8 rl.one_inv λy RA ry=>?_;subst RA;refine pH (qM ok.sys i ry hd) λb more Rz W4 WI Vg=>?_;subst Rz;refine call_meetsIn jB Te.typeIs F.entry_dict_update (F.args_dict_update_2 _ _) (meets_dict_update (bw W.prog W.w) a b (Ai i ha ry hd hl.2) Vg)
  ⟨kvs,more,Te,WI,by rw[rd.length,W4.length];exact mY hl.1,λh' hm Z hs=>?_⟩
 have ev:=qw (W:=W) (φ:=φ) (s:=s) (bq ha) hs (qf hm);exact h _ _ _ (Good.set (t:=s.toks) i e ha hs (qf hm) ⟨_,hm,(rd.merge ok.nodup (rW Te) W4).evo ev.1 ev.2 (.refl _ _)⟩) rfl
theorem QQ(ok:nO W P){m:BM}(h:mi W c φ s (sU σ m v l) (mm W) Q E):aM W.M A (call (.builtin m.id) (x::ys)) Q E s:=by
 cases m with
 |append=>exact Fz i r rl h
 |pop0=>exact Ka i r rl h
 |pop1=>exact Kb i r rl h
 |insert=>exact FD i r rl h
 |extend=>exact FC i r rl h
 |update=>exact FL i r rl ok h
end
end
theorem BZ(es:List fv)(name:a9)(p:cw)(w:dW):(es.find? λe=>e.key.isStr name)=es.find? λe=>(bw p w).is name e.key:=by
 congr 1
 funext e
 show e.key.isStr name=jA name e.key
 cases e.key<;>rfl
theorem wZ(es:List fv)(name:a9)(p:cw)(w:dW):(es.findIdx? λe=>e.key.isStr name)=es.findIdx? λe=>(bw p w).is name e.key:=by
 congr 1
 funext e
 show e.key.isStr name=jA name e.key
 cases e.key<;>rfl
theorem yc(es:Array α)(f:α->Bool):es.toList.findIdx? f=es.findIdx? f:=by
 obtain ⟨l⟩:=es;simp
theorem vf{p:cw}{es:Array fv}(h:KeysOf (bw p w) es):es.toList.any (·.refKey)=false:=by
 rw[gZ];intro e he;refine l8 (h e (by simpa using he)) λk hk Z=>?_;refine mF (ae.isStrOf_shape (x:=k) (v:=e.key) hk) λt ht=>?_;simp [j2,ht]
theorem Cc{p:cw}{a:al}(d:h.DictOf (bw p w) a kvs):∃o,h.get? a=some o/\∀name,lO name o=some (gC kvs name):=by
 refine pI d λo es ep e c hd hk hp hn=>?_;refine⟨o,e,λname=>?_⟩;unfold lO;rw[hd];dsimp only;rw[BZ es.toList name p w,<-hp.find name]
 cases q:es.toList.find? λe=>(bw p w).is name e.key with
 |some en=>rfl
 |none=>rw[vf hk];rfl
theorem zK{p:cw}{a:al}(d:h.DictOf (bw p w) a kvs)(ho:h.get? a=some o)(name:a9)(t:Tok)(v:ae):
  (h.update a (eN name (dO w.params name) (.str name t) v)).DictOf (bw p w) a (fW kvs name v):=by
 refine pI d λo' es ep e c hd hk hp hn=>?_;obtain rfl:o=o':=am (ho.symm.trans e);obtain ⟨oc,od,dd,osl⟩:=o;obtain rfl:dd=.dict es ep:=hd;have hidx:=(yc es _).symm.trans (wZ es.toList name p w);have hidx':=hp.findIdx name;have hu:=bP (eN name (dO w.params name) (.str name t) v) ho;rw[jh] at hu ⊢
 cases q:es.findIdx? (·.key.isStr name) with
 |some i=>
  have q':=hidx.symm.trans q
  have hst:fW kvs name v=kvs.map λkv=>if kv.1=name then (kv.1,v) else kv:=by unfold fW;exact if_pos (any_of_findIdx_some (hidx'.symm.trans q'))
  rw[hst];simp only[dZ,q] at hu ⊢;exact⟨_,es.modify i λe=>{e with val:=v},ep,hu rfl,c,rfl,hk.modify _ _,by rw[Array.toList_modify];exact hp.modify hn q' v,by rw[keys_map_store];exact hn⟩
 |none=>
  have q':=hidx'.symm.trans (hidx.symm.trans q)
  have hno:¬(kvs.any λkv=>decide (kv.1=name))=true:=λX6=>by
   refine l8 (cL.mp X6) λkv hm he=>?_;exact ma ((List.findIdx?_eq_none_iff.mp q' kv hm).symm.trans he)
  have hst:fW kvs name v=kvs++[(name,v)]:=by unfold fW;exact if_neg hno
  rw[hst];simp only[dZ,q] at hu ⊢;refine⟨_,es.push ⟨dO w.params name,.str name t,v⟩,ep+1,hu rfl,c,rfl,λe he=>?_,by rw[Array.toList_push];exact hp.append (gW p w name t) _ v,?_⟩
  .rcases Array.mem_push.mp he with he | rfl
   .exact hk e he
   .exact⟨name,gW p w name t,rfl⟩
  .rw[bf]
   exact bV.mpr ⟨hn,bo.mpr ⟨iz,.nil⟩,λx hx y hy e=>by
    refine l8 (aW.mp hx) λkv hm he=>?_
    exact hno (cL.mpr ⟨kv,hm,decide_eq_true (he.trans (e.trans (au.mp hy)))⟩)⟩
structure pw(K:dw)(C:al)(attrs:List a9):Prop where
 ga:dQ K (.ref C) "__getattribute__" = some (some (.builtin "object.__getattribute__"))
 gat:dQ K (.ref C) "__getattr__" = some none
 sa:dQ K (.ref C) "__setattr__" = some (some (.builtin "object.__setattr__"))
 plain:plainOver K C=true
 dict:(lV K C).any (·.hasDict)=true
 attr:∀x∈attrs,dQ K (.ref C) x=some none
section
variable {W:Wd}{A:bc}{E:ae->af->Prop}{s:af}{φ:List al}{σ:St}{P:Pg}{K:dw}{attrs:List a9}
theorem mm.handed{v:V}:mm W φ h v y->handedIn y=true:=by
 cases v with
 |none=>intro r;cases r;rfl
 |bool _=>intro r;cases r;rfl
 |int _=>intro r;refine mF r λZ RA=>?_;subst RA;rfl
 |sym _=>intro r;refine mJ r λZ Z Z RI=>?_;subst RI;rfl
 |itxt _=>intro r;refine mF r λZ RA=>?_;subst RA;rfl
 |txt _=>intro r;refine mJ r λZ Z Z RI=>?_;subst RI;rfl
 |tup _=>intro r;refine nU r λZ Z Z RI Z=>?_;subst RI;rfl
 |lst _=>intro r;refine nU r λZ Z Z RI Z=>?_;subst RI;rfl
 |dct _=>intro r;refine mJ r λZ Z Rz Z=>?_;subst Rz;rfl
 |obj _=>intro r;refine l8 r λZ Z Rz=>?_;subst Rz;rfl
noncomputable abbrev instObj(W:Wd)(c:Nat)(b:al):fq:={cls:=.ref (W.cls c),dict:=some b,data:=.plain,slots:=#[]}
structure IH(W:Wd)(φ:List al)(h:aQ)(n c d:Nat)(l:List (Nat×V))(a b:al)(o:fq)(kvs:List (a9×ae)):Prop where
 ha:φ[n]?=some a
 hb:φ[d]?=some b
 hd:h.DictOf (strKind W.prog W.w) b kvs
 rd:nq W φ h l kvs
 ho:h.get? b=some o
 hl:∀name,lO name o=some (gC kvs name)
 he:h.get? a=some (instObj W c b)
 I:InstAt h a (instObj W c b) (W.cls c) (some o)
theorem w5(i:Inv W φ σ s.heap){x:ae}{l:List (Nat×V)}(r:mm W φ s.heap (.obj n) x)(e:σ[n]?=some (.inst c d))(ed:σ[d]?=some (.dict l)):
  ∃a b o kvs,x=.ref a/\IH W φ s.heap n c d l a b o kvs:=by
 refine l8 r λa ha h1=>?_;refine l8 (i.rep n _ a e ha) λb hb he=>?_;refine l8 (i.rep d _ b ed hb) λkvs hd rd=>?_;refine l8 (Cc hd) λo ho hl=>?_;exact⟨a,b,o,kvs,h1,ha,hb,hd,rd,ho,hl,he,he,rfl,rfl,ho⟩
theorem oN{v:V}{f:Nat->List (Nat×V)->Nat->Option α}{y:α}(e:re σ v f=some y):∃n c d l,v=.obj n/\σ[n]?=some (.inst c d)/\σ[d]?=some (.dict l)/\f c l d=some y:=by
 refine l8 (bs e) λn h1 e=>?_;refine l8 (bs e) λc h2 e=>?_;refine l8 (bs e) λl h3 e=>?_;exact⟨n,c.1,c.2,l,oK h1,B2 h2,qN h3,e⟩
theorem Aj{cd:j1}{nm:a9}{y:Option ae}(hh:cd.hasDict=true)(h:lO nm o=some y):lC cd (some o) nm=some y:=by
 unfold lC;rw[if_pos hh];exact h
theorem J3(ok:nO W P)(hK:K.In s.heap)(cf:∀c,pw K (W.cls c) attrs)(i:Inv W φ σ s.heap){v u:V}{x:ae}{nm:a9}{ex:Bool}(hS:W.S[k]?=some nm)(hk:nm∈attrs)(r:mm W φ s.heap v x)(e:zD σ v k=some u)(h:∀y t,mm W φ s.heap u y->Q y {s with toks:=t}):aM W.M A (getAttr x nm ex) Q E s:=by
 obtain ⟨n,c,d,l,rfl,e1,e2,e⟩:=oN e;obtain ⟨a,b,o,kvs,rfl,io⟩:=w5 i r e1 e2;obtain ⟨y,hy,ry⟩:=io.rd.get ok.nodup hS e;refine l8 (any_some (cf c).dict) λcd hc hh=>?_
 have hf:findObj K (W.cls c) (some o) nm=some (.value y):=by
  unfold findObj;rw[hc,cN,(cf c).attr nm hk,cN,Aj hh ((io.hl nm).trans (congrArg some hy))];rfl
 exact get_value hK io.I (cf c).ga hf ry.handed (h y _ ry)
theorem CT(ok:nO W P)(hK:K.In s.heap)(cf:∀c,pw K (W.cls c) attrs)(i:Inv W φ σ s.heap){v u:V}{x:ae}{nm:a9}{Q:Unit->af->Prop}(hS:W.S[k]?=some nm)(hk:nm∈attrs)(r:mm W φ s.heap v x)(ry:mm W φ s.heap u y)(e:E6 σ v k u=some σ')(h:∀s',Good W [] φ s σ' φ s'->Q () s'):aM W.M A (setAttr x nm y) Q E s:=by
 obtain ⟨n,c,d,l,rfl,e1,e2,e⟩:=oN e;obtain ⟨hlen,rfl⟩:=nW e;refine vy (w5 i r e1 e2) λa b o kvs Ti io=>?_;subst Ti;refine l8 (any_some (cf c).dict) λcd hc hh=>?_
 have ht:fJ K (W.cls c) nm=some none:=by
  unfold fJ;rw[(cf c).attr nm hk];rfl
 refine set_plain hK io.I (cf c).sa (osa_open (s:={s with toks:=s.toks+1}) hK io.I (cf c).plain ht λbb=>?_);refine ai (aO (ai (ai (jl io.he (ai ((ii hK hc).here (s:={s with toks:=s.toks+1}) ?_))))));rw[hh];refine aO (a:=some b) (ai (aO (ai ?_)));have D':=zK io.hd io.ho nm (s.toks+1) y;refine pI (id io.hd) λo' es ep e' c' Te Vo hp hn=>?_;rw[<-am (io.ho.symm.trans e')] at Te;refine pI (id D') λo2 VT YR Wx Z X9 Z hp2 Z=>?_
 refine BD io.ho Te (vf Vo) (ai (km Wx (by
  rw[X9];refine kj (ac (bB ?_) (ac (stored_length_le kvs nm y) ?_))
  .exact hp2.length
  .rw[io.rd.length];exact ib (mY hlen)) ?_))
 have hs:bX b s.heap (s.heap.update b (eN nm (dO W.w.params nm) (.str nm (s.toks+1)) y)):=fc ..;have ev:=qw (W:=W) (φ:=φ) (s:=s) (bq io.hb) hs ⟨_,Wx⟩;exact aO (h _ (Good.set i e2 io.hb hs ⟨_,Wx⟩ ⟨_,D',(nq.set ok.nodup hS ry io.rd (rW io.hd)).evo ev.1 ev.2 (.refl _ _)⟩))
end
section
theorem wA(hd:∀o,h.get? D=some o->∀xs n,o.data≠.seq xs n){a:al}(ha:a∉φ)(e:h.get? a=some o)(q:∃xs n,o.data=.seq xs n):a∉φ++[D]:=λhm=>by
 refine wl q λxs n q=>?_
 rcases aH.mp hm with hm | hm
 .exact ha hm
 .rw[au.mp hm] at e;exact hd _ e _ _ q
mutual
theorem mm.widen(hw:W.base.get? D=none)(hd:∀o,h.get? D=some o->∀xs n,o.data≠.seq xs n):∀{v:V} {y:ae},mm W φ h v y->mm W (φ++[D]) h v y
 |.none,_,r=>r
 |.bool _,_,r=>r
 |.int _,_,r=>r
 |.sym _,_,r=>r
 |.itxt _,_,r=>r
 |.txt _,_,r=>r
 |.tup l,_,r=>by
  refine mR r λa xs n h1 ha hz e r=>?_;exact⟨a,xs,n,h1,⟨wA hd ha.1 e ⟨_,_,rfl⟩,ha.2⟩,hz,e,my.widen hw hd r⟩
 |.lst l,_,r=>by
  refine mR r λa xs n h1 ha hz e r=>?_;exact⟨a,xs,n,h1,⟨wA hd ha.1 e ⟨_,_,rfl⟩,ha.2⟩,hz,e,my.widen hw hd r⟩
 |.dct l,_,r=>by
  refine sD r λa kvs h1 ha hs e r=>?_;refine⟨a,kvs,h1,⟨λhm=>?_,ha.2⟩,hs,e,nq.widen hw hd r⟩
  rcases aH.mp hm with hm | hm
  .exact ha.1 hm
  .refine mF ha.2 λo ho=>?_;rw[au.mp hm,hw] at ho;exact mr ho
 |.obj n,_,r=>by
  refine l8 r λa e h1=>?_;exact⟨a,by rw[aJ (nB e)];exact e,h1⟩
theorem my.widen(hw:W.base.get? D=none)(hd:∀o,h.get? D=some o->∀xs n,o.data≠.seq xs n):∀{l:List V} {ys:List ae},my W φ h l ys->my W (φ++[D]) h l ys
 |[],_,r=>r
 |v::l,_,r=>by
  refine mI r λy ys Rz p q=>?_;subst Rz;exact⟨y,ys,rfl,mm.widen hw hd p,my.widen hw hd q⟩
theorem nq.widen(hw:W.base.get? D=none)(hd:∀o,h.get? D=some o->∀xs n,o.data≠.seq xs n):∀{l:List (Nat×V)} {es:List (a9×ae)},nq W φ h l es->nq W (φ++[D]) h l es
 |[],_,r=>r
 |(k,v)::l,_,r=>by
  refine mN r λs y es RI hk p q=>?_;subst RI;exact⟨s,y,es,rfl,hk,mm.widen hw hd p,nq.widen hw hd q⟩
end
theorem o4.widen(hw:W.base.get? D=none)(hd:∀o,h.get? D=some o->∀xs n,o.data≠.seq xs n){o:O}(r:o4 W φ h o b):o4 W (φ++[D]) h o b:=by
 cases o with
 |list l=>refine mI r λxs n hz e r=>?_;exact⟨xs,n,hz,e,r.widen hw hd⟩
 |dict l=>refine l8 r λkvs e r=>?_;exact⟨kvs,e,r.widen hw hd⟩
 |inst c d=>refine l8 r λb' e r=>?_;exact⟨b',by rw[aJ (nB e)];exact e,r⟩
end
section
variable {s:af}
theorem Good.adopt(x:Good W own φ s σ' Rm s')(o':O){t:Nat}(hD:s.heap.get? D=none)(hw:W.base.get? D=none)(hn:D∉Rm)(VQ:∀o,s'.heap.get? D=some o->∀xs n,o.data≠.seq xs n)(hx:∃o,h'.get? D=some o)(hs:bX D s'.heap h')(X8:∀o,h'.get? D=some o->∀xs n,o.data≠.seq xs n)(hr:o4 W (Rm++[D]) h' o' D):Good W own φ s (σ'++[o']) (Rm++[D]) {s' with heap:=h',toks:=t}:=by
 have k:∀b o,b≠D->s'.heap.get? b=some o->h'.get? b=some o:=λb o hb e=>(hs.2 b hb).trans e
 have there:∀b o,s'.heap.get? b=some o->∃o',h'.get? b=some o':=λb o e=>by
  by_cases hb:b=D
  .subst hb;exact hx
  .exact⟨o,k b o hb e⟩
 have ev:pP [D] s'.heap h':=⟨there,λb o e hb=>⟨o.slots,k b o (by simpa using hb) e,λZ=>rfl⟩⟩
 have ap:Apart W Rm [D] s'.heap:=λb hb Z=>by
  rw[au.mp hb];exact⟨hw,.inr VQ⟩
 refine l8 x.grows λψ TY Uy=>?_;have g:Grows s.heap φ (Rm++[D]):=⟨ψ++[D],by rw[TY,ba],λa ha=>(aH.mp ha).elim (Uy a) λh=>by rw[au.mp h];exact hD⟩;refine⟨g,⟨λb o e=>?_,λb o e hb=>?_⟩,⟨λb o e=>k b o (λq=>by rw[q,hw] at e;cases e) (x.inv.base b o e),by simp [x.inv.len],?_,?_,λa ha=>let ⟨o,e⟩:=x.inv.hid a ha;there a o e,?_⟩,x.gens,x.os⟩
 .refine mF (x.evo.there b o e) λo1 e1=>?_;exact there b o1 e1
 .refine l8 (x.evo.keep b o e hb) λsl e1 q=>?_;exact⟨sl,k b _ (λq=>by rw[q,hD] at e;cases e) e1,q⟩
 .refine bV.mpr ⟨x.inv.nodup,by simp,λa ha b hb e=>?_⟩;rw[au.mp hb] at e;exact hn (e▸ha)
 .intro a ha
  rcases aH.mp ha with ha | ha
  .exact x.inv.new a ha
  .rw[au.mp ha];exact hw
 .intro n Sr c e1 e2
  rcases eR n σ'.length with hl | hl
  .rw[aJ hl] at e1;rw[aJ (x.inv.len.symm▸hl)] at e2;exact ((x.inv.rep n Sr c e1 e2).evo ev ap (.refl _ _) (λhm=>hn (by rw[<-au.mp hm];exact bq e2))).widen hw X8
  .have Sy:n=σ'.length:=(te hl e1).1;rw[Sy] at e1 e2;rw[am (e1.symm.trans eG),am (e2.symm.trans (x.inv.last D))];exact hr
end
section
variable {s:af}{P:Pg}
theorem CU(ok:nO W P)(i:Inv W φ σ s.heap){cv iv u:V}{x k:ae}{Q:Unit->af->Prop}(rc:mm W φ s.heap cv x)(ri:mm W φ s.heap iv k)(ry:mm W φ s.heap u y)(e:y1 σ cv iv u=some σ')(h:∀s',Good W [] φ s σ' φ s'->Q () s'):aM W.M A (setItem x k y) Q E s:=by
 refine l8 (bs e) λn h1 e=>?_;refine l8 (bs e) λj h2 e=>?_;refine l8 (bs e) λl h3 e=>?_;refine nt (nW e) λhlen RA=>?_;subst RA;have e1:=qN h3;rw[oK h1] at rc;rw[qm h2] at ri;refine l8 rc λa ha Rz=>?_;subst Rz;refine mJ ri λnm t hS RI=>?_;subst RI;refine l8 (i.rep n _ a e1 ha) λkvs hd rd=>?_;refine wpAny_setItem_pairs (gW _ _ nm t) hd (λh' hm hs=>?_) (by rw[rd.length];exact mY (bK hlen));have ev:=qw (W:=W) (φ:=φ) (s:=s) (bq ha) hs (qf hm);exact h _ (Good.set i e1 ha hs (qf hm) ⟨_,hm,(nq.set ok.nodup hS ry rd (rW hd)).evo ev.1 ev.2 (.refl _ _)⟩)
theorem DictOf.noSeq{a:al}(d:h.DictOf (strKind W.prog W.w) a kvs):∀o,h.get? a=some o->∀xs n,o.data≠.seq xs n:=λo e xs n q=>by
 refine mN d λo' Z Z e' Z hd Z=>?_;rw[e] at e';cases e';rw[hd] at q;cases q
theorem CR(i:Inv W φ σ s.heap)(h:∀Rm y s',Good W [] φ s (σ++[.dict []]) Rm s'->mm W Rm s'.heap (.obj σ.length) y->Q y s'):aM W.M A (eval (.Dict [] [] pos) env) Q E s:=by
 refine wpAny_Dict_empty (h (φ++[s.heap.objs.size]) _ _ (Good.alloc i _ _ rfl ⟨[],kG s.heap,rfl⟩) ?_);exact⟨_,i.last _,rfl⟩
end
noncomputable def mT(x:aa):Bool:=aG (motive_1:=λZ=>Bool) x (λZ Z Z=>true) (λZ Z Z=>true) (λZ Z Z Z=>true) (λZ Z Z=>true) (λZ Z Z Z=>true) (λZ Z Z Z=>true) (λZ Z Z=>true) (λZ Z Z=>true) (λZ Z Z Z=>true) (λZ Z Z Z=>true) (λZ Z Z Z Z=>true) (λZ Z Z Z=>true) (λZ Z=>true) (λZ Z=>true) (λZ Z=>true) (λZ Z Z Z=>true) (λZ Z Z Z=>true) (λZ Z Z Z=>true) (λZ Z=>true) (λZ Z Z=>true) (λZ Z Z=>true) (λZ Z Z=>true) (λZ Z=>false) (λZ Z=>true) (λZ Z=>true) (λZ Z Z=>true) (λZ Z Z Z=>true)
noncomputable def mW(es:List aa)(env:eA):List (Bool×jV ae):=es.map λe=>(false,eval e env)
theorem xO(env:eA)(es:List aa){e:aa}:mT e=true->jk (e::es) env=(false,eval e env)::jk es env:=by
 cases e<;>first | exact λZ=>rfl | exact ma
theorem y2(env:eA){es:List aa}:es.all mT=true->jk es env=mW es env:=by
 induction es with
 |nil=>exact λZ=>rfl
 |cons e es ih=>exact λh=>(xO env es (b2 h).1).trans (congrArg _ (ih (b2 h).2))
theorem pc(env:eA)(pos:cV){es:List aa}(h:es.all mT=true):backTo pos (jk es env)=mW es env:=by
 rw[y2 env h];unfold backTo mW;rw[cS];exact cz λe Z=>rfl
theorem oX(env:eA)(es:List aa):(mW es env).any (·.1)=false:=by
 unfold mW;rw[List.any_map];exact gZ.mpr λZ Z h=>ma h
theorem pt{M:gQ}{s:af}{f:ae}{es:List aa}{Q:Args->af->Prop}(h:aM M A (fZ (mW es env)) (λvs s'=>Q ⟨vs,[]⟩ s') E s):aM M A (evalArgs f true (mW es env) []) Q E s:=by
 cases es with
 |nil=>
  unfold evalArgs;show aM M A (fZ [] >>= _) Q E s;refine ai (b0 h (λvs s' h'=>?_) λZ Z x=>x);refine ai (aO ?_);refine bn ?_;exact ai (aO (ai (aO (aO h'))))
 |cons e es=>exact evalArgs_plain h
structure uL(A:bc)(l:List eA)(q:Bool)(d:Nat):Prop where
 frames:A.frames=some l
 depth:A.depth+3 * d+3<=dR
 units:A.units+20 * d+200<=jW
 handled:q=false->A.handled=none
def rD(W:Wd)(φ:List al)(s:af)(r:R Unit V)(R:dP->af->Prop):Prop:=
 match r with
 |.ok v σ'=>∀Rm y s',Good W [] φ s σ' Rm s'->mm W Rm s'.heap v y->R (.ok (.ret y)) s'
 |.exc _ σ'=>∀Rm e s',Good W [] φ s σ' Rm s'->nF W s.heap .none e s'.heap->R (.error (.ref e)) s'
 |.bad=>False
def sZ(fnA:Nat->al)(W:Wd)(d:Nat)(C:Bool->Call):Prop:=
 ∀{q:Bool} {f:Nat} {args:List V} {Rp:List ae} {A:bc} {l:List eA} {φ:List al} {σ:St} {s:af} {R:dP->af->Prop},
  uL A l q d->rN W φ s.heap l->Inv W φ σ s.heap->my W φ s.heap args Rp->rD W φ s (C q f args σ) R->fH W.M A (.call (.ref (fnA f)) ⟨Rp,[]⟩) R s
section
variable {W:Wd}{A:bc}{E:ae->af->Prop}{s:af}{φ:List al}{σ:St}{c:Cx}{ρ:mc}{d:Nat}{q:Bool}
theorem n0.pre(a:n0 A c q d):uL A (c.env₀::c.out) q d:=⟨a.frames,ac (aC (by decide:3<=5) _) a.depth,ac (aC (by decide:200<=210) _) a.units,a.handled⟩
theorem mi.toC{r:R Unit V}{R:dP->af->Prop}(h:mi W c φ s r (mm W) Q E)(h1:∀y s',Q y s'->R (.ok (.ret y)) s')(h2:∀e s',E e s'->R (.error e) s'):rD W φ s r R:=by
 cases r with
 |ok v σ'=>exact λRm y s' g rv=>h1 y s' (h Rm y s' g rv)
 |exc u σ'=>exact λRm x s' g fl=>h2 _ s' (h Rm x s' g fl.flying)
 |bad=>exact h
theorem zh{fnA:Nat->al}{C:Bool->Call}{f:Nat}{args:List V}(ck:sZ fnA W d C)(a:n0 A c q d)(H:mB W c ρ φ σ s)(r:my W φ s.heap args Rp)(h:mi W c φ s (C q f args σ) (mm W) Q E):aM W.M A (call (.ref (fnA f)) Rp) Q E s:=fX (ck a.pre H.frs H.inv r (h.toC (λZ Z h=>h) λZ Z h=>h))
theorem wi{o:Option α}{r:Option β}{y:β}(e:(if o.isNone then r else none)=some y):o=none/\r=some y:=by
 cases o with
 |none=>exact⟨rfl,e⟩
 |some _=>exact mr e
theorem tO{fnA:Nat->al}{f:Nat}{first:List ae}{es:List aa}(WG:∃o fd,W.base.get? (fnA f)=some o/\o.data=.func fd)(h:aM W.M A (fZ (mW es c.env)) (λvs s'=>W.base.StaysIn s'.heap/\aM W.M A (call (.ref (fnA f)) (first++vs)) Q E s') E s):aM W.M A (fG pos (.ref (fnA f)) first (mW es c.env) []) Q E s:=by
 refine mJ WG λo fd ho hd=>?_;exact callWith_function (o:=o) (fd:=fd) (pt (b0 h (λvs s' h'=>⟨⟨h'.1 _ _ ho,hd⟩,h'.2⟩) λZ Z e=>e))
theorem qA{id:String}{first:List ae}{es:List aa}(h:aM W.M A (fZ (mW es c.env)) (λvs s'=>aM W.M A (call (.builtin id) (first++vs)) Q E s') E s):aM W.M A (fG pos (.builtin id) first (mW es c.env) []) Q E s:=
 callWith_builtin (oX _ _) (pt h)
theorem oY{T:String}{first:List ae}{es:List aa}(h:aM W.M A (fZ (mW es c.env)) (λvs s'=>aM W.M A (call (.type T) (first++vs)) Q E s') E s):aM W.M A (fG pos (.type T) first (mW es c.env) []) Q E s:=
 PySem.callWith_type (oX _ _) (pt h)
noncomputable def Ey(f:aa):Bool:=aG (motive_1:=λZ=>Bool) f (λZ Z Z=>false) (λZ Z Z=>false) (λZ Z Z Z=>false) (λZ Z Z=>false) (λZ Z Z Z=>false) (λZ Z Z Z=>false) (λZ Z Z=>false) (λZ Z Z=>false) (λZ Z Z Z=>false) (λZ Z Z Z=>false) (λZ Z Z Z Z=>false) (λZ Z Z Z=>false) (λZ Z=>false) (λZ Z=>false) (λZ Z=>false) (λZ Z Z Z=>false) (λZ Z Z Z=>false) (λZ Z Z Z=>false) (λZ Z=>false) (λZ Z Z=>false) (λZ Z Z=>false) (λZ Z Z=>false) (λZ Z=>false) (λid Z=>id=="Kinds") (λZ Z=>false) (λZ Z Z=>false) (λZ Z Z Z=>false)
noncomputable def om(x:aa):Bool:=aG (motive_1:=λZ=>Bool) x (λZ Z Z=>true) (λZ Z Z=>true) (λZ Z Z Z=>true) (λZ Z Z=>true) (λZ Z Z Z=>true) (λZ Z Z Z=>true) (λZ Z Z=>true) (λZ Z Z=>true) (λZ Z Z Z=>true) (λZ Z Z Z=>true) (λZ Z Z Z Z=>true) (λZ Z Z Z=>true) (λZ Z=>true) (λZ Z=>true) (λZ Z=>true) (λZ Z Z Z=>true) (λf Z Z Z=>Ey f) (λZ Z Z Z=>true) (λZ Z=>true) (λZ Z Z=>true) (λZ Z Z=>true) (λZ Z Z=>true) (λZ Z=>true) (λZ Z=>true) (λZ Z=>true) (λZ Z Z=>true) (λZ Z Z Z=>true)
theorem BN{id:a9}{q p:cV}{xs:List aa}{ks:List jR}{nm:a9}{m:jV ae}(h:(id=="Kinds")=true):ej (.Call (.Name id q) xs ks p) nm env m=m:=by
 rw[eq_of_beq h]
 cases xs with
 |cons _ _=>rfl
 |nil=>cases ks<;>rfl
theorem Dl{o:aa}{nm:a9}{m:jV ae}:om o=true->ej o nm env m=m:=
 aG (motive_1:=λo=>om o=true->ej o nm env m=m) o (λZ Z Z Z=>rfl) (λZ Z Z Z=>rfl) (λZ Z Z Z Z=>rfl) (λZ Z Z Z=>rfl) (λZ Z Z Z Z=>rfl) (λZ Z Z Z Z=>rfl) (λZ Z Z Z=>rfl) (λZ Z Z Z=>rfl) (λZ Z Z Z Z=>rfl) (λZ Z Z Z Z=>rfl) (λZ Z Z Z Z Z=>rfl) (λZ Z Z Z Z=>rfl) (λZ Z Z=>rfl) (λZ Z Z=>rfl) (λZ Z Z=>rfl) (λZ Z Z Z Z=>rfl) (λf xs ks p=>aG (motive_1:=λf=>Ey f=true->ej (.Call f xs ks p) nm env m=m) f (λZ Z Z=>ma) (λZ Z Z=>ma) (λZ Z Z Z=>ma) (λZ Z Z=>ma) (λZ Z Z Z=>ma) (λZ Z Z Z=>ma) (λZ Z Z=>ma) (λZ Z Z=>ma) (λZ Z Z Z=>ma) (λZ Z Z Z=>ma) (λZ Z Z Z Z=>ma) (λZ Z Z Z=>ma) (λZ Z=>ma) (λZ Z=>ma) (λZ Z=>ma) (λZ Z Z Z=>ma) (λZ Z Z Z=>ma) (λZ Z Z Z=>ma) (λZ Z=>ma) (λZ Z Z=>ma) (λZ Z Z=>ma) (λZ Z Z=>ma) (λZ Z=>ma) (λZ Z h=>BN h) (λZ Z=>ma) (λZ Z Z=>ma) (λZ Z Z Z=>ma)) (λZ Z Z Z Z=>rfl) (λZ Z Z=>rfl) (λZ Z Z Z=>rfl) (λZ Z Z Z=>rfl) (λZ Z Z Z=>rfl) (λZ Z Z=>rfl) (λZ Z Z=>rfl) (λZ Z Z=>rfl) (λZ Z Z Z=>rfl) (λZ Z Z Z Z=>rfl)
theorem A2{o:aa}{nm:a9}(h:om o=true):ej o nm env (eval o env)=eval o env:=Dl h
theorem vQ{o:aa}{nm:a9}{args:List aa}(hb:om o=true)(hs:args.all mT=true)(hlen:args.length < 30)(Sf:(apos.endLine==pos.line)=true)(h:aM W.M A (eval o c.env) (λov Rn=>aM W.M A (eV ov nm (do return (<-jj o c.env).getD true)) (λp Rr=>aM W.M A (fG pos p.1 p.2 (mW args c.env) []) Q E Rr) E Rn) E s):
  aM W.M A (eval (.Call (.Attribute o nm apos) args [] pos) c.env) Q E s:=by
 rw[arm_eval_Call,A2 hb,pc _ _ hs];refine ai (b0 h (λov Rn Rq=>?_) λZ Z e=>e);refine ai (bQ ?_)
 have hform:gV (args.length+([]:List jR).length) (mW args c.env) (backToKw pos (ku [] c.env))=true:=by
  unfold gV
  have h1:(mW args c.env).all (λx=>!x.1)=true:=by
   unfold mW;rw[List.all_map];exact bh.mpr λZ Z=>rfl
  rw[h1];exact decide_eq_true hlen
 have hpos:iw true o c.env apos pos=pure pos:=by unfold iw;simp [Sf]
 unfold methodCall;rw[hform];refine ai (bn ?_);show aM W.M A (eV ov nm (do return (<-jj o c.env).getD true)) _ E Rn;refine b0 Rq (λp Rr RC=>?_) λZ Z e=>e;exact ai (gj hpos RC)
theorem CP{P:Pg}(ok:nO W P)(hK:K.In s.heap)(cf:∀c,pw K (W.cls c) attrs)(i:Inv W φ σ s.heap){v:V}{x:ae}{f:Nat}{nm:a9}{fa:al}{Q:ae×List ae->af->Prop}(hS:W.S[k]?=some nm)(r:mm W φ s.heap v x)(e:t9 P σ v k=some f)(hm:∀c,P.meth c k=some f->dQ K (.ref (W.cls c)) nm=some (some (.ref fa))/\jH K (.ref fa)=some (.type "function"))(h:Q (.ref fa,[x]) s):aM W.M A (eV x nm pl) Q E s:=by
 obtain ⟨n,c,d,l,rfl,e1,e2,e⟩:=oN e;obtain ⟨hg,e⟩:=wi e;refine vy (w5 i r e1 e2) λa b o kvs Ti io=>?_;subst Ti;have h':=hm c e
 exact method_fn hK io.I (cf c).ga (cf c).gat h'.1 h'.2 (by
  show (lO nm o).map (·.isSome)=_
  rw[io.hl nm,io.rd.getNone ok.nodup hS hg];rfl) h
def PlainAt(h:aQ)(T:String)(x:ae):Prop:=∃a o,x=.ref a/\h.get? a=some o/\o.cls=.type T/\o.dict=none
theorem qj(i:Inv W φ σ s.heap){v:V}{x:ae}(r:mm W φ s.heap v x)(e:(rm σ v).isSome=true):PlainAt s.heap "list" x:=by
 refine mF (bT.mp e) λl hl=>?_;refine mN (vA i r hl) λa xs k h1 Z Z ho=>?_;exact⟨a,_,h1,ho,rfl,rfl⟩
theorem AR.plain{x:ae}{l:List (Nat×V)}(d:AR W φ h x l):PlainAt h "dict" x:=by
 refine pH d λa kvs h1 Z SS Z=>?_;obtain ⟨o,es,ep,ho,hc,_⟩:=SS;exact⟨a,o,h1,ho,hc.1,hc.2.1⟩
theorem pu{x:ae}{T id:String}{name:a9}{Q:ae×List ae->af->Prop}(pa:PlainAttrs T)(sl:Slot T name id)(ty:typeOf (.builtin id)=pure (.type "method_descriptor"))(p:PlainAt s.heap T x)(hq:Q (.builtin id,[x]) s):
  aM W.M A (eV x name pl) Q E s:=by
 refine pH p λa o Rz ho hc hd=>?_;subst Rz;exact getMethod_builtin ⟨o,ho,hc⟩ pa sl ty (λa' q=>by cases q;exact⟨o,ho,hd⟩) hq
theorem Hr{P:Pg}(ok:nO W P)(i:Inv W φ σ s.heap){v:V}{x:ae}{m:BM}{Q:ae×List ae->af->Prop}(r:mm W φ s.heap v x)(e:IT σ m v=true)(h:Q (.builtin m.id,[x]) s):
  aM W.M A (eV x m.name pl) Q E s:=by
 have dct:(rE σ v).isSome=true->PlainAt s.heap "dict" x:=λhs=>(bT.mp hs).elim λl hl=>(qM ok.sys i r hl).plain
 cases m with
 |append=>exact pu eC jC F.type_list_append (qj i r e) h
 |pop0=>exact pu eC gk kE (qj i r e) h
 |pop1=>exact pu eC gk kE (qj i r e) h
 |insert=>exact pu eC jE F.type_list_insert (qj i r e) h
 |extend=>exact pu eC jD F.type_list_extend (qj i r e) h
 |update=>exact pu F.plainAttrs_dict jB F.type_dict_update ((bT.mp e).elim λl hl=>(vz ok.sys i r hl).plain) h
end
section
variable (P:Pg)(W:Wd)(c:Cx)(q:Bool)(A:bc)(C:Call)
def mz(e:MX)(x:aa):Prop:=∀⦃ρ:mc⦄ ⦃φ:List al⦄ ⦃σ:St⦄ ⦃s:af⦄ ⦃Q:ae->af->Prop⦄ ⦃E:ae->af->Prop⦄,
 mB W c ρ φ σ s->mi W c φ s (dE P q C e ρ σ) (mm W) Q E->aM W.M A (eval x c.env) Q E s
def oI(e:MX)(x:aa):Prop:=∀⦃ρ:mc⦄ ⦃φ:List al⦄ ⦃σ:St⦄ ⦃s:af⦄ ⦃Q:Bool->af->Prop⦄ ⦃E:ae->af->Prop⦄,
 mB W c ρ φ σ s->mi W c φ s (dT P q C e ρ σ) (λZ Z b b'=>b'=b) Q E->aM W.M A (isTrue x c.env (eval x c.env)) Q E s
class inductive nz:MX->List aa->Prop
 |nil:nz .nil []
 |cons {e es:MX} {x:aa} {xs:List aa}:mz P W c q A C e x->nz es xs->nz (.cons e es) (x::xs)
end
section
variable {P:Pg}{W:Wd}{c:Cx}{q:Bool}{A:bc}{C:Call}{ρ:mc}{φ:List al}{σ:St}{s:af}{E:ae->af->Prop}
theorem ui{xs:List aa}(x:nz P W c q A C es xs):∀{φ:List al} {σ:St} {s:af} {Q:List ae->af->Prop},mB W c ρ φ σ s->
  mi W c φ s (dL P q C es ρ σ) (my W) Q E->aM W.M A (fZ (mW xs c.env)) Q E s:=by
 induction x with
 |nil=>intro φ σ s Q H h;exact spliced_nil (h _ _ _ (.refl H.inv) .nil')
 |cons a b ih=>
  intro φ σ s Q H h;refine spliced_cons (a H (mi.bind h λv σ' Rm y s' Z g rv hk=>ih (H.good g) (mi.bind hk λl RY RN ys R3 Z g' rl hk'=>?_)));exact hk' _ _ _ (.refl g'.inv) (.cons' (g'.rep rv) rl)
theorem Lc{xs:List aa}(hs:xs.all mT=true)(a:nz P W c q A C es xs):mz P W c q A C (.tup es) (.Tuple xs k pos):=by
 intro ρ φ σ s Q E H h;show aM W.M A (do lP pos;newTuple (<-fZ (backTo pos (jk xs c.env)))) Q E s;rw[pc _ _ hs];refine ai (bQ (ai (ui a H (mi.bind h λl σ' Rm ys s' Z g rl hk=>?_))));exact AL g.inv rl hk.gd.1 λx R3 g' rx=>hk.gd.2 _ _ _ g' rx
theorem K7{m:Bool}{xs:List aa}(hs:xs.all mT=true)(a:nz P W c q A C es xs):mz P W c q A C (.lst m es) (.List xs pos):=by
 intro ρ φ σ s Q E H h;show aM W.M A (do lP pos;jY (<-fZ (backTo pos (jk xs c.env)))) Q E s;rw[pc _ _ hs];refine ai (bQ (ai (ui a H (mi.bind h λl σ' Rm ys s' Z g rl hk=>?_))));have hk2:=hk.gd.2
 cases m with
 |true=>exact CS g.inv rl hk.gd.1 λRN x R3 g' rx=>hk2 _ _ _ g' rx
 |false=>exact FI g.inv rl hk.gd.1 λx R3 g' rx=>hk2 _ _ _ g' rx
theorem I3(ok:nO W P)(hK:K.In W.base)(cf:∀c,pw K (W.cls c) attrs){nm:a9}{x:aa}(hb:om x=true)(hS:W.S[k]?=some nm)(hk:nm∈attrs)(a:mz P W c q A C e x):
  mz P W c q A C (.attr e k) (.Attribute x nm pos):=by
 intro ρ φ σ s Q E H h
 refine Attribute_any_ (a H (mi.bind h λv σ' Rm y s' Z g rv hk'=>?_)) (by
  show (do
   let o <-ej x nm c.env (eval x c.env)
   lP pos.atName
   let r <-jo [o] (getAttr o nm true)
   letTemporaryGo x o r
   pure r)=_
  rw[A2 hb])
 refine l8 hk'.of λu hu hk'=>?_;exact J3 (P:=P) ok (λa o e=>g.inv.base _ _ (hK a o e)) cf g.inv hS hk rv hu λz t rz=>hk' _ _ (Good.tok g.inv) rz
theorem KW(ok:nO W P){op:HD}(a:mz P W c q A C RO RJ)(b:mz P W c q A C RM RB):mz P W c q A C (.bin op RO RM) (.BinOp RJ op.py RB pos):=by
 intro ρ φ σ s Q E H h;refine wpAny_BinOp (a H (mi.bind h λv σ' Rm y s' Z g rv hk=>b (H.good g) (mi.bind hk λv' RY RN y' R3 Z g' S2 hk'=>?_)));refine l8 hk'.of λu hu hk'=>?_;exact Pl ok g'.inv (g'.rep rv) S2 hu λz s3 g3 rz=>hk' z s3 g3 rz
noncomputable def vu(x:aa):Bool:=aG (motive_1:=λZ=>Bool) x (λZ Z Z=>true) (λZ Z Z=>true) (λZ Z Z Z=>true) (λZ Z Z=>true) (λZ Z Z Z=>true) (λZ Z Z Z=>true) (λZ Z Z=>true) (λZ Z Z=>false) (λZ Z Z Z=>true) (λZ Z Z Z=>true) (λZ Z Z Z Z=>true) (λZ Z Z Z=>true) (λZ Z=>true) (λZ Z=>true) (λZ Z=>true) (λZ Z Z Z=>true) (λZ Z Z Z=>true) (λZ Z Z Z=>true) (λZ Z=>true) (λZ Z Z=>true) (λZ Z Z=>true) (λZ Z Z=>true) (λZ Z=>true) (λZ Z=>true) (λZ Z=>true) (λZ Z Z=>true) (λZ Z Z Z=>true)
theorem uw{op:CmpOp}{x:aa}:vu x=true->behindInMarks op x=false:=by
 cases x<;>first | exact λZ=>rfl | exact ma
theorem n0.u64(ar:n0 A c q d):A.units+64 < jW:=ao (bv (by decide:64 < 210) A.units) (ac (a8 (aA _ _) 210) ar.units)
theorem KY(ok:nO W P)(ar:n0 A c q d)(hn:vu RB=true)(a:mz P W c q A C RO RJ)(b:mz P W c q A C RM RB):
  mz P W c q A C (.cmp op RO RM) (.Compare RJ [op.py] [RB] pos):=by
 intro ρ φ σ s Q E H h;refine wpAny_Compare1 (a H (mi.bind h λv σ' Rm y s' Z g rv hk=>b (H.good g) (mi.bind hk λv' RY RN y' R3 Z g' S2 hk'=>?_))) (uw hn);refine l8 hk'.of λu hu hk'=>?_;refine l8 (ms hu) λr hr Rz=>?_;subst Rz;exact FA ok g'.inv ar.u64 (g'.rep rv) S2 hr λt=>hk' _ _ (Good.tok g'.inv) rfl
theorem Pa(ok:nO W P)(ar:n0 A c q d)(hn:vu RB=true)(a:mz P W c q A C RO RJ)(b:mz P W c q A C RM RB):
  oI P W c q A C (.cmp op RO RM) (.Compare RJ [op.py] [RB] pos):=by
 intro ρ φ σ s Q E H h;refine wpAny_isTrue_Compare1 (a H (mi.bind h λv σ' Rm y s' Z g rv hk=>b (H.good g) (mi.bind hk λv' RY RN y' R3 Z g' S2 hk'=>?_))) (uw hn);refine l8 hk'.of λu hu hk'=>?_;exact FA ok g'.inv ar.u64 (g'.rep rv) S2 hu λt=>dC (hk' _ _ (Good.tok g'.inv) rfl)
noncomputable def tA(x:aa):Bool:=aG (motive_1:=λZ=>Bool) x (λZ Z Z=>true) (λZ Z Z=>true) (λZ Z Z Z=>true) (λZ Z Z=>true) (λZ Z Z Z=>true) (λZ Z Z Z=>true) (λZ Z Z=>true) (λZ Z Z=>true) (λZ Z Z Z=>true) (λZ Z Z Z=>true) (λZ Z Z Z Z=>true) (λZ Z Z Z=>true) (λZ Z=>true) (λZ Z=>true) (λZ Z=>true) (λZ Z Z Z=>true) (λZ Z Z Z=>true) (λZ Z Z Z=>true) (λZ Z=>true) (λZ Z Z=>true) (λZ Z Z=>true) (λZ Z Z=>true) (λZ Z=>true) (λZ Z=>true) (λZ Z=>true) (λZ Z Z=>true) (λZ Z Z Z=>false)
theorem qy{i:aa}:tA i=true->∀a b:ae,ij i false a b=kX [a,b] (kU a b):=by
 cases i<;>first | exact λZ Z Z=>rfl | exact ma
theorem Hw(ok:nO W P)(i:Inv W φ σ s.heap){cv iv u:V}{x:ae}(rc:mm W φ s.heap cv x)(ri:mm W φ s.heap iv y)(e:oM P σ cv iv=some u)(hs:tA slice=true)(h:∀z t,mm W φ s.heap u z->Q z {s with toks:=t}):aM W.M A (gb value slice x y) Q E s:=by
 rcases mZ e with e | e
 .refine l8 (bs e) λj e1 e=>?_;refine l8 (bs e) λl hl hu=>?_;rw[m6 e1] at ri;refine mF ri λt RA=>?_;subst RA;exact J7 i rc hl hu (qy hs) λz rz=>h z s.toks rz
 .refine l8 (bs e) λk e1 e=>?_;refine l8 (bs e) λl hl hu=>?_;rw[qm e1] at ri;exact AH ok i rc hl ri hu (qy hs) h
theorem KZ(ok:nO W P)(hn:tA RB=true)(a:mz P W c q A C RO RJ)(b:mz P W c q A C RM RB):mz P W c q A C (.idx RO RM) (.Subscript RJ RB pos):=by
 intro ρ φ σ s Q E H h;refine Subscript_ (a H (mi.bind h λv σ' Rm y s' Z g rv hk=>b (H.good g) (mi.bind hk λv' RY RN y' R3 Z g' S2 hk'=>?_)));refine l8 hk'.of λu hu hk'=>?_;exact Hw ok g'.inv (g'.rep rv) S2 hu hn λz t rz=>hk' _ _ (Good.tok g'.inv) rz
theorem La{x:aa}(a:mz P W c q A C e x):mz P W c q A C (.not e) (.UnaryOp .Not x pos):=by
 intro ρ φ σ s Q E H h;refine wpAny_UnaryOp (a H (mi.bind h λv σ' Rm y s' Z g rv hk=>?_));refine l8 hk.of λu hu hk=>?_;refine l8 (ms hu) λb hb Rz=>?_;subst Rz;rw[pL hb] at rv;rw[show y=.bool b from rv];exact not_of (dC (hk _ _ (.refl g.inv) rfl))
end
section
variable {P:Pg}{W:Wd}{c:Cx}{q:Bool}{A:bc}{C:Call}{ρ:mc}{φ:List al}{σ:St}{s:af}{E:ae->af->Prop}
theorem JO(x:nz P W c q A C es []):es=.nil:=by
 cases x;rfl
theorem DD{xs:List aa}(X:nz P W c q A C es xs):∀{φ:List al} {σ:St} {s:af} {Q:ae->af->Prop},mB W c ρ φ σ s->
  mi W c φ s (PF P q C es ρ σ) (mm W) Q E->aM W.M A (boolOp pos .And (evalEach xs c.env)) Q E s:=by
 induction X with
 |nil=>intro φ σ s Q H h;exact h.elim
 |cons a r ih=>
  intro φ σ s Q H h
  cases r with
  |nil=>exact a H h
  |cons b r=>
   refine ai (a H (mi.bind h λv σ' Rm z s' Z g rv hk=>ai (bQ ?_)))
   cases hv:pe v with
   |none=>rw[hv] at hk;exact hk.elim
   |some bb=>
    rw[pL hv] at rv hk;rw[show z=.bool bb from rv];refine ai (bn (dC ?_))
    cases bb with
    |true=>exact ih (H.good g) hk
    |false=>exact aO (hk _ _ _ (.refl g.inv) rfl)
theorem Gi{xs:List aa}(X:nz P W c q A C es xs):∀{φ:List al} {σ:St} {s:af} {Q:ae->af->Prop},mB W c ρ φ σ s->
  mi W c φ s (Rd P q C es ρ σ) (mm W) Q E->aM W.M A (boolOp pos .Or (evalEach xs c.env)) Q E s:=by
 induction X with
 |nil=>intro φ σ s Q H h;exact h.elim
 |cons a r ih=>
  intro φ σ s Q H h
  cases r with
  |nil=>exact a H h
  |cons b r=>
   refine ai (a H (mi.bind h λv σ' Rm z s' Z g rv hk=>ai (bQ ?_)))
   cases hv:pe v with
   |none=>rw[hv] at hk;exact hk.elim
   |some bb=>
    rw[pL hv] at rv hk;rw[show z=.bool bb from rv];refine ai (bn (dC ?_))
    cases bb with
    |false=>exact ih (H.good g) hk
    |true=>exact aO (hk _ _ _ (.refl g.inv) rfl)
theorem KV{xs:List aa}(a:nz P W c q A C es xs):mz P W c q A C (.and es) (.BoolOp .And xs pos):=by
 intro ρ φ σ s Q E H h;exact DD a H h
theorem PQ{xs:List aa}(a:nz P W c q A C es xs):mz P W c q A C (.or es) (.BoolOp .Or xs pos):=by
 intro ρ φ σ s Q E H h;exact Gi a H h
theorem K6{TM:MX}{S5:aa}(t:oI P W c q A C TM S5)(a:mz P W c q A C RO RJ)(b:mz P W c q A C RM RB):mz P W c q A C (.ite TM RO RM) (.IfExp S5 RJ RB pos):=by
 intro ρ φ σ s Q E H h;refine wpAny_IfExp (t H (mi.bind h λv σ' Rm y s' Z g rv hk=>?_));subst rv
 cases y with
 |true=>exact a (H.good g) hk
 |false=>exact b (H.good g) hk
theorem Pc{x:aa}(t:oI P W c q A C e x):oI P W c q A C (.not e) (.UnaryOp .Not x pos):=by
 intro ρ φ σ s Q E H h;refine wpAny_isTrue_Not (t H (mi.bind h λv σ' Rm y s' Z g rv hk=>?_));subst rv;exact hk _ _ _ (.refl g.inv) rfl
theorem Pb{TM:MX}{S5:aa}(t:oI P W c q A C TM S5)(a:oI P W c q A C RO RJ)(b:oI P W c q A C RM RB):oI P W c q A C (.ite TM RO RM) (.IfExp S5 RJ RB pos):=by
 intro ρ φ σ s Q E H h;rw[arm_isTrue_IfExp];refine ai (t H (mi.bind h λv σ' Rm y s' Z g rv hk=>?_));subst rv
 cases y with
 |true=>exact a (H.good g) hk
 |false=>exact b (H.good g) hk
variable (P W c q A C) in
class inductive pA:MX->List aa->Prop
 |nil:pA .nil []
 |cons {e es:MX} {x:aa} {xs:List aa}:oI P W c q A C e x->pA es xs->pA (.cons e es) (x::xs)
theorem O7{xs:List aa}(X:pA P W c q A C es xs):∀{φ:List al} {σ:St} {s:af} {Q:Bool->af->Prop},mB W c ρ φ σ s->
  mi W c φ s (PE P q C es ρ σ) (λZ Z b b'=>b'=b) Q E->aM W.M A (allTrue .And xs c.env) Q E s:=by
 induction X with
 |nil=>intro φ σ s Q H h;exact wpAny_allTrue_And_nil (h _ _ _ (.refl H.inv) rfl)
 |cons a r ih=>
  intro φ σ s Q H h;refine wpAny_allTrue_And_cons (a H (mi.bind h λv σ' Rm y s' Z g rv hk=>?_));rw[rv]
  cases v with
  |true=>exact ih (H.good g) hk
  |false=>exact hk _ _ _ (.refl g.inv) rfl
theorem O9{xs:List aa}(X:pA P W c q A C es xs):∀{φ:List al} {σ:St} {s:af} {Q:Bool->af->Prop},mB W c ρ φ σ s->
  mi W c φ s (PG P q C es ρ σ) (λZ Z b b'=>b'=b) Q E->aM W.M A (allTrue .Or xs c.env) Q E s:=by
 induction X with
 |nil=>intro φ σ s Q H h;exact wpAny_allTrue_Or_nil (h _ _ _ (.refl H.inv) rfl)
 |cons a r ih=>
  intro φ σ s Q H h;refine wpAny_allTrue_Or_cons (a H (mi.bind h λv σ' Rm y s' Z g rv hk=>?_));rw[rv]
  cases v with
  |true=>exact hk _ _ _ (.refl g.inv) rfl
  |false=>exact ih (H.good g) hk
theorem O8{xs:List aa}(a:pA P W c q A C es xs):oI P W c q A C (.and es) (.BoolOp .And xs pos):=by
 intro ρ φ σ s Q E H h;exact jv (O7 a H h)
theorem QO{xs:List aa}(a:pA P W c q A C es xs):oI P W c q A C (.or es) (.BoolOp .Or xs pos):=by
 intro ρ φ σ s Q E H h;exact jv (O9 a H h)
noncomputable def ug(x:aa):Bool:=aG (motive_1:=λZ=>Bool) x (λZ Z Z=>false) (λZ Z Z=>true) (λZ Z Z Z=>true) (λo Z Z=>!decide (o=.Not)) (λZ Z Z Z=>true) (λZ Z Z Z=>false) (λZ Z Z=>true) (λZ Z Z=>true) (λZ Z Z Z=>true) (λZ Z Z Z=>true) (λZ Z Z Z Z=>true) (λZ Z Z Z=>true) (λZ Z=>true) (λZ Z=>true) (λZ Z=>true) (λZ Z Z Z=>false) (λZ Z Z Z=>true) (λZ Z Z Z=>true) (λZ Z=>true) (λZ Z Z=>true) (λZ Z Z=>true) (λZ Z Z=>true) (λZ Z=>true) (λZ Z=>true) (λZ Z=>true) (λZ Z Z=>true) (λZ Z Z Z=>true)
theorem tW{x:aa}{whole:jV ae}:ug x=true->isTrue x env whole=(do let v <-whole;lP x.pos;jo [v] (truthy v)):=by
 cases x with
 |UnaryOp op _ _=>cases op<;>first | exact λZ=>rfl | exact ma
 |_=>first | exact λZ=>rfl | exact ma
theorem Pe{x:aa}(hx:ug x=true)(a:mz P W c q A C e x)(heq:∀ρ σ,dT P q C e ρ σ=(dE P q C e ρ σ).bind λv σ=>R.of (pe v) σ):oI P W c q A C e x:=by
 intro ρ φ σ s Q E H h;rw[heq] at h;refine wpAny_isTrue_value (a H (mi.bind h λv σ' Rm y s' Z g rv hk=>?_)) (tW hx);refine l8 hk.of λb hb hk=>?_;rw[pL hb] at rv;rw[show y=.bool b from rv];exact dC (hk _ _ (.refl g.inv) rfl)
theorem Ke(i:Inv W φ σ s.heap){v v' u:V}{x:ae}(rv:mm W φ s.heap v x)(S2:mm W φ s.heap v' y)(e:EW σ v v'=some u){p:cV}(h:∀z s',Good W [] φ s σ φ s'->mm W φ s'.heap u z->Q z s'):
  aM W.M A (gb RJ (.Slice none (some RB) none p) x (.ref s.heap.objs.size)) Q E {s with heap:=s.heap.push {cls:=.type "slice",data:=.fields #[.none,y,.none]}}:=by
 have gp:=Good.push (own:=[]) i ({cls:=.type "slice",data:=.fields #[.none,y,.none]}:fq);have rv2:=gp.rep rv;refine l8 (bs e) λj e1 e=>?_;refine l8 (bs e) λl hl e=>?_;refine nt (nW e) λhj RA=>?_;subst RA;rw[m6 e1] at S2;refine mF S2 λt RA=>?_;subst RA;exact AN (A:=A) (E:=E) gp.inv rv2 hl ⟨hj.1,hj.2.1⟩ (lY s.heap .none (.int j t) .none) (λa b=>E8 a b) λz s3 g3 rz=>h z s3 (gp.trans g3) rz
theorem Jb(RO RM:MX){p:cV}(a:mz P W c q A C RO RJ)(b:mz P W c q A C RM RB):mz P W c q A C (.upto RO RM) (.Subscript RJ (.Slice none (some RB) none p) pos):=by
 intro ρ φ σ s Q E H h;refine Subscript_ (a H (mi.bind h λv σ' Rm y s' Z g rv hk=>?_))
 show aM W.M A (do
  let l <-(pure .none:jV ae)
  let u <-jo [l] (eval RB c.env)
  let s <-jo [l,u] (pure .none)
  lJ "slice" [l,u,s]) _ E s'
 refine ai (aO (ai (bn (b (H.good g) (mi.bind hk λv' RY RN y' R3 Z g' S2 hk'=>ai (bn (aO ?_)))))));refine l8 hk'.of λu hu hk2=>?_;exact dB (Ke g'.inv (g'.rep rv) S2 hu hk2) (by show 3<=bM+2;rw[dq];decide)
theorem Ja:mz P W c q A C (.lit .none) (.Constant .none k pos):=by
 intro ρ φ σ s Q E H h;exact wpAny_Constant_none (h _ _ _ (.refl H.inv) rfl)
theorem I4{b:Bool}:mz P W c q A C (.lit (.bool b)) (.Constant (.bool b) k pos):=by
 intro ρ φ σ s Q E H h;exact wpAny_Constant_bool (h _ _ _ (.refl H.inv) rfl)
theorem K0{i:Int}:mz P W c q A C (.lit (.int i)) (.Constant (.int i) k pos):=by
 intro ρ φ σ s Q E H h;exact jI (h _ _ _ (Good.tok H.inv) (⟨_,rfl⟩))
theorem K8{i:Int}{p:cV}:mz P W c q A C (.lit (.int (-i))) (.UnaryOp .USub (.Constant (.int i) k p) pos):=by
 intro ρ φ σ s Q E H h;refine wpAny_UnaryOp (jI (neg_int ?_));exact h _ _ _ (Good.tok H.inv) (⟨_,rfl⟩)
theorem Lb{x:a9}(hS:W.S[j]?=some x):mz P W c q A C (.lit (.sym j)) (.Constant (.str x) k pos):=by
 intro ρ φ σ s Q E H h;exact fo (h _ _ _ (Good.tok H.inv) (⟨_,_,hS,rfl⟩))
theorem Ld{i:Nat}{x:a9}(hc:isVar c.ck i x=true):mz P W c q A C (.var i) (.Name x pos):=by
 intro ρ φ σ s Q E H h;exact Pj hc H h
theorem I8(gl:oS G W mg mb){x:a9}(hk:G.nm.cn[k]?=some x)(hc:nv c.ck x=true):mz G.P W c q A C (.glob k) (.Name x pos):=by
 intro ρ φ σ s Q E H h;exact J2 gl hk hc H h
end
section
variable {P:Pg}{W:Wd}{c:Cx}{q:Bool}{A:bc}{C:Bool->Call}{d:Nat}{ρ:mc}{φ:List al}{σ:St}{s:af}{E:ae->af->Prop}{fnA:Nat->al}
theorem I5(gl:oS G W mg mb)(ck:sZ G.fnA W d C)(ar:n0 A c q d){f:Nat}{x:a9}{xs:List aa}{p:cV}(hk:G.nm.fnm[f]?=some (some x))(hc:nv c.ck x=true)(WG:∃o fd,W.base.get? (G.fnA f)=some o/\o.data=.func fd)(hs:xs.all mT=true)(a:nz P W c q A (C q) es xs):mz P W c q A (C q) (.call f es) (.Call (.Name x p) xs [] pos):=by
 intro ρ φ σ s Q E H h;refine eX (Fu gl hk hc H ?_);rw[pc _ _ hs];refine tO (first:=[]) WG (ui a H (mi.bind h λl σ' Rm ys s' Z g rl hk'=>⟨g.inv.base,?_⟩));exact zh ck ar (H.good g) rl hk'
theorem PO(gl:oS G W mg mb)(ok:nO W P)(ar:n0 A c q d){b:BI}{x:a9}{y:aa}{p:cV}(hx:x∈o5)(hb:gA x=some b.py)(hc:nv c.ck x=true)(hs:mT y=true)(a:mz P W c q A (C q) e y):mz P W c q A (C q) (.bi b e) (.Call (.Name x p) [y] [] pos):=by
 intro ρ φ σ s Q E H h;have h:=mi.gd h
 have hh:b.loud=true->A.handled=none:=λhl=>ar.handled (by
  have hq:=h.1;rw[hl,fh] at hq
  exact hq)
 refine eX (ul gl hx hb hc H ?_);rw[pc _ _ (show [y].all mT=true from b5.mpr ⟨hs,rfl⟩)]
 have body:aM W.M A (fZ (mW [y] c.env)) (λvs s'=>aM W.M A (call b.py vs) Q E s') E s:=
  spliced_cons (a H (mi.bind h.2 λv σ' Rm z s' Z g rv hk=>spliced_nil (QP ok (c:=c) hh g.inv rv hk)))
 cases b with
 |len=>exact qA (first:=[]) body
 |any=>exact qA (first:=[]) body
 |sorted m=>exact qA (first:=[]) body
 |list m=>exact oY (first:=[]) body
 |tuple=>exact oY (first:=[]) body
 |dict=>exact oY (first:=[]) body
 |str=>exact oY (first:=[]) body
theorem PP(ok:nO W P){m:BM}{x:aa}{xs:List aa}(hb:om x=true)(hs:xs.all mT=true)(hl:xs.length < 30)(Sf:(apos.endLine==pos.line)=true)(a:mz P W c q A (C q) e x)(r:nz P W c q A (C q) es xs):mz P W c q A (C q) (.bm m e es) (.Call (.Attribute x m.name apos) xs [] pos):=by
 intro ρ φ σ s Q E H h;refine vQ hb hs hl Sf (a H (mi.bind h λv σ' Rm y s' Z g rv hk=>?_));have hk:=mi.gd hk;exact Hr ok g.inv rv hk.1 (qA (ui r (H.good g) (mi.bind hk.2 λl RY RN ys R3 Z g' rl hk'=>QQ g'.inv (g'.rep rv) rl ok hk')))
theorem I9(ok:nO W P)(hK:K.In W.base)(cf:∀c,pw K (W.cls c) attrs)(ck:sZ fnA W d C)(ar:n0 A c q d){nm:a9}{x:aa}{xs:List aa}(hS:W.S[k]?=some nm)(hm:∀cl f,P.meth cl k=some f->(dQ K (.ref (W.cls cl)) nm=some (some (.ref (fnA f)))/\jH K (.ref (fnA f))=some (.type "function"))/\∃o fd,W.base.get? (fnA f)=some o/\o.data=.func fd)(hb:om x=true)(hs:xs.all mT=true)(hl:xs.length < 30)(Sf:(apos.endLine==pos.line)=true)(a:mz P W c q A (C q) e x)(r:nz P W c q A (C q) es xs):mz P W c q A (C q) (.meth e k es) (.Call (.Attribute x nm apos) xs [] pos):=by
 intro ρ φ σ s Q E H h;refine vQ hb hs hl Sf (a H (mi.bind h λv σ' Rm y s' Z g rv hk=>?_));refine l8 (mi.opt hk) λf hf hk=>?_;refine sQ (oN hf) λZ cl Z Z Z Z Z hcl=>?_;have hcl:=(wi hcl).2;refine CP (P:=P) (fa:=fnA f) ok (λa o e=>g.inv.base _ _ (hK a o e)) cf g.inv hS rv hf (λYE h'=>(hm YE f h').1) ?_;have H':=H.good g;refine tO (first:=[y]) (hm cl f hcl).2 (ui r H' (mi.bind hk λl RY RN ys R3 Z g' rl hk'=>⟨g'.inv.base,?_⟩));exact zh ck ar (H'.good g') (.cons' (g'.rep rv) rl) hk'
class inductive KeysAre(S:List a9):List Nat->List (Option aa)->Prop
 |nil:KeysAre S [] []
 |cons {k:Nat} {x:a9} {kd:Nat} {p:cV} {ks:List Nat} {keys:List (Option aa)}:S[k]?=some x->KeysAre S ks keys->KeysAre S (k::ks) (some (.Constant (.str x) kd p)::keys)
theorem KeysAre.all{keys:List (Option aa)}(h:KeysAre S ks keys):keys.all (·.isSome)=true:=by
 induction h with
 |nil=>rfl
 |cons _ _ ih=>exact ih
theorem KeysAre.length{keys:List (Option aa)}(h:KeysAre S ks keys):keys.length=ks.length:=by
 induction h with
 |nil=>rfl
 |cons _ _ ih=>exact congrArg jT ih
theorem Ha(ok:nO W P){Cq:Call}{xs:List aa}(X:nz P W c q A Cq es xs):∀{ks:List Nat} {keys:List (Option aa)},KeysAre W.S ks keys->ks.length=xs.length->
  ∀{φ:List al} {σ:St} {s:af} {Q:List (ae×ae)->af->Prop},mB W c ρ φ σ s->
  mi W c φ s (dL P q Cq es ρ σ) (λφ h l vs=>∃kvs,Carries (bw W.prog W.w) vs kvs/\nq W φ h (ks.zip l) kvs) Q E->aM W.M A (evalPairs (pairTrees keys xs c.env pos)) Q E s:=by
 induction X with
 |nil=>
  intro ks keys hx hk φ σ s Q H h
  cases hx with
  |cons _ _=>cases hk
  |nil=>exact evalPairs_nil (h _ _ _ (.refl H.inv) ⟨[],trivial,rfl⟩)
 |cons a r ih=>
  intro ks keys hx hk φ σ s Q H h
  cases hx with
  |nil=>cases hk
  |cons hS hx=>
   have gt:Good W [] φ s σ φ {s with toks:=s.toks+1}:=Good.tok H.inv;refine pairTrees_cons_walk (fo (a (H.good gt) (mi.bind (mi.step gt h) λv σ' Rm z s' Z g rv hk2=>?_)));refine ih hx (fD hk) ((H.good gt).good g) (mi.bind hk2 λl RY RN ps R3 Z g' rp WB=>?_);refine l8 rp λkvs hc rd=>?_;exact WB _ _ _ (.refl g'.inv) ⟨(_,z)::kvs,⟨gW _ _ _ _,rfl,hc⟩,.cons' hS (g'.rep rv) rd⟩
theorem mi.allot(h:mi W c φ s (wN ks l σ) (mm W) Q E):(ks.length=l.length/\ks.length<=8)/\mi W c φ s (zZ σ (.dict (nQ [] (ks.zip l)))) (mm W) Q E:=mi.gd h
theorem I6(ok:nO W P){Cq:Call}{keys:List (Option aa)}{xs:List aa}(a:nz P W c q A Cq es xs)(hk:ks.length=xs.length)(hlen:keys.length<=15)(hx:KeysAre W.S ks keys):mz P W c q A Cq (.dict ks es) (.Dict keys xs pos):=by
 intro ρ φ σ s Q E H h
 cases xs with
 |nil=>
  cases hx with
  |cons _ _=>cases hk
  |nil=>
   have e:=JO a;subst e;exact CR H.inv λRm y s' g r=>(mi.allot (ks:=[]) (l:=[]) h).2 Rm y s' g r
 |cons S5 xs=>
  have hne:keys≠[]:=λe=>by
   rw[e] at hx
   cases hx
   cases hk
  refine wpAny_Dict_walk (knd:=bw W.prog W.w) hx.all (hx.length.trans hk) hne hlen ?_;have gp:Good W [] φ s σ φ {s with heap:=s.heap.push ({cls:=.type "dict",data:=.dict #[]}:fq)}:=Good.push H.inv _;have hD:s.heap.get? s.heap.objs.size=none:=mG _;have hw:W.base.get? s.heap.objs.size=none:=sB H.inv.base hD;have UI:(s.heap.push ({cls:=.type "dict",data:=.dict #[]}:fq)).get? s.heap.objs.size=some ({cls:=.type "dict",data:=.dict #[]}:fq):=aU _ rfl;refine Ha ok a hx hk (H.good gp) (mi.bind (mi.step gp h) λl σ' Rm ps s' el g rp hk2=>?_);refine l8 rp λkvs hc rd=>?_;have Wy:s.heap.objs.size∉Rm:=g.grows.notin UI H.inv.size_notin.1;have Xl:s'.heap.get? s.heap.objs.size=some ({cls:=.type "dict",data:=.dict #[]}:fq):=g.evo.exact UI (by rw[aT];exact H.inv.size_notin.1) (by decide);refine⟨kvs,hc,⟨_,_,_,Xl,⟨rfl,rfl,rfl⟩,rfl,λe he=>absurd he (Array.not_mem_empty e),.nil,.nil⟩,λh' hm RQ=>?_⟩;have hex:=qf hm;have VQ:∃o,s'.heap.get? s.heap.objs.size=some o/\∀vs n,o.data≠.seq vs n:=⟨_,Xl,λvs n q=>by cases q⟩;have ev:=tF RQ hex
  have hr:o4 W (Rm++[s.heap.objs.size]) h' (.dict (nQ [] (ks.zip l))) s.heap.objs.size:=
   ⟨_,hm,((nq.merge ok.nodup (nq.nil':nq W Rm s'.heap [] []) .nil rd).evo ev (sE hw VQ) (.refl _ _)).widen hw (DictOf.noSeq hm)⟩
  have ga:=Good.adopt (t:=s'.toks+ps.length) (gp.trans g) _ hD hw Wy (λo e=>tx VQ e) hex RQ (DictOf.noSeq hm) hr;have h2:mi W c φ s ((R.ok l σ').bind λl σ=>wN ks l σ) (mm W) Q E:=el▸h;exact (mi.allot h2).2 _ _ _ ga ⟨_,g.inv.last _,rfl⟩
end
theorem Ar{i:Int}(h:-1000<=i/\i<=1000):(cq (toString i)).length<=5:=by
 have key:∀n:Nat,n<=1000->(cq (toString (n:Int))).length<=5/\(cq (toString (-(n:Int)))).length<=5:=by
  decide +kernel
 by_cases h0:0<=i
 .have:=(key i.toNat (jP.mpr h.2)).1
  rwa [cy h0] at this
 .have:=(key (-i).toNat (jP.mpr (jb h.1))).2;rw[cy (ip (iG (gK.mp h0))),Int.neg_neg] at this;exact this
theorem CE{i:Int}(h:-1000<=i/\i<=1000):i.natAbs.log2 < 1920:=by
 have k:i.natAbs<=1000:=by
  rcases Int.le_total 0 i with h0 | h0
  .exact bH.mp (Int.natAbs_of_nonneg h0▸h.2)
  .exact bH.mp (Int.ofNat_natAbs_of_nonpos h0▸jb h.1)
 exact aB (Nat.log2_le_self _) (aB k (by decide))
section
variable {P:Pg}{W:Wd}{c:Cx}{q:Bool}{A:bc}{C:Call}{d:Nat}{ρ:mc}{φ:List al}{σ:St}{s:af}{E:ae->af->Prop}{fnA:Nat->al}
theorem J9(ok:nO W P)(i:Inv W φ σ s.heap){v:V}{x:ae}(r:mm W φ s.heap v x)(e:Bt P v=some k)(hk:k<=1000)(h:∀y t tk,y.length<=k->Q (.str y t) {s with toks:=tk}):aM W.M A (formatField x a9.empty) Q E s:=by
 rcases mZ e with e | e
 .refine l8 (bs e) λj e1 e=>?_;refine nt (nW e) λhj RA=>?_;subst RA;rw[m6 e1] at r;refine mF r λt RA=>?_;subst RA;exact wpAny_formatField_int (CE hj) (h _ _ _ (Ar hj))
 .refine mJ (Fi ok r e) λt u Rz hl=>?_;subst Rz;exact wpAny_formatField_str (h t u s.toks hl) (h t _ _ hl) (ac (ac hl hk) (by rw[dq];decide))
class inductive n4:List aa->List aa->Nat->Prop
 |nil:n4 [] [] 0
 |str {x:a9} {kd:Nat} {p:cV} {r vs:List aa} {n:Nat}:n4 r vs n->n4 (.Constant (.str x) kd p::r) vs (n+x.length)
 |val {v:aa} {p:cV} {r vs:List aa} {n:Nat}:n4 r vs n->n4 (.FormattedValue v (-1) none p::r) (v::vs) n
theorem yB{a b:Nat}(e:a=b)(h:a+n+m<=bM):b<=bM:=e▸ac (ac (aA a n) (aA (a+n) m)) h
theorem G9(ok:nO W P){parts Rp:List aa}(X:n4 parts Rp n):∀{es:MX},nz P W c q A C es Rp->∀{φ:List al} {σ:St} {s:af} {acc:a9} {Q:a9->af->Prop},mB W c ρ φ σ s->
  acc.length+n+1000 * Rp.length<=bM->mi W c φ s (dF P q C es ρ σ) (λ_ _ k (out:a9)=>out.length<=acc.length+n+k) Q E->Joins W.M A E (evalEach parts c.env) acc Q s:=by
 induction X with
 |nil=>
  intro es a φ σ s acc Q H hl h
  cases a
  exact h _ _ _ (.refl H.inv) (aN _)
 |@str x kd p r vs n X ih=>
  intro es a φ σ s acc Q H hl h;have hx:(acc++x).length=acc.length+x.length:=ig _ _
  have e:acc.length+(n+x.length)=(acc++x).length+n:=by rw[hx,da,gz n]
  rw[e] at hl h;have gt:Good W [] φ s σ φ {s with toks:=s.toks+1}:=Good.tok H.inv;exact fo ⟨x,_,rfl,yB rfl hl,ih a (H.good gt) hl (mi.step gt h)⟩
 |@val v p r vs n X ih=>
  intro es a φ σ s acc Q H hl h
  cases a with
  |cons a b=>
   refine wpAny_FormattedValue_plain (a H (mi.bind h λu σ' Rm y s' Z g rv hk=>?_));refine l8 (mi.opt hk) λk hp hk=>?_;have hk:=mi.gd hk
   have hb:acc.length+k+n+1000 * vs.length<=bM:=by
    rw[be acc.length k n,be (acc.length+n) k];exact ac (aC hk.1 _) (ac (bB (da _ _ 1000)) hl)
   refine J9 ok g.inv rv hp hk.1 λz t tk hz=>?_;have hx:(acc++z).length=acc.length+z.length:=ig _ _;have hle:(acc++z).length<=acc.length+k:=hx▸aC hz _;have hb':(acc++z).length+n+1000 * vs.length<=bM:=ac (a8 (a8 hle n) _) hb;have gt:Good W [] Rm s' σ' Rm {s' with toks:=tk}:=Good.tok g.inv;refine⟨z,t,rfl,yB rfl hb',ih b ((H.good g).good gt) hb' (mi.bind (mi.step gt hk.2) λk2 RY RN out R3 Z g2 ho WB=>WB _ _ _ (.refl g2.inv) ?_)⟩;refine ac ho ?_;have:=a8 (a8 hle n) k2;refine ac this (bB ?_);rw[be acc.length,da (acc.length+n)]
theorem I7(ok:nO W P){parts Rp:List aa}(hp:n4 parts Rp n)(h2:2<=parts.length)(hn:n<=10000)(hv:Rp.length<=50)(a:nz P W c q A C es Rp):
  mz P W c q A C (.fstr n es) (.JoinedStr parts pos):=by
 intro ρ φ σ s Q E H h
 have hz:a9.empty.length+n+1000 * Rp.length<=bM:=by
  rw[dq];exact ac (bk ((dz n).symm▸hn) (bZ 1000 hv)) (by decide)
 cases parts with
 |nil=>cases h2
 |cons Uu r=>cases r with
  |nil=>exact absurd h2 (jg 1)
  |cons TT rest=>
   refine wpAny_JoinedStr (G9 ok hp a H hz (mi.bind h λk σ' Rm out s' Z g ho hk=>?_));have hk:=mi.gd hk;have UC:out.length<=n+k:=ac ho (bB (congrArg (·+k) (dz n)));exact⟨ac UC (mY hk.1),hk.2 _ _ _ (Good.tok g.inv) ⟨_,_,UC,rfl⟩⟩
end
theorem wC(rest:List ae)(kw:List (a9×ae))(C:al):(cR "type.__call__" ⟨.ref C::rest,kw⟩).weight<=2:=by
 have h1:(cR "type.__call__" ⟨.ref C::rest,kw⟩).frames=0:=by kernel_rfl
 have h2:(cR "type.__call__" ⟨.ref C::rest,kw⟩).isGuard=false:=by kernel_rfl
 have h3:(cR "type.__call__" ⟨.ref C::rest,kw⟩).isCaller=false:=by kernel_rfl
 unfold Code.weight;rw[h1,h2,h3]
 split<;>simp
theorem Fh(rest:List ae)(kw:List (a9×ae))(C:al):(cR "type.__call__" ⟨.ref C::rest,kw⟩).cUnits<=5:=by
 have h1:(cR "type.__call__" ⟨.ref C::rest,kw⟩).frames=0:=by kernel_rfl
 simp [Code.cUnits,h1]
theorem Hj(rest:List ae)(kw:List (a9×ae))(C:al):(cR "type.__call__" ⟨.ref C::rest,kw⟩).envs=[]:=by kernel_rfl
section
variable {P:Pg}{c:Cx}{q:Bool}{C:Bool->Call}{s:af}{fnA:Nat->al}
theorem ut{M:gQ}{C:al}(x:Makes M h C)(k:∀b o,h.get? b=some o->h'.get? b=some o):Makes M h' C:=by
 obtain ⟨⟨oc,od,cd,sl,hC,r⟩,b,c,d,e,f,g⟩:=x;exact⟨⟨oc,od,cd,sl,k _ _ hC,r⟩,b.keeps k,c.keeps k,d.keeps k,e.keeps k,f.keeps k,g.keeps k⟩
theorem vZ{cl:al}(mk:Makes W.M W.base cl){es:List aa}(h:aM W.M A (fZ (mW es c.env)) (λvs s'=>W.base.StaysIn s'.heap/\aM W.M A (call (.ref cl) vs) Q E s') E s):aM W.M A (fG pos (.ref cl) [] (mW es c.env) []) Q E s:=by
 unfold fG;refine ai (bn (pt (b0 h (λvs Rn Rq=>?_) λZ Z x=>x)));refine ai (bQ ?_);have mk':=ut mk Rq.1;obtain ⟨⟨oc,od,cd,sl,hC,_⟩,_,_,_,_,SO,_⟩:=mk';rw[oX];refine ai ?_;unfold keeperOf;refine ai (lj hC ?_);refine ai (SO.here (aO ?_));rw[if_pos (by simp)];exact ai (b0 Rq.2 (λr Rr hr=>ai (bn (jm (aO hr)))) λZ Z x=>x)
theorem Ew(i:Inv W φ σ s.heap)(k:Nat):
  Good W own φ s (σ++[.dict [],.inst k σ.length]) (φ++[s.heap.objs.size]++[(s.heap.push eU).objs.size]) {s with heap:=(s.heap.push eU).push (instObj W k s.heap.objs.size)}/\
   mm W (φ++[s.heap.objs.size]++[(s.heap.push eU).objs.size]) ((s.heap.push eU).push (instObj W k s.heap.objs.size)) (.obj (σ.length+1)) (.ref (s.heap.objs.size+1)):=by
 have g1:Good W own φ s (σ++[.dict []]) (φ++[s.heap.objs.size]) {s with heap:=s.heap.push eU}:=Good.alloc i eU (.dict []) rfl ⟨[],kG s.heap,rfl⟩;have hlen:=i.last s.heap.objs.size
 have g2:Good W own (φ++[s.heap.objs.size]) {s with heap:=s.heap.push eU} (σ++[.dict []]++[.inst k σ.length]) (φ++[s.heap.objs.size]++[(s.heap.push eU).objs.size]) {s with heap:=(s.heap.push eU).push (instObj W k s.heap.objs.size)}:=
  Good.alloc g1.inv (instObj W k s.heap.objs.size) (.inst k σ.length) rfl ⟨s.heap.objs.size,by rw[aJ (nB hlen)];exact hlen,aU _ rfl⟩
 have e:σ++[.dict []]++[.inst k σ.length]=σ++[.dict [],.inst k σ.length]:=ba ..;have hl:=g1.inv.last (s.heap.push eU).objs.size;rw[ah] at hl;exact⟨e▸g1.trans g2,_,hl,congrArg cI (ct ..).symm⟩
theorem CL(ar:n0 A c q d){cl:al}:uL (A.under (cR "type.__call__" ⟨[.ref cl],[]⟩)) (c.env₀::c.out) q d:=by
 have hw:=wC [] [] cl;have hu:=Fh [] [] cl;refine⟨?_,?_,?_,ar.handled⟩
 .show pushEnvs (cR "type.__call__" ⟨[.ref cl],[]⟩).envs A.frames=_;rw[Hj];exact ar.frames
 .show A.depth+(cR "type.__call__" ⟨[.ref cl],[]⟩).weight+_+3<=_;exact PK hw ar.depth
 .show A.units+(cR "type.__call__" ⟨[.ref cl],[]⟩).cUnits+_+200<=_;exact PL hu ar.units
theorem K9(gl:oS G W mg mb)(hK:K.In W.base)(ck:sZ fnA W d C)(ar:n0 A c q d){f:Nat}{x:a9}{p:cV}(hk:G.nm.cnm[k]?=some x)(hc:nv c.ck x=true)(hi:P.init k=some f)(hm:makesIn K (W.cls k)=true)(TF:dQ K (.ref (W.cls k)) "__init__" = some (some (.ref (fnA f))))(hf:jH K (.ref (fnA f))=some (.type "function")):
  mz P W c q A (C q) (.new k) (.Call (.Name x p) [] [] pos):=by
 intro ρ φ σ s Q E H h;refine l8 (mi.opt h) λf' TG h=>?_;obtain rfl:f=f':=am (hi.symm.trans TG);refine eX (CM gl hk hc H ?_);have mk:=makes_of (M:=W.M) hK hm;refine vZ (c:=c) (es:=[]) mk (spliced_nil ⟨H.inv.base,?_⟩);obtain ⟨hh,g,dr,t,os⟩:=s;have hKs:K.In hh:=λa o e=>H.inv.base _ _ (hK a o e);refine fX (make_core (ut mk H.inv.base) (looks_findIn hKs TF) (λself=>bind_fn hKs self hf) (.inl rfl) ?_);have nw:=Ew (own:=[]) (s:=⟨hh,g,dr,t,os⟩) H.inv k;have H2:=H.good nw.1;refine ck (q:=q) (f:=f) (args:=[.obj (σ.length+1)]) (CL ar) H2.frs H2.inv (.one nw.2) ?_;refine mi.toC (c:=c) (mi.bind (mi.step nw.1 h) (Q₁:=λy s'=>y=.none/\Q (.ref (hh.objs.size+1)) s') λv σ' Rm y s' Z g3 rv hk=>?_) (λZ Z h=>⟨h.1,h.2⟩) λZ Z h=>h
 cases v with
 |none=>exact⟨rv,hk Rm _ s' (.refl g3.inv) (g3.rep nw.2)⟩
 |_=>exact hk.elim
end
def Step(M:gQ)(A:bc)(target:aa)(I:al)(Qn:af->Prop)(Qs E:ae->af->Prop)(s:af):Prop:=
 aM M A (lg (.ref I)) (λr Rn=>match r with | none=>Qn Rn | some y=>aM M A (gr target (.ref I) y) (λZ Rr=>Qs y Rr) E Rn) E s
structure oV(W:Wd)(A:bc)(target:aa)(it:It)(I:al)(F D:List al)(T:Nat->List al->aQ->Prop):Prop where
 out:∀{i:Nat} {φ:List al} {h:aQ},T i φ h->∀b∈F,b∉φ/\W.base.get? b=none/\∃o,h.get? b=some o/\o.cls≠.type "frame" /\ (b∈W.hid\/∀xs n,o.data≠.seq xs n)
 sub:∀b∈D,b∈F
 keep:∀{i:Nat} {φ Rm X:List al} {h h':aQ},T i φ h->pP X h h'->Apart W φ X h->Grows h φ Rm->(∀b∈F,b∉X)->T i Rm h'
 next:∀{i:Nat} {φ:List al} {σ:St} {s:af} {v:V} {Qn:af->Prop} {Qs:ae->af->Prop} {E:ae->af->Prop},T i φ s.heap->Inv W φ σ s.heap->it.at i σ=some (some v)->
  (∀y h' tk,Good W F φ s σ φ {s with heap:=h',toks:=tk}->mm W φ h' v y->T (i+1) φ h'->Qs y {s with heap:=h',toks:=tk})->Step W.M A target I Qn Qs E s
 done:∀{i:Nat} {φ:List al} {σ:St} {s:af} {Qn:af->Prop} {Qs:ae->af->Prop} {E:ae->af->Prop},T i φ s.heap->Inv W φ σ s.heap->it.at i σ=some none->
  (∀h' tk,(∀b o,b∉D->s.heap.get? b=some o->h'.get? b=some o)->Qn {s with heap:=h',toks:=tk})->Step W.M A target I Qn Qs E s
 self:∀{i:Nat} {φ:List al} {s:af} {Q:ae->af->Prop} {E:ae->af->Prop},T i φ s.heap->Q (.ref I) s->aM W.M A (iQ (.ref I)) Q E s
section
variable {W:Wd}{A:bc}{E:ae->af->Prop}{s:af}{φ:List al}{σ:St}
theorem Good.writes(i:Inv W φ σ s.heap){t:Nat}(hF:∀b∈F,b∉φ/\W.base.get? b=none/\(b∈W.hid\/∀o,s.heap.get? b=some o->∀xs n,o.data≠.seq xs n))(k:∀b o,b∉F->s.heap.get? b=some o->h'.get? b=some o)(th:∀b∈F,∃o,h'.get? b=some o):Good W F φ s σ φ {s with heap:=h',toks:=t}/\pP F s.heap h'/\Apart W φ F s.heap:=by
 have ev:pP F s.heap h':=by
  refine⟨λb o e=>?_,λb o e hb=>⟨o.slots,k b o hb e,λZ=>rfl⟩⟩
  by_cases hb:b∈F
  .exact th b hb
  .exact⟨o,k b o hb e⟩
 have ap:Apart W φ F s.heap:=λb hb Z=>⟨(hF b hb).2.1,(hF b hb).2.2⟩;refine⟨⟨.refl _ _,ev.mono λb hb=>bA _ hb,i.evo ev ap (λa ha hm=>(hF a hm).1 ha) (λb o e=>k b o (λhm=>by rw[(hF b hm).2.1] at e;cases e) (i.base b o e)),rfl,rfl⟩,ev,ap⟩
theorem rY{n:String}{Q:Unit->af->Prop}(ho:s.heap.get? I=some o)(hc:o.cls=.type n)(hn:(["enumerate", "zip", "dict_itemiterator", "dict_reverseitemiterator", "odict_iterator", "itertools.zip_longest", "itertools.pairwise"].contains n)=false)(h:Q () s):aM W.M A (gr target (.ref I) y) Q E s:=by
 have body:aM W.M A (do
   let (.ref r,.ref a):=(cI I,y) | return
   let o <-load r
   match o.cls,o.data with
   |.type n,.fields vs=>
    if ["enumerate", "zip", "dict_itemiterator", "dict_reverseitemiterator", "odict_iterator", "itertools.zip_longest", "itertools.pairwise"].contains n&&vs[0]?==some (cU a) then
     rule "for.unpacks-the-owned-tuple"
     updateField r 0 .none
   |_,_=>pure ()) Q E s:=by
  cases y with
  |ref a=>
   refine ai (lj ho ?_);rw[hc]
   cases o.data<;>first | exact aO h | (dsimp only;rw[hn];exact aO h)
  |_=>exact aO h
 cases target<;>first | exact aO h | exact body
def zt(h:aQ)(b:al):Prop:=∃o,h.get? b=some o/\o.cls≠.type "frame" /\ ∀xs n,o.data≠.seq xs n
theorem zt.of{n:String}(e:h.get? b=some o)(c:o.cls=.type n)(d:o.data=.fields vs)(hn:n≠"frame"):zt h b:=
 ⟨o,e,λq=>hn (fF (c.symm.trans q)),λxs m q=>by rw[d] at q;cases q⟩
theorem oQ{t:al}{i:Nat}(x:h.IsListIter I t i):zt h I:=by
 refine mM x λo e c d=>?_;exact .of e c d (by decide)
theorem qz{t:al}{i:Nat}(x:h.IsTupleIter I t i):zt h I:=by
 refine mM x λo e c d=>?_;exact .of e c d (by decide)
theorem xc{t:al}{i:Nat}(x:h.IsListIter I t i)(ev:pP X h h')(hI:I∉X):h'.IsListIter I t i:=by
 refine mM x λo e c d=>?_;exact⟨o,ev.exact e hI (by rw[c];decide),c,d⟩
theorem BA{t:al}{i:Nat}(x:h.IsTupleIter I t i)(ev:pP X h h')(hI:I∉X):h'.IsTupleIter I t i:=by
 refine mM x λo e c d=>?_;exact⟨o,ev.exact e hI (by rw[c];decide),c,d⟩
theorem zt.there(x:zt h b):∃o,h.get? b=some o:=by
 refine l8 x λo e Z=>?_;exact⟨o,e⟩
theorem zt.none(x:zt h b)(e:h.get? b=some o):∀xs n,o.data≠.seq xs n:=by
 refine mM x λo' e' Z q=>?_;rw[<-am (e'.symm.trans e)];exact q
theorem zt.out(x:zt h b)(h1:b∉φ)(h2:W.base.get? b=.none):b∉φ/\W.base.get? b=.none/\∃o,h.get? b=some o/\o.cls≠.type "frame" /\ (b∈W.hid\/∀xs n,o.data≠.seq xs n):=by
 refine mM x λo e c q=>?_;exact⟨h1,h2,o,e,c,.inr q⟩
theorem zt.notin(x:zt h b)(g:Grows h φ Rm)(h1:b∉φ):b∉Rm:=by
 refine l8 x λo e Z=>?_;exact g.notin e h1
structure wL(W:Wd)(φ:List al)(h:aQ)(t:al)(f:Nat->fq):Prop where
 out:t∉φ/\t∉W.hid
 at_:∃n,h.get? t=some (f n)
theorem wL.evo{t:al}{f:Nat->fq}(x:wL W φ h t f)(ev:pP X h h')(ap:Apart W φ X h)(g:Grows h φ Rm)(hf:∀n,(∃xs m,(f n).data=.seq xs m)/\(f n).cls≠.type "frame"):wL W Rm h' t f:=by
 obtain ⟨h2,n,e⟩:=x;exact⟨⟨g.notin e h2.1,h2.2⟩,n,ev.exact e (ap.seq h2 e (hf n).1) (hf n).2⟩
theorem yt(n:Nat):(∃ys m,(uK xs n).data=.seq ys m)/\(uK xs n).cls≠.type "frame" := ⟨⟨_,_,rfl⟩,rH⟩
theorem yr(n:Nat):(∃ys m,(pp xs n).data=.seq ys m)/\(pp xs n).cls≠.type "frame" := ⟨⟨_,_,rfl⟩,o8⟩
theorem all1{p:al->Prop}{a:al}(h:p a):∀b∈[a],p b:=λb hb=>by rw[au.mp hb];exact h
theorem Cf{a:al}(h:b∉[a]):b≠a:=λq=>h (au.mpr q)
theorem rt(inv:Inv W φ σ s.heap){t:Nat}(x:zt s.heap I)(h1:I∉φ)(hI:W.base.get? I=none)(x':zt h' I)(hs:bX I s.heap h'):
  Good W [I] φ s σ φ {s with heap:=h',toks:=t}/\pP [I] s.heap h'/\Apart W φ [I] s.heap:=
 Good.writes inv (all1 ⟨h1,hI,.inr λo e=>x.none e⟩) (λb o hb e=>(hs.2 b (Cf hb)).trans e) (all1 x'.there)
theorem wW(r:my W φ h l xs){i:Nat}(e:l[i]?=none):xs.toArray[i]?=none:=by
 rw[fO,dy,r.length];exact dy.mp e
structure FZ(W:Wd)(I t:al)(f:Nat->fq)(It:aQ->Nat->Prop)(l:List V)(xs:List ae)(i:Nat)(φ:List al)(h:aQ):Prop where
 out:I∉φ
 held:wL W φ h t f
 it:It h i
 rep:my W φ h l xs
theorem src_tuple(hh:A.handled=none){t:al}(hI:W.base.get? I=none)(VL:t≠I):
  oV W A target (.items l) I [I] [I] (FZ W I t (uK xs) (λh i=>h.IsTupleIter I t i) l xs) where
 out:=λT=>all1 ((qz T.it).out T.out hI)
 sub:=λb hb=>hb
 keep:=λT ev ap g hF=>⟨(qz T.it).notin g T.out,T.held.evo ev ap g yt,BA T.it ev (hF I ax),T.rep.evo ev ap g⟩
 next:=by
  intro i φ σ s v Qn Qs E T inv RP hq;obtain ⟨h1,⟨h2,n,e2⟩,hit,r⟩:=T;refine l8 (r.get (am RP)) λy hy ry=>?_;refine wpAny_pyNext_tuple_item hit ⟨_,e2,rfl,n,rfl⟩ (FS hy) λh' Sa RQ=>?_;have w:=rt (t:=s.toks) inv (qz hit) h1 hI (qz Sa) RQ;have q:=hq y h' s.toks w.1 (ry.evo w.2.1 w.2.2 (.refl _ _)) ⟨h1,⟨h2,n,(RQ.2 t VL).trans e2⟩,Sa,r.evo w.2.1 w.2.2 (.refl _ _)⟩;refine mM Sa λo' e' c' d'=>?_;exact rY e' c' (by decide) q
 done:=by
  intro i φ σ s Qn Qs E T inv RP hq;obtain ⟨h1,⟨h2,n,e2⟩,hit,r⟩:=T;exact wpAny_pyNext_tuple_end hh hit ⟨_,e2,rfl,n,rfl⟩ (wW r (am RP)) λh' he=>hq h' s.toks λb o hb e=>he b o (Cf hb) e
 self:=by
  intro i φ s Q E T hq;have hit:=T.it;refine j0 hit.typeIs gJ (c7 gJ hit.typeIs F.entry_tuple_iterator_iter ?_ (F.args_tuple_iterator_iter_1 _));show aM _ _ (ret (.ref I)) _ _ s;exact aO ⟨_,rfl, "tuple_iterator",_,hit.typeIs,eK.lookup,hq⟩
theorem src_list(hh:A.handled=none){t:al}(hI:W.base.get? I=none)(VL:t≠I):
  oV W A target (.items l) I [I] [I] (FZ W I t (pp xs) (λh i=>h.IsListIter I t i) l xs) where
 out:=λT=>all1 ((oQ T.it).out T.out hI)
 sub:=λb hb=>hb
 keep:=λT ev ap g hF=>⟨(oQ T.it).notin g T.out,T.held.evo ev ap g yr,xc T.it ev (hF I ax),T.rep.evo ev ap g⟩
 next:=by
  intro i φ σ s v Qn Qs E T inv RP hq;obtain ⟨h1,⟨h2,n,e2⟩,hit,r⟩:=T;refine l8 (r.get (am RP)) λy hy ry=>?_;refine iR hit ⟨_,e2,rfl,n,rfl⟩ (FS hy) λh' Sa RQ=>?_;have w:=rt (t:=s.toks) inv (oQ hit) h1 hI (oQ Sa) RQ;have q:=hq y h' s.toks w.1 (ry.evo w.2.1 w.2.2 (.refl _ _)) ⟨h1,⟨h2,n,(RQ.2 t VL).trans e2⟩,Sa,r.evo w.2.1 w.2.2 (.refl _ _)⟩;refine mM Sa λo' e' c' d'=>?_;exact rY e' c' (by decide) q
 done:=by
  intro i φ σ s Qn Qs E T inv RP hq;obtain ⟨h1,⟨h2,n,e2⟩,hit,r⟩:=T;exact i7 hh hit ⟨_,e2,rfl,n,rfl⟩ (wW r (am RP)) λh' he=>hq h' s.toks λb o hb e=>he b o (Cf hb) e
 self:=λT hq=>i6 T.it hq
structure HK(I t:al)(n i:Nat)(φ:List al)(h:aQ):Prop where
 out:I∉φ
 at_:φ[n]?=some t
 it:h.IsListIter I t i
theorem Fd(hh:A.handled=none){t:al}(hI:W.base.get? I=none)(VL:t≠I):
  oV W A target (.live n) I [I] [I] (HK I t n) where
 out:=λT=>all1 ((oQ T.it).out T.out hI)
 sub:=λb hb=>hb
 keep:=λT ev ap g hF=>⟨(oQ T.it).notin g T.out,g.get T.at_,xc T.it ev (hF I ax)⟩
 next:=by
  intro i φ σ s v Qn Qs E T inv RP hq;obtain ⟨h1,h2,hit⟩:=T;refine l8 (ms RP) λl hl RP=>?_;refine mI (inv.rep n _ t (listAt_eq hl) h2) λxs m hz e2 r=>?_;refine l8 (r.get RP) λy hy ry=>?_;refine iR hit ⟨_,e2,rfl,m,rfl⟩ (FS hy) λh' Sa RQ=>?_;have w:=rt (t:=s.toks) inv (oQ hit) h1 hI (oQ Sa) RQ;have q:=hq y h' s.toks w.1 (ry.evo w.2.1 w.2.2 (.refl _ _)) ⟨h1,h2,Sa⟩;refine mM Sa λo' e' c' d'=>?_;exact rY e' c' (by decide) q
 done:=by
  intro i φ σ s Qn Qs E T inv RP hq;obtain ⟨h1,h2,hit⟩:=T;refine l8 (ms RP) λl hl RP=>?_;refine mI (inv.rep n _ t (listAt_eq hl) h2) λxs m hz e2 r=>?_;exact i7 hh hit ⟨_,e2,rfl,m,rfl⟩ (wW r RP) λh' he=>hq h' s.toks λb o hb e=>he b o (Cf hb) e
 self:=λT hq=>i6 T.it hq
structure C8(I:al)(a:Int)(k:Nat)(st:Int)(i:Nat)(φ:List al)(h:aQ):Prop where
 out:I∉φ
 le:i<=k
 it:IsRangeIter h I (a+st * i) ((k:Int) - i) st
theorem uR{a b c:Int}(x:IsRangeIter h I a b c):zt h I:=.of x rfl rfl (by decide)
theorem wr{a st:Int}{i:Nat}{w:Option V}(e:(It.items ((az k).map λ(i:Nat)=>V.int (a+st * i))).at i σ=some w):(i < k/\w=some (.int (a+st * i)))\/(k<=i/\w=none):=by
 have e:((az k).map λ(i:Nat)=>V.int (a+st * i))[i]?=w:=am e;rw[cB] at e
 rcases eR i k with hik | hik
 .rw[gx hik] at e;exact .inl ⟨hik,e.symm⟩
 .rw[cA (by rw[aR];exact hik)] at e;exact .inr ⟨hik,e.symm⟩
theorem src_range(hh:A.handled=none){a:Int}{st:Int}(hI:W.base.get? I=none):
  oV W A target (.items ((az k).map λ(i:Nat)=>V.int (a+st * i))) I [I] [I] (C8 I a k st) where
 out:=λT=>all1 ((uR T.it).out T.out hI)
 sub:=λb hb=>hb
 keep:=λT ev ap g hF=>⟨(uR T.it).notin g T.out,T.le,ev.exact T.it (hF I ax) (λq=>absurd (fF q) (by decide))⟩
 next:=by
  intro i φ σ s v Qn Qs E T inv RP hq;obtain ⟨h1,h2,hit⟩:=T
  rcases wr RP with ⟨hik,e⟩ | ⟨_,e⟩
  .rw[am e] at hq;refine wpAny_pyNext_range_item hit (Int.sub_pos_of_lt (c8.mpr hik)) λh' Sa RQ=>?_;have w:=rt (t:=s.toks+1) inv (uR hit) h1 hI (uR Sa) RQ
   have a1:a+st * ((i+1:Nat):Int)=a+st * (i:Int)+st:=by rw[kJ,Int.mul_add,Int.add_assoc];exact congrArg _ (congrArg _ (Int.mul_one st))
   have a2:((k:Int) - ((i+1:Nat):Int))=(k:Int) - i - 1:=by rw[kJ,Int.sub_sub];rfl
   exact rY Sa rfl (by decide) (hq _ h' (s.toks+1) w.1 ⟨_,rfl⟩ ⟨h1,hik,by rw[a1,a2];exact Sa⟩)
  .cases e
 done:=by
  intro i φ σ s Qn Qs E T inv RP hq;obtain ⟨h1,h2,hit⟩:=T
  rcases wr RP with ⟨_,e⟩ | ⟨hik,_⟩
  .cases e
  .exact wpAny_pyNext_range_end hh hit (Int.sub_nonpos_of_le (bH.mpr hik)) λh' he=>hq h' s.toks λb o hb e=>he b o (Cf hb) e
 self:=by
  intro i φ s Q E T hq;have hit:=T.it;have hT:s.TypeIs (.ref I) "range_iterator" := ⟨_,hit,rfl⟩;refine j0 hT gI (c7 gI hT F.entry_range_iterator_iter ?_ (F.args_range_iterator_iter_1 _));show aM _ _ (ret (.ref I)) _ _ s;exact aO ⟨_,rfl, "range_iterator",_,hT,F.slot_range_iterator_next.lookup,hq⟩
end
def rC(W:Wd)(φ:List al)(h:aQ):Fl->fQ->Prop
 |.next,f=>f=.next
 |.ret v,f=>∃y,f=.ret y/\mm W φ h v y
def mq(W:Wd)(c:Cx)(own φ:List al)(s:af)(r:R mc (Fl×mc))(Q:fQ->af->Prop)(E:ae->af->Prop):Prop:=
 match r with
 |.ok p σ'=>∀Rm f s',Good W own φ s σ' Rm s'->rC W Rm s'.heap p.1 f->mB W c p.2 Rm σ' s'->Q f s'
 |.exc ρ' σ'=>∀Rm e s',Good W own φ s σ' Rm s'->nR W s.heap c.env₀.frame e s'.heap->mB W c ρ' Rm σ' s'->E (.ref e) s'
 |.bad=>False
def qd(P:Pg)(W:Wd)(c:Cx)(q:Bool)(A:bc)(C:Bool->Call)(b:MS)(body:List Stmt):Prop:=∀⦃ρ:mc⦄ ⦃φ:List al⦄ ⦃σ:St⦄ ⦃s:af⦄ ⦃Q:fQ->af->Prop⦄ ⦃E:ae->af->Prop⦄,
 mB W c ρ φ σ s->mq W c (ownOf c.env) φ s (dS P C q b ρ σ) Q E->aM W.M A (execs body c.env) Q E s
section
variable {c:Cx}{s:af}{Q:fQ->af->Prop}{q:Bool}
theorem mq.step{r:R mc (Fl×mc)}(g:Good W own φ s σ' Rm s')(h:mq W c own φ s r Q E):mq W c own Rm s' r Q E:=by
 cases r with
 |ok p RY=>exact λRN f R3 g' r H=>h RN f R3 (g.trans g') r H
 |exc u RY=>exact λRN e R3 g' x H=>h RN e R3 (g.trans g') (x.born λb hb=>g.evo.fresh hb) H
 |bad=>exact h
theorem mq.opt{o:Option γ}{f:γ->R mc (Fl×mc)}(h:mq W c own φ s (R.opt o f) Q E):∃a,o=some a/\mq W c own φ s (f a) Q E:=by
 cases o with
 |none=>exact h.elim
 |some a=>exact⟨a,rfl,h⟩
theorem mq.gd[Decidable p]{r:R mc (Fl×mc)}(h:mq W c own φ s (Mine.Internal.gd p r) Q E):p/\mq W c own φ s r Q E:=by
 unfold Mine.Internal.gd at h
 by_cases hp:p
 .rw[if_pos hp] at h;exact⟨hp,h⟩
 .rw[if_neg hp] at h;exact h.elim
theorem mq.bindX{r:R mc (Fl×mc)}{k:Fl×mc->St->R mc (Fl×mc)}{Ru:List al}{Rx:St}{Q₁:fQ->af->Prop}(h:mq W c own φ s (r.bind k) Q E)(g:Good W own φ s Rx Ru Rn)(hk:∀p σ' Rm f s',Good W own φ s σ' Rm s'->Good W own Ru Rn σ' Rm s'->rC W Rm s'.heap p.1 f->mB W c p.2 Rm σ' s'->mq W c own φ s (k p σ') Q E->Q₁ f s')(he:∀ρ' σ' Rm e s',Good W own φ s σ' Rm s'->nR W s.heap c.env₀.frame e s'.heap->mB W c ρ' Rm σ' s'->(∀s',Good W own φ s σ' Rm s'->nR W s.heap c.env₀.frame e s'.heap->mB W c ρ' Rm σ' s'->E (.ref e) s')->Sn (.ref e) s'):
  mq W c own Ru Rn r Q₁ Sn:=by
 cases r with
 |ok p σ'=>exact λRm f s' g' rf H=>hk p σ' Rm f s' (g.trans g') g' rf H h
 |exc ρ' σ'=>exact λRm e s' g' x H=>he ρ' σ' Rm e s' (g.trans g') (x.born λb hb=>g.evo.fresh hb) H λs' g x H=>h Rm e s' g x H
 |bad=>exact h
theorem mq.ofV{r:R Unit α}{k:α->St->R mc (Fl×mc)}{rep:List al->aQ->α->β->Prop}(H:mB W c ρ φ σ s)(h:mq W c own φ s ((r.lift ρ).bind k) Q E)(hk:∀v σ' Rm y s',r=.ok v σ'->Good W [] φ s σ' Rm s'->rep Rm s'.heap v y->mB W c ρ Rm σ' s'->mq W c own Rm s' (k v σ') Q E->Q₁ y s'):mi W c φ s r rep Q₁ E:=by
 cases r with
 |ok v σ'=>exact λRm y s' g rp=>hk v σ' Rm y s' rfl g rp (H.good g) (mq.step g.up h)
 |exc u σ'=>exact λRm e s' g x=>h Rm e s' g.up x (H.good g)
 |bad=>exact h
theorem rN.at{l:List eA}(x:rN W φ h l):∀b∈nT l,qc h b/\b∉φ/\W.base.get? b=none:=λb hb=>let ⟨a,b',c⟩:=x.mem hb;⟨c,a,b'⟩
theorem mB.hop{t:Nat}(H:mB W c ρ φ σ s)(y:vR Ro (nT (c.env₀::c.out)) s.heap h')(hb:W.base.StaysIn Ro)(inv:Inv W φ σ h'):mB W c ρ φ σ {s with heap:=h',toks:=t}:=
 ⟨inv,H.ok.hop y (λb hb=>(H.frs.at b hb).1) hb,y.frs H.frs,H.sep⟩
theorem v9{e:al}(ar:n0 A c q d)(x:Good W own φ s₀ σ' Rm s)(H:mB W c ρ Rm σ' s)(ex:nR W s₀.heap c.env₀.frame e s.heap)(hb:W.base.StaysIn s₀.heap){R':ae->af->Prop}(h:∀Rn,Good W own φ s₀ σ' Rm Rn->mB W c ρ Rm σ' Rn->(∃L,c.env₀.frame=some L/\nF W s₀.heap (cU L) e Rn.heap)->R' (.ref e) Rn):gB W.M A c.env R' (.ref e) s:=by
 refine sf H.frs λZ RV Z=>?_;obtain ⟨L,hL,_⟩:=RV;rw[hL] at ex;refine xT ar.frames H.frs hL ar.frame (λb hb=>x.evo.fresh hb) ex λh' hop fl=>?_;have g:=x.hop (t:=s.toks) hb hop H.frs.at;exact h _ g (H.hop (t:=s.toks) hop hb g.inv) ⟨L,hL,fl⟩
theorem DL{e:al}(ar:n0 A c q d)(x:Good W own φ s₀ σ' Rm s)(H:mB W c ρ Rm σ' s)(ex:nF W s₀.heap fl e s.heap)(hb:W.base.StaysIn s₀.heap){R':ae->af->Prop}(h:∀Rn,Good W own φ s₀ σ' Rm Rn->mB W c ρ Rm σ' Rn->(∃L,c.env₀.frame=some L/\nF W s₀.heap (cU L) e Rn.heap)->R' (.ref e) Rn):gU W.M A c.env R' (.ref e) s:=by
 refine sf H.frs λZ RV Z=>?_;obtain ⟨L,hL,_⟩:=RV;refine AE (F:=nT (c.env₀::c.out)) ex λh' hop Up=>?_;have g:=x.hop (t:=s.toks) hb hop H.frs.at;refine h _ g (H.hop (t:=s.toks) hop hb g.inv) ⟨L,hL,?_⟩;rw[ar.frame,hL] at Up;exact Up
theorem u7{e:al}(ar:n0 A c q d)(x:Good W own φ s₀ σ' Rm s)(H:mB W c ρ Rm σ' s)(ex:nR W s₀.heap c.env₀.frame e s.heap)(hb:W.base.StaysIn s₀.heap)(h:∀Rn,Good W own φ s₀ σ' Rm Rn->mB W c ρ Rm σ' Rn->nR W s₀.heap c.env₀.frame e Rn.heap->E (.ref e) Rn):gB W.M A c.env (gU W.M A c.env E) (.ref e) s:=
 v9 ar x H ex hb λRn g₁ H₁ zq=>l8 zq λL hL fl=>DL ar g₁ H₁ fl hb λRr RH Rw zq=>l8 zq λL' hL' Up=>h Rr RH Rw (hL'▸Up.held)
theorem Good.drop(x:Good W own φ s₀ σ' Rm s){t:Nat}(hF:∀b∈F,s₀.heap.get? b=none/\b∉Rm/\b∉W.hid/\W.base.get? b=none/\∀o,s.heap.get? b=some o->∀xs n,o.data≠.seq xs n)(k:∀b o,b∉F->s.heap.get? b=some o->h'.get? b=some o):Good W own φ s₀ σ' Rm {s with heap:=h',toks:=t}:=by
 have nb:∀{b o},s₀.heap.get? b=some o->b∉F:=λe hm=>by rw[(hF _ hm).1] at e;cases e
 have kp:Kp F s.heap h':=λb o e hb=>⟨o.slots,k b o hb e,λZ=>rfl⟩;have ap:Apart W Rm F s.heap:=λb hb Z=>⟨(hF b hb).2.2.2.1,.inr (hF b hb).2.2.2.2⟩;refine⟨x.grows,⟨λb o e=>?_,λb o e hb=>?_⟩,x.inv.kp kp ap (λa ha hm=>(hF a hm).2.1 ha) (λb o e=>k b o (λhm=>by rw[(hF b hm).2.2.2.1] at e;cases e) (x.inv.base b o e)) λa ha=>?_,x.gens,x.os⟩
 .refine mF (x.evo.there b o e) λo' e'=>?_;exact⟨o',k b o' (nb e) e'⟩
 .refine l8 (x.evo.keep b o e hb) λsl e' q=>?_;exact⟨sl,k b _ (nb e) e',q⟩
 .refine mF (x.inv.hid a ha) λo e=>?_;exact⟨o,k a o (λhm=>(hF a hm).2.2.1 ha) e⟩
theorem mQ.drop(x:mQ W env vars ρ φ h)(kp:Kp F h h')(ap:Apart W φ F h)(hL:env.locals∉F)(hc:∀n c,env.cells.lookup n=some c->c∉F):mQ W env vars ρ φ h':=by
 refine⟨x.kind,x.glob,x.bui,x.inj,x.apart,x.out,?_,λn c hnc=>?_,x.has⟩
 .refine l8 x.loc λm RV hv=>?_;obtain ⟨o,es,ep,e,r⟩:=RV;refine l8 (kp _ o e hL) λsl e' Z=>?_;refine⟨m,⟨_,es,ep,e',r⟩,λn i a b v c=>?_⟩;refine l8 (hv n i a b v c) λy hy r=>?_;exact⟨y,hy,r.kp kp ap (.refl _ _)⟩
 .refine nJ (x.cell n c hnc) λa b c' u SS hv=>?_;obtain ⟨o,e,d⟩:=SS;refine l8 (kp _ o e (hc n c hnc)) λsl e' Z=>?_;refine⟨a,b,c',u,⟨_,e',d⟩,λi p q v w=>?_⟩;refine l8 (hv i p q v w) λy hy r=>?_;exact⟨y,hy,r.kp kp ap (.refl _ _)⟩
theorem rN.drop(k:∀b o,b∉F->h.get? b=some o->h'.get? b=some o){l:List eA}(H:rN W φ h l)(hX:∀b∈nT l,b∉F):rN W φ h' l:=
 H.map λL hL hn hb a=>⟨hn,hb,o9 a λo es ep e cl dd=>⟨o,es,ep,k L o (hX L hL) e,cl,dd⟩⟩
theorem mB.drop{t:Nat}(H:mB W c ρ φ σ s)(hF:∀b∈F,b∉φ/\b∉W.hid/\W.base.get? b=none/\(∀o,s.heap.get? b=some o->∀xs n,o.data≠.seq xs n)/\b∉ownOf c.env/\b∉nT (c.env₀::c.out))(k:∀b o,b∉F->s.heap.get? b=some o->h'.get? b=some o)(inv:Inv W φ σ h'):mB W c ρ φ σ {s with heap:=h',toks:=t}:=by
 have kp:Kp F s.heap h':=λb o e hb=>⟨o.slots,k b o hb e,λZ=>rfl⟩;have ap:Apart W φ F s.heap:=λb hb Z=>⟨(hF b hb).2.2.1,.inr (hF b hb).2.2.2.1⟩;exact⟨inv,H.ok.drop kp ap (λhm=>(hF _ hm).2.2.2.2.1 ax) (λn c hnc hm=>(hF _ hm).2.2.2.2.1 (mem_ownOf hnc)),H.frs.drop k λb hb hm=>(hF b hm).2.2.2.2.2 hb,H.sep⟩
end
theorem oU{o:Option α}{f:α->Bool}(h:o.any f=true):∃a,o=some a/\f a=true:=by
 cases o with
 |none=>exact ma h
 |some a=>exact⟨a,rfl,h⟩
theorem yi{a b:Bool}(h:(a||b)=true):a=true\/b=true:=by
 cases a with
 |true=>exact .inl rfl
 |false=>exact .inr h
noncomputable def nX{α:Type}(l:List α)(f:α->List α->Bool):Bool:=match l with
 |x::r=>f x r
 |[]=>false
theorem nY{l:List α}{f:α->List α->Bool}(h:nX l f=true):∃x r,l=x::r/\f x r=true:=by
 cases l with
 |nil=>exact ma h
 |cons x r=>exact⟨x,r,rfl,h⟩
noncomputable def qi{α:Type}(l:List α)(f:α->Bool):Bool:=nX l λx r=>r.isEmpty&&f x
theorem mP{l:List α}(h:l.isEmpty=true):l=[]:=by
 cases l with
 |nil=>rfl
 |cons _ _=>exact ma h
theorem Cj{l:List α}{f:α->Bool}(h:qi l f=true):∃x,l=[x]/\f x=true:=by
 refine mJ (nY h) λx r e h=>?_;exact⟨x,e.trans (congrArg (x::·) (mP (b2 h).1)),(b2 h).2⟩
noncomputable def wq{α:Type}(l:List α)(f:α->α->Bool):Bool:=nX l λx r=>qi r λy=>f x y
theorem Cp{l:List α}{f:α->α->Bool}(h:wq l f=true):∃x y,l=[x,y]/\f x y=true:=by
 refine mJ (nY h) λx r e h=>?_;refine l8 (Cj h) λy e' h=>?_;exact⟨x,y,e.trans (congrArg (x::·) e'),h⟩
theorem oh{l:List α}{f:α->List α->Bool}{P:List α->Prop}(h:nX l f=true)(k:∀x r,f x r=true->P (x::r)):P l:=by
 cases l with
 |nil=>exact ma h
 |cons x r=>exact k x r h
theorem sd{l:List α}{P:List α->Prop}(h:l.isEmpty=true)(k:P []):P l:=by
 cases l with
 |nil=>exact k
 |cons _ _=>exact ma h
theorem xk{o:Option α}{P:Option α->Prop}(h:o.isNone=true)(k:P none):P o:=by
 cases o with
 |none=>exact k
 |some _=>exact ma h
theorem ya{o:Option α}{f:α->Bool}{P:Option α->Prop}(h:o.any f=true)(k:∀a,f a=true->P (some a)):P o:=by
 cases o with
 |none=>exact ma h
 |some a=>exact k a h
theorem rU[DecidableEq α]{a b:α}{P:α->Prop}(h:decide (a=b)=true)(k:P b):P a:=of_decide_eq_true h▸k
theorem pQ{a b:Bool}{P:Prop}(h:(a&&b)=true)(k:a=true->b=true->P):P:=k (b2 h).1 (b2 h).2
theorem u4{a b c:Bool}{P:Prop}(h:(a&&(b&&c))=true)(k:a=true->b=true->c=true->P):P:=pQ h λh1 h=>pQ h (k h1)
theorem Dh{a b c d:Bool}{P:Prop}(h:(a&&(b&&(c&&d)))=true)(k:a=true->b=true->c=true->d=true->P):P:=pQ h λh1 h=>u4 h (k h1)
theorem KF{a b c d e:Bool}{P:Prop}(h:(a&&(b&&(c&&(d&&e))))=true)(k:a=true->b=true->c=true->d=true->e=true->P):P:=pQ h λh1 h=>Dh h (k h1)
theorem oR{l:List α}{f:α->Bool}{P:List α->Prop}(h:qi l f=true)(k:∀x,f x=true->P [x]):P l:=oh h λx Z h=>pQ h λh1 h=>sd (P:=λr=>P (x::r)) h1 (k x h)
theorem xB{l:List α}{f:α->α->Bool}{P:List α->Prop}(h:wq l f=true)(k:∀x y,f x y=true->P [x,y]):P l:=oh h λx Z h=>oR (P:=λr=>P (x::r)) h λy h=>k x y h
noncomputable def oq(x:aa)(f:a9->Bool):Bool:=aG (motive_1:=λZ=>Bool) x (λZ Z Z=>false) (λZ Z Z=>false) (λZ Z Z Z=>false) (λZ Z Z=>false) (λZ Z Z Z=>false) (λZ Z Z Z=>false) (λZ Z Z=>false) (λZ Z Z=>false) (λZ Z Z Z=>false) (λZ Z Z Z=>false) (λZ Z Z Z Z=>false) (λZ Z Z Z=>false) (λZ Z=>false) (λZ Z=>false) (λZ Z=>false) (λZ Z Z Z=>false) (λZ Z Z Z=>false) (λZ Z Z Z=>false) (λZ Z=>false) (λZ Z Z=>false) (λZ Z Z=>false) (λZ Z Z=>false) (λZ Z=>false) (λn Z=>f n) (λZ Z=>false) (λZ Z Z=>false) (λZ Z Z Z=>false)
theorem nx{x:aa}{f:a9->Bool}{P:aa->Prop}(h:oq x f=true)(k:∀n p,f n=true->P (.Name n p)):P x:=aG (motive_1:=λx=>oq x f=true->P x) x (λZ Z Z=>ma) (λZ Z Z=>ma) (λZ Z Z Z=>ma) (λZ Z Z=>ma) (λZ Z Z Z=>ma) (λZ Z Z Z=>ma) (λZ Z Z=>ma) (λZ Z Z=>ma) (λZ Z Z Z=>ma) (λZ Z Z Z=>ma) (λZ Z Z Z Z=>ma) (λZ Z Z Z=>ma) (λZ Z=>ma) (λZ Z=>ma) (λZ Z=>ma) (λZ Z Z Z=>ma) (λZ Z Z Z=>ma) (λZ Z Z Z=>ma) (λZ Z=>ma) (λZ Z Z=>ma) (λZ Z Z=>ma) (λZ Z Z=>ma) (λZ Z=>ma) (λZ Z h=>k _ _ h) (λZ Z=>ma) (λZ Z Z=>ma) (λZ Z Z Z=>ma) h
noncomputable def rq(x:aa)(f:(List aa)->Bool):Bool:=aG (motive_1:=λZ=>Bool) x (λZ Z Z=>false) (λZ Z Z=>false) (λZ Z Z Z=>false) (λZ Z Z=>false) (λZ Z Z Z=>false) (λZ Z Z Z=>false) (λZ Z Z=>false) (λZ Z Z=>false) (λZ Z Z Z=>false) (λZ Z Z Z=>false) (λZ Z Z Z Z=>false) (λZ Z Z Z=>false) (λZ Z=>false) (λZ Z=>false) (λZ Z=>false) (λZ Z Z Z=>false) (λZ Z Z Z=>false) (λZ Z Z Z=>false) (λZ Z=>false) (λZ Z Z=>false) (λZ Z Z=>false) (λZ Z Z=>false) (λZ Z=>false) (λZ Z=>false) (λZ Z=>false) (λxs Z Z=>f xs) (λZ Z Z Z=>false)
theorem qT{x:aa}{f:(List aa)->Bool}{P:aa->Prop}(h:rq x f=true)(k:∀xs k p,f xs=true->P (.Tuple xs k p)):P x:=aG (motive_1:=λx=>rq x f=true->P x) x (λZ Z Z=>ma) (λZ Z Z=>ma) (λZ Z Z Z=>ma) (λZ Z Z=>ma) (λZ Z Z Z=>ma) (λZ Z Z Z=>ma) (λZ Z Z=>ma) (λZ Z Z=>ma) (λZ Z Z Z=>ma) (λZ Z Z Z=>ma) (λZ Z Z Z Z=>ma) (λZ Z Z Z=>ma) (λZ Z=>ma) (λZ Z=>ma) (λZ Z=>ma) (λZ Z Z Z=>ma) (λZ Z Z Z=>ma) (λZ Z Z Z=>ma) (λZ Z=>ma) (λZ Z Z=>ma) (λZ Z Z=>ma) (λZ Z Z=>ma) (λZ Z=>ma) (λZ Z=>ma) (λZ Z=>ma) (λZ Z Z h=>k _ _ _ h) (λZ Z Z Z=>ma) h
noncomputable def Ad(x:aa)(f:(List aa)->Bool):Bool:=aG (motive_1:=λZ=>Bool) x (λZ Z Z=>false) (λZ Z Z=>false) (λZ Z Z Z=>false) (λZ Z Z=>false) (λZ Z Z Z=>false) (λZ Z Z Z=>false) (λZ Z Z=>false) (λZ Z Z=>false) (λZ Z Z Z=>false) (λZ Z Z Z=>false) (λZ Z Z Z Z=>false) (λZ Z Z Z=>false) (λZ Z=>false) (λZ Z=>false) (λZ Z=>false) (λZ Z Z Z=>false) (λZ Z Z Z=>false) (λZ Z Z Z=>false) (λZ Z=>false) (λZ Z Z=>false) (λZ Z Z=>false) (λZ Z Z=>false) (λZ Z=>false) (λZ Z=>false) (λxs Z=>f xs) (λZ Z Z=>false) (λZ Z Z Z=>false)
theorem EQ{x:aa}{f:(List aa)->Bool}{P:aa->Prop}(h:Ad x f=true)(k:∀xs p,f xs=true->P (.List xs p)):P x:=aG (motive_1:=λx=>Ad x f=true->P x) x (λZ Z Z=>ma) (λZ Z Z=>ma) (λZ Z Z Z=>ma) (λZ Z Z=>ma) (λZ Z Z Z=>ma) (λZ Z Z Z=>ma) (λZ Z Z=>ma) (λZ Z Z=>ma) (λZ Z Z Z=>ma) (λZ Z Z Z=>ma) (λZ Z Z Z Z=>ma) (λZ Z Z Z=>ma) (λZ Z=>ma) (λZ Z=>ma) (λZ Z=>ma) (λZ Z Z Z=>ma) (λZ Z Z Z=>ma) (λZ Z Z Z=>ma) (λZ Z=>ma) (λZ Z Z=>ma) (λZ Z Z=>ma) (λZ Z Z=>ma) (λZ Z=>ma) (λZ Z=>ma) (λZ Z h=>k _ _ h) (λZ Z Z=>ma) (λZ Z Z Z=>ma) h
noncomputable def z9(x:aa)(f:(List (Option aa))->(List aa)->Bool):Bool:=aG (motive_1:=λZ=>Bool) x (λZ Z Z=>false) (λZ Z Z=>false) (λZ Z Z Z=>false) (λZ Z Z=>false) (λZ Z Z Z=>false) (λZ Z Z Z=>false) (λks xs Z=>f ks xs) (λZ Z Z=>false) (λZ Z Z Z=>false) (λZ Z Z Z=>false) (λZ Z Z Z Z=>false) (λZ Z Z Z=>false) (λZ Z=>false) (λZ Z=>false) (λZ Z=>false) (λZ Z Z Z=>false) (λZ Z Z Z=>false) (λZ Z Z Z=>false) (λZ Z=>false) (λZ Z Z=>false) (λZ Z Z=>false) (λZ Z Z=>false) (λZ Z=>false) (λZ Z=>false) (λZ Z=>false) (λZ Z Z=>false) (λZ Z Z Z=>false)
theorem EK{x:aa}{f:(List (Option aa))->(List aa)->Bool}{P:aa->Prop}(h:z9 x f=true)(k:∀ks xs p,f ks xs=true->P (.Dict ks xs p)):P x:=aG (motive_1:=λx=>z9 x f=true->P x) x (λZ Z Z=>ma) (λZ Z Z=>ma) (λZ Z Z Z=>ma) (λZ Z Z=>ma) (λZ Z Z Z=>ma) (λZ Z Z Z=>ma) (λZ Z Z h=>k _ _ _ h) (λZ Z Z=>ma) (λZ Z Z Z=>ma) (λZ Z Z Z=>ma) (λZ Z Z Z Z=>ma) (λZ Z Z Z=>ma) (λZ Z=>ma) (λZ Z=>ma) (λZ Z=>ma) (λZ Z Z Z=>ma) (λZ Z Z Z=>ma) (λZ Z Z Z=>ma) (λZ Z=>ma) (λZ Z Z=>ma) (λZ Z Z=>ma) (λZ Z Z=>ma) (λZ Z=>ma) (λZ Z=>ma) (λZ Z=>ma) (λZ Z Z=>ma) (λZ Z Z Z=>ma) h
noncomputable def sR(x:aa)(f:aa->a9->cV->Bool):Bool:=aG (motive_1:=λZ=>Bool) x (λZ Z Z=>false) (λZ Z Z=>false) (λZ Z Z Z=>false) (λZ Z Z=>false) (λZ Z Z Z=>false) (λZ Z Z Z=>false) (λZ Z Z=>false) (λZ Z Z=>false) (λZ Z Z Z=>false) (λZ Z Z Z=>false) (λZ Z Z Z Z=>false) (λZ Z Z Z=>false) (λZ Z=>false) (λZ Z=>false) (λZ Z=>false) (λZ Z Z Z=>false) (λZ Z Z Z=>false) (λZ Z Z Z=>false) (λZ Z=>false) (λZ Z Z=>false) (λy n p=>f y n p) (λZ Z Z=>false) (λZ Z=>false) (λZ Z=>false) (λZ Z=>false) (λZ Z Z=>false) (λZ Z Z Z=>false)
theorem sj{x:aa}{f:aa->a9->cV->Bool}{P:aa->Prop}(h:sR x f=true)(k:∀y n p,f y n p=true->P (.Attribute y n p)):P x:=aG (motive_1:=λx=>sR x f=true->P x) x (λZ Z Z=>ma) (λZ Z Z=>ma) (λZ Z Z Z=>ma) (λZ Z Z=>ma) (λZ Z Z Z=>ma) (λZ Z Z Z=>ma) (λZ Z Z=>ma) (λZ Z Z=>ma) (λZ Z Z Z=>ma) (λZ Z Z Z=>ma) (λZ Z Z Z Z=>ma) (λZ Z Z Z=>ma) (λZ Z=>ma) (λZ Z=>ma) (λZ Z=>ma) (λZ Z Z Z=>ma) (λZ Z Z Z=>ma) (λZ Z Z Z=>ma) (λZ Z=>ma) (λZ Z Z=>ma) (λZ Z Z h=>k _ _ _ h) (λZ Z Z=>ma) (λZ Z=>ma) (λZ Z=>ma) (λZ Z=>ma) (λZ Z Z=>ma) (λZ Z Z Z=>ma) h
noncomputable def yR(x:aa)(f:aa->aa->Bool):Bool:=aG (motive_1:=λZ=>Bool) x (λZ Z Z=>false) (λZ Z Z=>false) (λZ Z Z Z=>false) (λZ Z Z=>false) (λZ Z Z Z=>false) (λZ Z Z Z=>false) (λZ Z Z=>false) (λZ Z Z=>false) (λZ Z Z Z=>false) (λZ Z Z Z=>false) (λZ Z Z Z Z=>false) (λZ Z Z Z=>false) (λZ Z=>false) (λZ Z=>false) (λZ Z=>false) (λZ Z Z Z=>false) (λZ Z Z Z=>false) (λZ Z Z Z=>false) (λZ Z=>false) (λZ Z Z=>false) (λZ Z Z=>false) (λy z Z=>f y z) (λZ Z=>false) (λZ Z=>false) (λZ Z=>false) (λZ Z Z=>false) (λZ Z Z Z=>false)
theorem xz{x:aa}{f:aa->aa->Bool}{P:aa->Prop}(h:yR x f=true)(k:∀y z p,f y z=true->P (.Subscript y z p)):P x:=aG (motive_1:=λx=>yR x f=true->P x) x (λZ Z Z=>ma) (λZ Z Z=>ma) (λZ Z Z Z=>ma) (λZ Z Z=>ma) (λZ Z Z Z=>ma) (λZ Z Z Z=>ma) (λZ Z Z=>ma) (λZ Z Z=>ma) (λZ Z Z Z=>ma) (λZ Z Z Z=>ma) (λZ Z Z Z Z=>ma) (λZ Z Z Z=>ma) (λZ Z=>ma) (λZ Z=>ma) (λZ Z=>ma) (λZ Z Z Z=>ma) (λZ Z Z Z=>ma) (λZ Z Z Z=>ma) (λZ Z=>ma) (λZ Z Z=>ma) (λZ Z Z=>ma) (λZ Z Z h=>k _ _ _ h) (λZ Z=>ma) (λZ Z=>ma) (λZ Z=>ma) (λZ Z Z=>ma) (λZ Z Z Z=>ma) h
noncomputable def xw(x:aa)(f:(Option aa)->(Option aa)->(Option aa)->Bool):Bool:=aG (motive_1:=λZ=>Bool) x (λZ Z Z=>false) (λZ Z Z=>false) (λZ Z Z Z=>false) (λZ Z Z=>false) (λZ Z Z Z=>false) (λZ Z Z Z=>false) (λZ Z Z=>false) (λZ Z Z=>false) (λZ Z Z Z=>false) (λZ Z Z Z=>false) (λZ Z Z Z Z=>false) (λZ Z Z Z=>false) (λZ Z=>false) (λZ Z=>false) (λZ Z=>false) (λZ Z Z Z=>false) (λZ Z Z Z=>false) (λZ Z Z Z=>false) (λZ Z=>false) (λZ Z Z=>false) (λZ Z Z=>false) (λZ Z Z=>false) (λZ Z=>false) (λZ Z=>false) (λZ Z=>false) (λZ Z Z=>false) (λlo up st Z=>f lo up st)
theorem Co{x:aa}{f:(Option aa)->(Option aa)->(Option aa)->Bool}{P:aa->Prop}(h:xw x f=true)(k:∀lo up st p,f lo up st=true->P (.Slice lo up st p)):P x:=aG (motive_1:=λx=>xw x f=true->P x) x (λZ Z Z=>ma) (λZ Z Z=>ma) (λZ Z Z Z=>ma) (λZ Z Z=>ma) (λZ Z Z Z=>ma) (λZ Z Z Z=>ma) (λZ Z Z=>ma) (λZ Z Z=>ma) (λZ Z Z Z=>ma) (λZ Z Z Z=>ma) (λZ Z Z Z Z=>ma) (λZ Z Z Z=>ma) (λZ Z=>ma) (λZ Z=>ma) (λZ Z=>ma) (λZ Z Z Z=>ma) (λZ Z Z Z=>ma) (λZ Z Z Z=>ma) (λZ Z=>ma) (λZ Z Z=>ma) (λZ Z Z=>ma) (λZ Z Z=>ma) (λZ Z=>ma) (λZ Z=>ma) (λZ Z=>ma) (λZ Z Z=>ma) (λZ Z Z Z h=>k _ _ _ _ h) h
noncomputable def EH(x:aa)(f:aa->jU->aa->Bool):Bool:=aG (motive_1:=λZ=>Bool) x (λZ Z Z=>false) (λZ Z Z=>false) (λy o z Z=>f y o z) (λZ Z Z=>false) (λZ Z Z Z=>false) (λZ Z Z Z=>false) (λZ Z Z=>false) (λZ Z Z=>false) (λZ Z Z Z=>false) (λZ Z Z Z=>false) (λZ Z Z Z Z=>false) (λZ Z Z Z=>false) (λZ Z=>false) (λZ Z=>false) (λZ Z=>false) (λZ Z Z Z=>false) (λZ Z Z Z=>false) (λZ Z Z Z=>false) (λZ Z=>false) (λZ Z Z=>false) (λZ Z Z=>false) (λZ Z Z=>false) (λZ Z=>false) (λZ Z=>false) (λZ Z=>false) (λZ Z Z=>false) (λZ Z Z Z=>false)
theorem GQ{x:aa}{f:aa->jU->aa->Bool}{P:aa->Prop}(h:EH x f=true)(k:∀y o z p,f y o z=true->P (.BinOp y o z p)):P x:=aG (motive_1:=λx=>EH x f=true->P x) x (λZ Z Z=>ma) (λZ Z Z=>ma) (λZ Z Z Z h=>k _ _ _ _ h) (λZ Z Z=>ma) (λZ Z Z Z=>ma) (λZ Z Z Z=>ma) (λZ Z Z=>ma) (λZ Z Z=>ma) (λZ Z Z Z=>ma) (λZ Z Z Z=>ma) (λZ Z Z Z Z=>ma) (λZ Z Z Z=>ma) (λZ Z=>ma) (λZ Z=>ma) (λZ Z=>ma) (λZ Z Z Z=>ma) (λZ Z Z Z=>ma) (λZ Z Z Z=>ma) (λZ Z=>ma) (λZ Z Z=>ma) (λZ Z Z=>ma) (λZ Z Z=>ma) (λZ Z=>ma) (λZ Z=>ma) (λZ Z=>ma) (λZ Z Z=>ma) (λZ Z Z Z=>ma) h
noncomputable def yN(x:aa)(f:aa->(List CmpOp)->(List aa)->Bool):Bool:=aG (motive_1:=λZ=>Bool) x (λZ Z Z=>false) (λZ Z Z=>false) (λZ Z Z Z=>false) (λZ Z Z=>false) (λZ Z Z Z=>false) (λZ Z Z Z=>false) (λZ Z Z=>false) (λZ Z Z=>false) (λZ Z Z Z=>false) (λZ Z Z Z=>false) (λZ Z Z Z Z=>false) (λZ Z Z Z=>false) (λZ Z=>false) (λZ Z=>false) (λZ Z=>false) (λy os zs Z=>f y os zs) (λZ Z Z Z=>false) (λZ Z Z Z=>false) (λZ Z=>false) (λZ Z Z=>false) (λZ Z Z=>false) (λZ Z Z=>false) (λZ Z=>false) (λZ Z=>false) (λZ Z=>false) (λZ Z Z=>false) (λZ Z Z Z=>false)
theorem xt{x:aa}{f:aa->(List CmpOp)->(List aa)->Bool}{P:aa->Prop}(h:yN x f=true)(k:∀y os zs p,f y os zs=true->P (.Compare y os zs p)):P x:=aG (motive_1:=λx=>yN x f=true->P x) x (λZ Z Z=>ma) (λZ Z Z=>ma) (λZ Z Z Z=>ma) (λZ Z Z=>ma) (λZ Z Z Z=>ma) (λZ Z Z Z=>ma) (λZ Z Z=>ma) (λZ Z Z=>ma) (λZ Z Z Z=>ma) (λZ Z Z Z=>ma) (λZ Z Z Z Z=>ma) (λZ Z Z Z=>ma) (λZ Z=>ma) (λZ Z=>ma) (λZ Z=>ma) (λZ Z Z Z h=>k _ _ _ _ h) (λZ Z Z Z=>ma) (λZ Z Z Z=>ma) (λZ Z=>ma) (λZ Z Z=>ma) (λZ Z Z=>ma) (λZ Z Z=>ma) (λZ Z=>ma) (λZ Z=>ma) (λZ Z=>ma) (λZ Z Z=>ma) (λZ Z Z Z=>ma) h
noncomputable def ET(x:aa)(f:UnaryOp->aa->Bool):Bool:=aG (motive_1:=λZ=>Bool) x (λZ Z Z=>false) (λZ Z Z=>false) (λZ Z Z Z=>false) (λo y Z=>f o y) (λZ Z Z Z=>false) (λZ Z Z Z=>false) (λZ Z Z=>false) (λZ Z Z=>false) (λZ Z Z Z=>false) (λZ Z Z Z=>false) (λZ Z Z Z Z=>false) (λZ Z Z Z=>false) (λZ Z=>false) (λZ Z=>false) (λZ Z=>false) (λZ Z Z Z=>false) (λZ Z Z Z=>false) (λZ Z Z Z=>false) (λZ Z=>false) (λZ Z Z=>false) (λZ Z Z=>false) (λZ Z Z=>false) (λZ Z=>false) (λZ Z=>false) (λZ Z=>false) (λZ Z Z=>false) (λZ Z Z Z=>false)
theorem Ag{x:aa}{f:UnaryOp->aa->Bool}{P:aa->Prop}(h:ET x f=true)(k:∀o y p,f o y=true->P (.UnaryOp o y p)):P x:=aG (motive_1:=λx=>ET x f=true->P x) x (λZ Z Z=>ma) (λZ Z Z=>ma) (λZ Z Z Z=>ma) (λZ Z Z h=>k _ _ _ h) (λZ Z Z Z=>ma) (λZ Z Z Z=>ma) (λZ Z Z=>ma) (λZ Z Z=>ma) (λZ Z Z Z=>ma) (λZ Z Z Z=>ma) (λZ Z Z Z Z=>ma) (λZ Z Z Z=>ma) (λZ Z=>ma) (λZ Z=>ma) (λZ Z=>ma) (λZ Z Z Z=>ma) (λZ Z Z Z=>ma) (λZ Z Z Z=>ma) (λZ Z=>ma) (λZ Z Z=>ma) (λZ Z Z=>ma) (λZ Z Z=>ma) (λZ Z=>ma) (λZ Z=>ma) (λZ Z=>ma) (λZ Z Z=>ma) (λZ Z Z Z=>ma) h
noncomputable def ud(x:aa)(f:BoolOp->(List aa)->Bool):Bool:=aG (motive_1:=λZ=>Bool) x (λo xs Z=>f o xs) (λZ Z Z=>false) (λZ Z Z Z=>false) (λZ Z Z=>false) (λZ Z Z Z=>false) (λZ Z Z Z=>false) (λZ Z Z=>false) (λZ Z Z=>false) (λZ Z Z Z=>false) (λZ Z Z Z=>false) (λZ Z Z Z Z=>false) (λZ Z Z Z=>false) (λZ Z=>false) (λZ Z=>false) (λZ Z=>false) (λZ Z Z Z=>false) (λZ Z Z Z=>false) (λZ Z Z Z=>false) (λZ Z=>false) (λZ Z Z=>false) (λZ Z Z=>false) (λZ Z Z=>false) (λZ Z=>false) (λZ Z=>false) (λZ Z=>false) (λZ Z Z=>false) (λZ Z Z Z=>false)
theorem tD{x:aa}{f:BoolOp->(List aa)->Bool}{P:aa->Prop}(h:ud x f=true)(k:∀o xs p,f o xs=true->P (.BoolOp o xs p)):P x:=aG (motive_1:=λx=>ud x f=true->P x) x (λZ Z Z h=>k _ _ _ h) (λZ Z Z=>ma) (λZ Z Z Z=>ma) (λZ Z Z=>ma) (λZ Z Z Z=>ma) (λZ Z Z Z=>ma) (λZ Z Z=>ma) (λZ Z Z=>ma) (λZ Z Z Z=>ma) (λZ Z Z Z=>ma) (λZ Z Z Z Z=>ma) (λZ Z Z Z=>ma) (λZ Z=>ma) (λZ Z=>ma) (λZ Z=>ma) (λZ Z Z Z=>ma) (λZ Z Z Z=>ma) (λZ Z Z Z=>ma) (λZ Z=>ma) (λZ Z Z=>ma) (λZ Z Z=>ma) (λZ Z Z=>ma) (λZ Z=>ma) (λZ Z=>ma) (λZ Z=>ma) (λZ Z Z=>ma) (λZ Z Z Z=>ma) h
noncomputable def GU(x:aa)(f:aa->aa->aa->Bool):Bool:=aG (motive_1:=λZ=>Bool) x (λZ Z Z=>false) (λZ Z Z=>false) (λZ Z Z Z=>false) (λZ Z Z=>false) (λZ Z Z Z=>false) (λy z w Z=>f y z w) (λZ Z Z=>false) (λZ Z Z=>false) (λZ Z Z Z=>false) (λZ Z Z Z=>false) (λZ Z Z Z Z=>false) (λZ Z Z Z=>false) (λZ Z=>false) (λZ Z=>false) (λZ Z=>false) (λZ Z Z Z=>false) (λZ Z Z Z=>false) (λZ Z Z Z=>false) (λZ Z=>false) (λZ Z Z=>false) (λZ Z Z=>false) (λZ Z Z=>false) (λZ Z=>false) (λZ Z=>false) (λZ Z=>false) (λZ Z Z=>false) (λZ Z Z Z=>false)
theorem EP{x:aa}{f:aa->aa->aa->Bool}{P:aa->Prop}(h:GU x f=true)(k:∀y z w p,f y z w=true->P (.IfExp y z w p)):P x:=aG (motive_1:=λx=>GU x f=true->P x) x (λZ Z Z=>ma) (λZ Z Z=>ma) (λZ Z Z Z=>ma) (λZ Z Z=>ma) (λZ Z Z Z=>ma) (λZ Z Z Z h=>k _ _ _ _ h) (λZ Z Z=>ma) (λZ Z Z=>ma) (λZ Z Z Z=>ma) (λZ Z Z Z=>ma) (λZ Z Z Z Z=>ma) (λZ Z Z Z=>ma) (λZ Z=>ma) (λZ Z=>ma) (λZ Z=>ma) (λZ Z Z Z=>ma) (λZ Z Z Z=>ma) (λZ Z Z Z=>ma) (λZ Z=>ma) (λZ Z Z=>ma) (λZ Z Z=>ma) (λZ Z Z=>ma) (λZ Z=>ma) (λZ Z=>ma) (λZ Z=>ma) (λZ Z Z=>ma) (λZ Z Z Z=>ma) h
noncomputable def ue(x:aa)(f:aa->(List aa)->(List jR)->cV->Bool):Bool:=aG (motive_1:=λZ=>Bool) x (λZ Z Z=>false) (λZ Z Z=>false) (λZ Z Z Z=>false) (λZ Z Z=>false) (λZ Z Z Z=>false) (λZ Z Z Z=>false) (λZ Z Z=>false) (λZ Z Z=>false) (λZ Z Z Z=>false) (λZ Z Z Z=>false) (λZ Z Z Z Z=>false) (λZ Z Z Z=>false) (λZ Z=>false) (λZ Z=>false) (λZ Z=>false) (λZ Z Z Z=>false) (λg xs ks p=>f g xs ks p) (λZ Z Z Z=>false) (λZ Z=>false) (λZ Z Z=>false) (λZ Z Z=>false) (λZ Z Z=>false) (λZ Z=>false) (λZ Z=>false) (λZ Z=>false) (λZ Z Z=>false) (λZ Z Z Z=>false)
theorem tE{x:aa}{f:aa->(List aa)->(List jR)->cV->Bool}{P:aa->Prop}(h:ue x f=true)(k:∀g xs ks p,f g xs ks p=true->P (.Call g xs ks p)):P x:=aG (motive_1:=λx=>ue x f=true->P x) x (λZ Z Z=>ma) (λZ Z Z=>ma) (λZ Z Z Z=>ma) (λZ Z Z=>ma) (λZ Z Z Z=>ma) (λZ Z Z Z=>ma) (λZ Z Z=>ma) (λZ Z Z=>ma) (λZ Z Z Z=>ma) (λZ Z Z Z=>ma) (λZ Z Z Z Z=>ma) (λZ Z Z Z=>ma) (λZ Z=>ma) (λZ Z=>ma) (λZ Z=>ma) (λZ Z Z Z=>ma) (λZ Z Z Z h=>k _ _ _ _ h) (λZ Z Z Z=>ma) (λZ Z=>ma) (λZ Z Z=>ma) (λZ Z Z=>ma) (λZ Z Z=>ma) (λZ Z=>ma) (λZ Z=>ma) (λZ Z=>ma) (λZ Z Z=>ma) (λZ Z Z Z=>ma) h
noncomputable def vD(x:aa)(f:(List aa)->Bool):Bool:=aG (motive_1:=λZ=>Bool) x (λZ Z Z=>false) (λZ Z Z=>false) (λZ Z Z Z=>false) (λZ Z Z=>false) (λZ Z Z Z=>false) (λZ Z Z Z=>false) (λZ Z Z=>false) (λZ Z Z=>false) (λZ Z Z Z=>false) (λZ Z Z Z=>false) (λZ Z Z Z Z=>false) (λZ Z Z Z=>false) (λZ Z=>false) (λZ Z=>false) (λZ Z=>false) (λZ Z Z Z=>false) (λZ Z Z Z=>false) (λZ Z Z Z=>false) (λxs Z=>f xs) (λZ Z Z=>false) (λZ Z Z=>false) (λZ Z Z=>false) (λZ Z=>false) (λZ Z=>false) (λZ Z=>false) (λZ Z Z=>false) (λZ Z Z Z=>false)
theorem Ac{x:aa}{f:(List aa)->Bool}{P:aa->Prop}(h:vD x f=true)(k:∀xs p,f xs=true->P (.JoinedStr xs p)):P x:=aG (motive_1:=λx=>vD x f=true->P x) x (λZ Z Z=>ma) (λZ Z Z=>ma) (λZ Z Z Z=>ma) (λZ Z Z=>ma) (λZ Z Z Z=>ma) (λZ Z Z Z=>ma) (λZ Z Z=>ma) (λZ Z Z=>ma) (λZ Z Z Z=>ma) (λZ Z Z Z=>ma) (λZ Z Z Z Z=>ma) (λZ Z Z Z=>ma) (λZ Z=>ma) (λZ Z=>ma) (λZ Z=>ma) (λZ Z Z Z=>ma) (λZ Z Z Z=>ma) (λZ Z Z Z=>ma) (λZ Z h=>k _ _ h) (λZ Z Z=>ma) (λZ Z Z=>ma) (λZ Z Z=>ma) (λZ Z=>ma) (λZ Z=>ma) (λZ Z=>ma) (λZ Z Z=>ma) (λZ Z Z Z=>ma) h
noncomputable def Ab(x:aa)(f:aa->Int->(Option aa)->Bool):Bool:=aG (motive_1:=λZ=>Bool) x (λZ Z Z=>false) (λZ Z Z=>false) (λZ Z Z Z=>false) (λZ Z Z=>false) (λZ Z Z Z=>false) (λZ Z Z Z=>false) (λZ Z Z=>false) (λZ Z Z=>false) (λZ Z Z Z=>false) (λZ Z Z Z=>false) (λZ Z Z Z Z=>false) (λZ Z Z Z=>false) (λZ Z=>false) (λZ Z=>false) (λZ Z=>false) (λZ Z Z Z=>false) (λZ Z Z Z=>false) (λy i sp Z=>f y i sp) (λZ Z=>false) (λZ Z Z=>false) (λZ Z Z=>false) (λZ Z Z=>false) (λZ Z=>false) (λZ Z=>false) (λZ Z=>false) (λZ Z Z=>false) (λZ Z Z Z=>false)
theorem EN{x:aa}{f:aa->Int->(Option aa)->Bool}{P:aa->Prop}(h:Ab x f=true)(k:∀y i sp p,f y i sp=true->P (.FormattedValue y i sp p)):P x:=aG (motive_1:=λx=>Ab x f=true->P x) x (λZ Z Z=>ma) (λZ Z Z=>ma) (λZ Z Z Z=>ma) (λZ Z Z=>ma) (λZ Z Z Z=>ma) (λZ Z Z Z=>ma) (λZ Z Z=>ma) (λZ Z Z=>ma) (λZ Z Z Z=>ma) (λZ Z Z Z=>ma) (λZ Z Z Z Z=>ma) (λZ Z Z Z=>ma) (λZ Z=>ma) (λZ Z=>ma) (λZ Z=>ma) (λZ Z Z Z=>ma) (λZ Z Z Z=>ma) (λZ Z Z Z h=>k _ _ _ _ h) (λZ Z=>ma) (λZ Z Z=>ma) (λZ Z Z=>ma) (λZ Z Z=>ma) (λZ Z=>ma) (λZ Z=>ma) (λZ Z=>ma) (λZ Z Z=>ma) (λZ Z Z Z=>ma) h
noncomputable def ro(x:aa)(f:kZ->Bool):Bool:=aG (motive_1:=λZ=>Bool) x (λZ Z Z=>false) (λZ Z Z=>false) (λZ Z Z Z=>false) (λZ Z Z=>false) (λZ Z Z Z=>false) (λZ Z Z Z=>false) (λZ Z Z=>false) (λZ Z Z=>false) (λZ Z Z Z=>false) (λZ Z Z Z=>false) (λZ Z Z Z Z=>false) (λZ Z Z Z=>false) (λZ Z=>false) (λZ Z=>false) (λZ Z=>false) (λZ Z Z Z=>false) (λZ Z Z Z=>false) (λZ Z Z Z=>false) (λZ Z=>false) (λc Z Z=>f c) (λZ Z Z=>false) (λZ Z Z=>false) (λZ Z=>false) (λZ Z=>false) (λZ Z=>false) (λZ Z Z=>false) (λZ Z Z Z=>false)
theorem qS{x:aa}{f:kZ->Bool}{P:aa->Prop}(h:ro x f=true)(k:∀c k p,f c=true->P (.Constant c k p)):P x:=aG (motive_1:=λx=>ro x f=true->P x) x (λZ Z Z=>ma) (λZ Z Z=>ma) (λZ Z Z Z=>ma) (λZ Z Z=>ma) (λZ Z Z Z=>ma) (λZ Z Z Z=>ma) (λZ Z Z=>ma) (λZ Z Z=>ma) (λZ Z Z Z=>ma) (λZ Z Z Z=>ma) (λZ Z Z Z Z=>ma) (λZ Z Z Z=>ma) (λZ Z=>ma) (λZ Z=>ma) (λZ Z=>ma) (λZ Z Z Z=>ma) (λZ Z Z Z=>ma) (λZ Z Z Z=>ma) (λZ Z=>ma) (λZ Z Z h=>k _ _ _ h) (λZ Z Z=>ma) (λZ Z Z=>ma) (λZ Z=>ma) (λZ Z=>ma) (λZ Z=>ma) (λZ Z Z=>ma) (λZ Z Z Z=>ma) h
noncomputable def xu(x:aa)(f:aa->(List fj)->fP->Bool):Bool:=aG (motive_1:=λZ=>Bool) x (λZ Z Z=>false) (λZ Z Z=>false) (λZ Z Z Z=>false) (λZ Z Z=>false) (λZ Z Z Z=>false) (λZ Z Z Z=>false) (λZ Z Z=>false) (λZ Z Z=>false) (λy gs sc Z=>f y gs sc) (λZ Z Z Z=>false) (λZ Z Z Z Z=>false) (λZ Z Z Z=>false) (λZ Z=>false) (λZ Z=>false) (λZ Z=>false) (λZ Z Z Z=>false) (λZ Z Z Z=>false) (λZ Z Z Z=>false) (λZ Z=>false) (λZ Z Z=>false) (λZ Z Z=>false) (λZ Z Z=>false) (λZ Z=>false) (λZ Z=>false) (λZ Z=>false) (λZ Z Z=>false) (λZ Z Z Z=>false)
theorem yO{x:aa}{f:aa->(List fj)->fP->Bool}{P:aa->Prop}(h:xu x f=true)(k:∀y gs sc p,f y gs sc=true->P (.ListComp y gs sc p)):P x:=aG (motive_1:=λx=>xu x f=true->P x) x (λZ Z Z=>ma) (λZ Z Z=>ma) (λZ Z Z Z=>ma) (λZ Z Z=>ma) (λZ Z Z Z=>ma) (λZ Z Z Z=>ma) (λZ Z Z=>ma) (λZ Z Z=>ma) (λZ Z Z Z h=>k _ _ _ _ h) (λZ Z Z Z=>ma) (λZ Z Z Z Z=>ma) (λZ Z Z Z=>ma) (λZ Z=>ma) (λZ Z=>ma) (λZ Z=>ma) (λZ Z Z Z=>ma) (λZ Z Z Z=>ma) (λZ Z Z Z=>ma) (λZ Z=>ma) (λZ Z Z=>ma) (λZ Z Z=>ma) (λZ Z Z=>ma) (λZ Z=>ma) (λZ Z=>ma) (λZ Z=>ma) (λZ Z Z=>ma) (λZ Z Z Z=>ma) h
noncomputable def xv(st:bI)(f:aa->Bool):Bool:=br (motive_2:=λZ=>Bool) st (λZ Z Z Z Z Z Z Z Z Z=>false) (λZ Z Z Z Z Z Z Z Z Z=>false) (λZ Z Z Z Z Z Z Z Z Z Z=>false) (λZ Z=>false) (λZ Z=>false) (λZ Z Z=>false) (λZ Z Z Z Z Z Z=>false) (λZ Z Z Z=>false) (λZ Z Z Z Z=>false) (λZ Z Z Z Z=>false) (λZ Z Z Z Z=>false) (λZ Z Z Z=>false) (λZ Z Z Z=>false) (λZ Z Z=>false) (λZ Z Z=>false) (λZ Z Z=>false) (λZ Z Z=>false) (λZ Z Z Z Z=>false) (λZ Z Z Z Z=>false) (λZ Z Z=>false) (λZ Z=>false) (λZ Z Z Z=>false) (λZ Z=>false) (λZ Z=>false) (λx Z=>f x) (λZ=>false) (λZ=>false) (λZ=>false)
theorem yP{x:bI}{f:aa->Bool}{P:bI->Prop}(h:xv x f=true)(k:∀x p,f x=true->P (.Expr x p)):P x:=br (motive_2:=λx=>xv x f=true->P x) x (λZ Z Z Z Z Z Z Z Z Z=>ma) (λZ Z Z Z Z Z Z Z Z Z=>ma) (λZ Z Z Z Z Z Z Z Z Z Z=>ma) (λZ Z=>ma) (λZ Z=>ma) (λZ Z Z=>ma) (λZ Z Z Z Z Z Z=>ma) (λZ Z Z Z=>ma) (λZ Z Z Z Z=>ma) (λZ Z Z Z Z=>ma) (λZ Z Z Z Z=>ma) (λZ Z Z Z=>ma) (λZ Z Z Z=>ma) (λZ Z Z=>ma) (λZ Z Z=>ma) (λZ Z Z=>ma) (λZ Z Z=>ma) (λZ Z Z Z Z=>ma) (λZ Z Z Z Z=>ma) (λZ Z Z=>ma) (λZ Z=>ma) (λZ Z Z Z=>ma) (λZ Z=>ma) (λZ Z=>ma) (λZ Z h=>k _ _ h) (λZ=>ma) (λZ=>ma) (λZ=>ma) h
noncomputable def tC(st:bI)(f:(List aa)->aa->Bool):Bool:=br (motive_2:=λZ=>Bool) st (λZ Z Z Z Z Z Z Z Z Z=>false) (λZ Z Z Z Z Z Z Z Z Z=>false) (λZ Z Z Z Z Z Z Z Z Z Z=>false) (λZ Z=>false) (λZ Z=>false) (λzs x Z=>f zs x) (λZ Z Z Z Z Z Z=>false) (λZ Z Z Z=>false) (λZ Z Z Z Z=>false) (λZ Z Z Z Z=>false) (λZ Z Z Z Z=>false) (λZ Z Z Z=>false) (λZ Z Z Z=>false) (λZ Z Z=>false) (λZ Z Z=>false) (λZ Z Z=>false) (λZ Z Z=>false) (λZ Z Z Z Z=>false) (λZ Z Z Z Z=>false) (λZ Z Z=>false) (λZ Z=>false) (λZ Z Z Z=>false) (λZ Z=>false) (λZ Z=>false) (λZ Z=>false) (λZ=>false) (λZ=>false) (λZ=>false)
theorem vB{x:bI}{f:(List aa)->aa->Bool}{P:bI->Prop}(h:tC x f=true)(k:∀zs x p,f zs x=true->P (.Assign zs x p)):P x:=br (motive_2:=λx=>tC x f=true->P x) x (λZ Z Z Z Z Z Z Z Z Z=>ma) (λZ Z Z Z Z Z Z Z Z Z=>ma) (λZ Z Z Z Z Z Z Z Z Z Z=>ma) (λZ Z=>ma) (λZ Z=>ma) (λZ Z Z h=>k _ _ _ h) (λZ Z Z Z Z Z Z=>ma) (λZ Z Z Z=>ma) (λZ Z Z Z Z=>ma) (λZ Z Z Z Z=>ma) (λZ Z Z Z Z=>ma) (λZ Z Z Z=>ma) (λZ Z Z Z=>ma) (λZ Z Z=>ma) (λZ Z Z=>ma) (λZ Z Z=>ma) (λZ Z Z=>ma) (λZ Z Z Z Z=>ma) (λZ Z Z Z Z=>ma) (λZ Z Z=>ma) (λZ Z=>ma) (λZ Z Z Z=>ma) (λZ Z=>ma) (λZ Z=>ma) (λZ Z=>ma) (λZ=>ma) (λZ=>ma) (λZ=>ma) h
noncomputable def EG(st:bI)(f:aa->jU->aa->Bool):Bool:=br (motive_2:=λZ=>Bool) st (λZ Z Z Z Z Z Z Z Z Z=>false) (λZ Z Z Z Z Z Z Z Z Z=>false) (λZ Z Z Z Z Z Z Z Z Z Z=>false) (λZ Z=>false) (λZ Z=>false) (λZ Z Z=>false) (λZ Z Z Z Z Z Z=>false) (λz o x Z=>f z o x) (λZ Z Z Z Z=>false) (λZ Z Z Z Z=>false) (λZ Z Z Z Z=>false) (λZ Z Z Z=>false) (λZ Z Z Z=>false) (λZ Z Z=>false) (λZ Z Z=>false) (λZ Z Z=>false) (λZ Z Z=>false) (λZ Z Z Z Z=>false) (λZ Z Z Z Z=>false) (λZ Z Z=>false) (λZ Z=>false) (λZ Z Z Z=>false) (λZ Z=>false) (λZ Z=>false) (λZ Z=>false) (λZ=>false) (λZ=>false) (λZ=>false)
theorem GP{x:bI}{f:aa->jU->aa->Bool}{P:bI->Prop}(h:EG x f=true)(k:∀z o x p,f z o x=true->P (.AugAssign z o x p)):P x:=br (motive_2:=λx=>EG x f=true->P x) x (λZ Z Z Z Z Z Z Z Z Z=>ma) (λZ Z Z Z Z Z Z Z Z Z=>ma) (λZ Z Z Z Z Z Z Z Z Z Z=>ma) (λZ Z=>ma) (λZ Z=>ma) (λZ Z Z=>ma) (λZ Z Z Z Z Z Z=>ma) (λZ Z Z Z h=>k _ _ _ _ h) (λZ Z Z Z Z=>ma) (λZ Z Z Z Z=>ma) (λZ Z Z Z Z=>ma) (λZ Z Z Z=>ma) (λZ Z Z Z=>ma) (λZ Z Z=>ma) (λZ Z Z=>ma) (λZ Z Z=>ma) (λZ Z Z=>ma) (λZ Z Z Z Z=>ma) (λZ Z Z Z Z=>ma) (λZ Z Z=>ma) (λZ Z=>ma) (λZ Z Z Z=>ma) (λZ Z=>ma) (λZ Z=>ma) (λZ Z=>ma) (λZ=>ma) (λZ=>ma) (λZ=>ma) h
noncomputable def vE(st:bI)(f:(Option aa)->Bool):Bool:=br (motive_2:=λZ=>Bool) st (λZ Z Z Z Z Z Z Z Z Z=>false) (λZ Z Z Z Z Z Z Z Z Z=>false) (λZ Z Z Z Z Z Z Z Z Z Z=>false) (λx Z=>f x) (λZ Z=>false) (λZ Z Z=>false) (λZ Z Z Z Z Z Z=>false) (λZ Z Z Z=>false) (λZ Z Z Z Z=>false) (λZ Z Z Z Z=>false) (λZ Z Z Z Z=>false) (λZ Z Z Z=>false) (λZ Z Z Z=>false) (λZ Z Z=>false) (λZ Z Z=>false) (λZ Z Z=>false) (λZ Z Z=>false) (λZ Z Z Z Z=>false) (λZ Z Z Z Z=>false) (λZ Z Z=>false) (λZ Z=>false) (λZ Z Z Z=>false) (λZ Z=>false) (λZ Z=>false) (λZ Z=>false) (λZ=>false) (λZ=>false) (λZ=>false)
theorem Af{x:bI}{f:(Option aa)->Bool}{P:bI->Prop}(h:vE x f=true)(k:∀x p,f x=true->P (.Return x p)):P x:=br (motive_2:=λx=>vE x f=true->P x) x (λZ Z Z Z Z Z Z Z Z Z=>ma) (λZ Z Z Z Z Z Z Z Z Z=>ma) (λZ Z Z Z Z Z Z Z Z Z Z=>ma) (λZ Z h=>k _ _ h) (λZ Z=>ma) (λZ Z Z=>ma) (λZ Z Z Z Z Z Z=>ma) (λZ Z Z Z=>ma) (λZ Z Z Z Z=>ma) (λZ Z Z Z Z=>ma) (λZ Z Z Z Z=>ma) (λZ Z Z Z=>ma) (λZ Z Z Z=>ma) (λZ Z Z=>ma) (λZ Z Z=>ma) (λZ Z Z=>ma) (λZ Z Z=>ma) (λZ Z Z Z Z=>ma) (λZ Z Z Z Z=>ma) (λZ Z Z=>ma) (λZ Z=>ma) (λZ Z Z Z=>ma) (λZ Z=>ma) (λZ Z=>ma) (λZ Z=>ma) (λZ=>ma) (λZ=>ma) (λZ=>ma) h
noncomputable def EO(st:bI)(f:aa->(List Stmt)->(List Stmt)->Bool):Bool:=br (motive_2:=λZ=>Bool) st (λZ Z Z Z Z Z Z Z Z Z=>false) (λZ Z Z Z Z Z Z Z Z Z=>false) (λZ Z Z Z Z Z Z Z Z Z Z=>false) (λZ Z=>false) (λZ Z=>false) (λZ Z Z=>false) (λZ Z Z Z Z Z Z=>false) (λZ Z Z Z=>false) (λZ Z Z Z Z=>false) (λZ Z Z Z Z=>false) (λZ Z Z Z Z=>false) (λZ Z Z Z=>false) (λz l r Z=>f z l r) (λZ Z Z=>false) (λZ Z Z=>false) (λZ Z Z=>false) (λZ Z Z=>false) (λZ Z Z Z Z=>false) (λZ Z Z Z Z=>false) (λZ Z Z=>false) (λZ Z=>false) (λZ Z Z Z=>false) (λZ Z=>false) (λZ Z=>false) (λZ Z=>false) (λZ=>false) (λZ=>false) (λZ=>false)
theorem GV{x:bI}{f:aa->(List Stmt)->(List Stmt)->Bool}{P:bI->Prop}(h:EO x f=true)(k:∀z l r p,f z l r=true->P (.If z l r p)):P x:=br (motive_2:=λx=>EO x f=true->P x) x (λZ Z Z Z Z Z Z Z Z Z=>ma) (λZ Z Z Z Z Z Z Z Z Z=>ma) (λZ Z Z Z Z Z Z Z Z Z Z=>ma) (λZ Z=>ma) (λZ Z=>ma) (λZ Z Z=>ma) (λZ Z Z Z Z Z Z=>ma) (λZ Z Z Z=>ma) (λZ Z Z Z Z=>ma) (λZ Z Z Z Z=>ma) (λZ Z Z Z Z=>ma) (λZ Z Z Z=>ma) (λZ Z Z Z h=>k _ _ _ _ h) (λZ Z Z=>ma) (λZ Z Z=>ma) (λZ Z Z=>ma) (λZ Z Z=>ma) (λZ Z Z Z Z=>ma) (λZ Z Z Z Z=>ma) (λZ Z Z=>ma) (λZ Z=>ma) (λZ Z Z Z=>ma) (λZ Z=>ma) (λZ Z=>ma) (λZ Z=>ma) (λZ=>ma) (λZ=>ma) (λZ=>ma) h
noncomputable def xC(st:bI)(f:aa->(List Stmt)->(List Stmt)->Bool):Bool:=br (motive_2:=λZ=>Bool) st (λZ Z Z Z Z Z Z Z Z Z=>false) (λZ Z Z Z Z Z Z Z Z Z=>false) (λZ Z Z Z Z Z Z Z Z Z Z=>false) (λZ Z=>false) (λZ Z=>false) (λZ Z Z=>false) (λZ Z Z Z Z Z Z=>false) (λZ Z Z Z=>false) (λZ Z Z Z Z=>false) (λZ Z Z Z Z=>false) (λZ Z Z Z Z=>false) (λz l r Z=>f z l r) (λZ Z Z Z=>false) (λZ Z Z=>false) (λZ Z Z=>false) (λZ Z Z=>false) (λZ Z Z=>false) (λZ Z Z Z Z=>false) (λZ Z Z Z Z=>false) (λZ Z Z=>false) (λZ Z=>false) (λZ Z Z Z=>false) (λZ Z=>false) (λZ Z=>false) (λZ Z=>false) (λZ=>false) (λZ=>false) (λZ=>false)
theorem Cr{x:bI}{f:aa->(List Stmt)->(List Stmt)->Bool}{P:bI->Prop}(h:xC x f=true)(k:∀z l r p,f z l r=true->P (.While z l r p)):P x:=br (motive_2:=λx=>xC x f=true->P x) x (λZ Z Z Z Z Z Z Z Z Z=>ma) (λZ Z Z Z Z Z Z Z Z Z=>ma) (λZ Z Z Z Z Z Z Z Z Z Z=>ma) (λZ Z=>ma) (λZ Z=>ma) (λZ Z Z=>ma) (λZ Z Z Z Z Z Z=>ma) (λZ Z Z Z=>ma) (λZ Z Z Z Z=>ma) (λZ Z Z Z Z=>ma) (λZ Z Z Z Z=>ma) (λZ Z Z Z h=>k _ _ _ _ h) (λZ Z Z Z=>ma) (λZ Z Z=>ma) (λZ Z Z=>ma) (λZ Z Z=>ma) (λZ Z Z=>ma) (λZ Z Z Z Z=>ma) (λZ Z Z Z Z=>ma) (λZ Z Z=>ma) (λZ Z=>ma) (λZ Z Z Z=>ma) (λZ Z=>ma) (λZ Z=>ma) (λZ Z=>ma) (λZ=>ma) (λZ=>ma) (λZ=>ma) h
noncomputable def EM(st:bI)(f:aa->aa->(List Stmt)->(List Stmt)->Bool):Bool:=br (motive_2:=λZ=>Bool) st (λZ Z Z Z Z Z Z Z Z Z=>false) (λZ Z Z Z Z Z Z Z Z Z=>false) (λZ Z Z Z Z Z Z Z Z Z Z=>false) (λZ Z=>false) (λZ Z=>false) (λZ Z Z=>false) (λZ Z Z Z Z Z Z=>false) (λZ Z Z Z=>false) (λZ Z Z Z Z=>false) (λt i l r Z=>f t i l r) (λZ Z Z Z Z=>false) (λZ Z Z Z=>false) (λZ Z Z Z=>false) (λZ Z Z=>false) (λZ Z Z=>false) (λZ Z Z=>false) (λZ Z Z=>false) (λZ Z Z Z Z=>false) (λZ Z Z Z Z=>false) (λZ Z Z=>false) (λZ Z=>false) (λZ Z Z Z=>false) (λZ Z=>false) (λZ Z=>false) (λZ Z=>false) (λZ=>false) (λZ=>false) (λZ=>false)
theorem GS{x:bI}{f:aa->aa->(List Stmt)->(List Stmt)->Bool}{P:bI->Prop}(h:EM x f=true)(k:∀t i l r p,f t i l r=true->P (.For t i l r p)):P x:=br (motive_2:=λx=>EM x f=true->P x) x (λZ Z Z Z Z Z Z Z Z Z=>ma) (λZ Z Z Z Z Z Z Z Z Z=>ma) (λZ Z Z Z Z Z Z Z Z Z Z=>ma) (λZ Z=>ma) (λZ Z=>ma) (λZ Z Z=>ma) (λZ Z Z Z Z Z Z=>ma) (λZ Z Z Z=>ma) (λZ Z Z Z Z=>ma) (λZ Z Z Z Z h=>k _ _ _ _ _ h) (λZ Z Z Z Z=>ma) (λZ Z Z Z=>ma) (λZ Z Z Z=>ma) (λZ Z Z=>ma) (λZ Z Z=>ma) (λZ Z Z=>ma) (λZ Z Z=>ma) (λZ Z Z Z Z=>ma) (λZ Z Z Z Z=>ma) (λZ Z Z=>ma) (λZ Z=>ma) (λZ Z Z Z=>ma) (λZ Z=>ma) (λZ Z=>ma) (λZ Z=>ma) (λZ=>ma) (λZ=>ma) (λZ=>ma) h
noncomputable def onRaise(st:bI)(f:(Option aa)->(Option aa)->Bool):Bool:=br (motive_2:=λZ=>Bool) st (λZ Z Z Z Z Z Z Z Z Z=>false) (λZ Z Z Z Z Z Z Z Z Z=>false) (λZ Z Z Z Z Z Z Z Z Z Z=>false) (λZ Z=>false) (λZ Z=>false) (λZ Z Z=>false) (λZ Z Z Z Z Z Z=>false) (λZ Z Z Z=>false) (λZ Z Z Z Z=>false) (λZ Z Z Z Z=>false) (λZ Z Z Z Z=>false) (λZ Z Z Z=>false) (λZ Z Z Z=>false) (λZ Z Z=>false) (λZ Z Z=>false) (λZ Z Z=>false) (λa b Z=>f a b) (λZ Z Z Z Z=>false) (λZ Z Z Z Z=>false) (λZ Z Z=>false) (λZ Z=>false) (λZ Z Z Z=>false) (λZ Z=>false) (λZ Z=>false) (λZ Z=>false) (λZ=>false) (λZ=>false) (λZ=>false)
theorem Cm{x:bI}{f:(Option aa)->(Option aa)->Bool}{P:bI->Prop}(h:onRaise x f=true)(k:∀a b p,f a b=true->P (.Raise a b p)):P x:=br (motive_2:=λx=>onRaise x f=true->P x) x (λZ Z Z Z Z Z Z Z Z Z=>ma) (λZ Z Z Z Z Z Z Z Z Z=>ma) (λZ Z Z Z Z Z Z Z Z Z Z=>ma) (λZ Z=>ma) (λZ Z=>ma) (λZ Z Z=>ma) (λZ Z Z Z Z Z Z=>ma) (λZ Z Z Z=>ma) (λZ Z Z Z Z=>ma) (λZ Z Z Z Z=>ma) (λZ Z Z Z Z=>ma) (λZ Z Z Z=>ma) (λZ Z Z Z=>ma) (λZ Z Z=>ma) (λZ Z Z=>ma) (λZ Z Z=>ma) (λZ Z Z h=>k _ _ _ h) (λZ Z Z Z Z=>ma) (λZ Z Z Z Z=>ma) (λZ Z Z=>ma) (λZ Z=>ma) (λZ Z Z Z=>ma) (λZ Z=>ma) (λZ Z=>ma) (λZ Z=>ma) (λZ=>ma) (λZ=>ma) (λZ=>ma) h
noncomputable def Bq(st:bI)(f:(List Stmt)->(List ExceptHandler)->(List Stmt)->(List Stmt)->Bool):Bool:=br (motive_2:=λZ=>Bool) st (λZ Z Z Z Z Z Z Z Z Z=>false) (λZ Z Z Z Z Z Z Z Z Z=>false) (λZ Z Z Z Z Z Z Z Z Z Z=>false) (λZ Z=>false) (λZ Z=>false) (λZ Z Z=>false) (λZ Z Z Z Z Z Z=>false) (λZ Z Z Z=>false) (λZ Z Z Z Z=>false) (λZ Z Z Z Z=>false) (λZ Z Z Z Z=>false) (λZ Z Z Z=>false) (λZ Z Z Z=>false) (λZ Z Z=>false) (λZ Z Z=>false) (λZ Z Z=>false) (λZ Z Z=>false) (λl hs o f' Z=>f l hs o f') (λZ Z Z Z Z=>false) (λZ Z Z=>false) (λZ Z=>false) (λZ Z Z Z=>false) (λZ Z=>false) (λZ Z=>false) (λZ Z=>false) (λZ=>false) (λZ=>false) (λZ=>false)
theorem Br{x:bI}{f:(List Stmt)->(List ExceptHandler)->(List Stmt)->(List Stmt)->Bool}{P:bI->Prop}(h:Bq x f=true)(k:∀l hs o f' p,f l hs o f'=true->P (.Try l hs o f' p)):P x:=br (motive_2:=λx=>Bq x f=true->P x) x (λZ Z Z Z Z Z Z Z Z Z=>ma) (λZ Z Z Z Z Z Z Z Z Z=>ma) (λZ Z Z Z Z Z Z Z Z Z Z=>ma) (λZ Z=>ma) (λZ Z=>ma) (λZ Z Z=>ma) (λZ Z Z Z Z Z Z=>ma) (λZ Z Z Z=>ma) (λZ Z Z Z Z=>ma) (λZ Z Z Z Z=>ma) (λZ Z Z Z Z=>ma) (λZ Z Z Z=>ma) (λZ Z Z Z=>ma) (λZ Z Z=>ma) (λZ Z Z=>ma) (λZ Z Z=>ma) (λZ Z Z=>ma) (λZ Z Z Z Z h=>k _ _ _ _ _ h) (λZ Z Z Z Z=>ma) (λZ Z Z=>ma) (λZ Z=>ma) (λZ Z Z Z=>ma) (λZ Z=>ma) (λZ Z=>ma) (λZ Z=>ma) (λZ=>ma) (λZ=>ma) (λZ=>ma) h
noncomputable def Ae(st:bI)(f:cV->Bool):Bool:=br (motive_2:=λZ=>Bool) st (λZ Z Z Z Z Z Z Z Z Z=>false) (λZ Z Z Z Z Z Z Z Z Z=>false) (λZ Z Z Z Z Z Z Z Z Z Z=>false) (λZ Z=>false) (λZ Z=>false) (λZ Z Z=>false) (λZ Z Z Z Z Z Z=>false) (λZ Z Z Z=>false) (λZ Z Z Z Z=>false) (λZ Z Z Z Z=>false) (λZ Z Z Z Z=>false) (λZ Z Z Z=>false) (λZ Z Z Z=>false) (λZ Z Z=>false) (λZ Z Z=>false) (λZ Z Z=>false) (λZ Z Z=>false) (λZ Z Z Z Z=>false) (λZ Z Z Z Z=>false) (λZ Z Z=>false) (λZ Z=>false) (λZ Z Z Z=>false) (λZ Z=>false) (λZ Z=>false) (λZ Z=>false) (λp=>f p) (λZ=>false) (λZ=>false)
theorem ER{x:bI}{f:cV->Bool}{P:bI->Prop}(h:Ae x f=true)(k:∀p,f p=true->P (.Pass p)):P x:=br (motive_2:=λx=>Ae x f=true->P x) x (λZ Z Z Z Z Z Z Z Z Z=>ma) (λZ Z Z Z Z Z Z Z Z Z=>ma) (λZ Z Z Z Z Z Z Z Z Z Z=>ma) (λZ Z=>ma) (λZ Z=>ma) (λZ Z Z=>ma) (λZ Z Z Z Z Z Z=>ma) (λZ Z Z Z=>ma) (λZ Z Z Z Z=>ma) (λZ Z Z Z Z=>ma) (λZ Z Z Z Z=>ma) (λZ Z Z Z=>ma) (λZ Z Z Z=>ma) (λZ Z Z=>ma) (λZ Z Z=>ma) (λZ Z Z=>ma) (λZ Z Z=>ma) (λZ Z Z Z Z=>ma) (λZ Z Z Z Z=>ma) (λZ Z Z=>ma) (λZ Z=>ma) (λZ Z Z Z=>ma) (λZ Z=>ma) (λZ Z=>ma) (λZ Z=>ma) (λZ h=>k _ h) (λZ=>ma) (λZ=>ma) h
noncomputable def onStr(x:aa)(f:a9->Bool):Bool:=ro x λc=>match c with
 |.str s=>f s
 |_=>false
theorem xy{x:aa}{f:a9->Bool}{P:aa->Prop}(h:onStr x f=true)(k:∀s kd p,f s=true->P (.Constant (.str s) kd p)):P x:=qS h λc kd p h=>by
 cases c with
 |str s=>exact k s kd p h
 |_=>exact ma h
noncomputable def namesOk(vars:List (a9×Nat)):List Nat->List aa->Bool
 |[],xs=>xs.isEmpty
 |i::is,xs=>nX xs λx xs=>oq x (λn=>vars.lookup n==some i)&&namesOk vars is xs
noncomputable def AC:MX->Option MX
 |.tup ts=>some ts
 |_=>none
noncomputable def wS(vars:List (a9×Nat))(t:MX)(x:aa):Bool:=
 ((zg t).any λi=>oq x λn=>vars.lookup n==some i)||((AC t).any λts=>rq x λxs=>(rA ts).any λis=>namesOk vars is xs)
theorem tN{i:Nat}:zg t=some i->t=.var i:=by
 cases t<;>first | exact mr | exact λh=>congrArg MX.var (am h)
theorem wE{i:MX}:AC t=some i->t=.tup i:=by
 cases t<;>first | exact mr | exact λh=>congrArg MX.tup (am h)
theorem Dq{x:aa}(h:wS vars t x=true):
  (∃i n p,t=.var i/\x=.Name n p/\vars.lookup n=some i)\/∃ts is xs k p,t=.tup ts/\rA ts=some is/\x=.Tuple xs k p/\namesOk vars is xs=true:=by
 rcases yi h with h | h
 .refine l8 (oU h) λi e h=>?_;apply nx h;exact λn p h=>.inl ⟨i,n,p,tN e,rfl,eq_of_beq h⟩
 .refine l8 (oU h) λts e h=>?_;apply qT h;exact λxs k p h=>(oU h).elim λis h=>.inr ⟨ts,is,xs,k,p,wE e,h.1,rfl,h.2⟩
section
variable {c:Cx}{s:af}{q:Bool}
theorem pM(H:mB W c ρ φ σ s){x:a9}{i:Nat}{v:V}{Q:Unit->af->Prop}(hx:c.vars.lookup x=some i)(hi:i < ρ.length)(rv:mm W φ s.heap v y)(TC:loc=true->c.env.kindOf x=some .local)(h:∀s',Good W (uf loc c.env) φ s σ φ s'->mB W c (ρ.set i (some v)) φ σ s'->Q () s'):aM W.M A (fV c.env x y) Q E s:=by
 refine Hy H.ok H.inv hx hi rv TC λs' g ok' hfr=>h s' g ⟨g.inv,ok',H.frs.evo g.evo g.grows λb hb=>?_,H.sep⟩;refine sf (H.frs.mem hb) λh1 h2 h3=>?_
 by_cases ho:b∈uf loc c.env
 .right
  rcases nV (sm ho) with e | ⟨n,hn⟩
  .subst e;exact hfr h3
  .refine o9 h3 λo es ep e Z dd=>?_;refine nJ (H.ok.cell n b hn) λZ Z Z u SS Z=>?_;obtain ⟨o',e',d'⟩:=SS;rw[am (e.symm.trans e'),d'] at dd
   cases dd
 .left;intro hm
  rcases aH.mp hm with hm | hm
  .exact h1 hm
  .exact ho hm
theorem rB(H:mB W c ρ φ σ s){x:a9}{i:Nat}{v:V}{Q:Unit->af->Prop}(hx:c.vars.lookup x=some i)(hi:i < ρ.length)(rv:mm W φ s.heap v y)(TC:loc=true->c.env.kindOf x=some .local)(h:∀s',Good W (uf loc c.env) φ s σ φ s'->mB W c (ρ.set i (some v)) φ σ s'->Q () s'):aM W.M A (bindName c.env x y) Q E s:=
 wpAny_bindName (pM H hx hi rv TC h)
theorem Hp(Tb:∀x i,lv.lookup x=some i->c.vars.lookup x=some i/\(loc=true->c.env.kindOf x=some .local)):
  ∀{xs:List aa},namesOk lv is xs=true->∀{l:List V} {ys:List ae} {ρ ρ':mc} {s:af} {Q:Unit->af->Prop},mB W c ρ φ σ s->my W φ s.heap l ys->bindL is l ρ=some ρ'->
  (∀s',Good W (uf loc c.env) φ s σ φ s'->mB W c ρ' φ σ s'->Q () s')->aM W.M A (dG ((dv xs c.env).map (·.2)) ys) Q E s:=by
 induction is with
 |nil=>
  intro xs hc l ys ρ ρ' s Q H r e h;refine l8 (ms e) λZ e1 Rz=>?_;subst Rz;rw[qu e1] at r;rw[mP hc,show ys=[] from r];exact aO (h s (.refl H.inv) H)
 |cons i is ih=>
  intro xs hc l ys ρ ρ' s Q H r e h;apply oh hc;intro x xs' hc;refine pQ hc λhn hc=>?_;apply nx hn;intro n p hn;refine l8 (bs e) λv e1 e=>?_;refine l8 (bs e) λRs e2 e=>?_;refine nt (nW e2) λhi RA=>?_;subst RA;rw[vd e1] at r;refine mI r λy V2 Rz rv rl=>?_;subst Rz;show aM W.M A (do jo V2 (iM (.Name n p) c.env y);dG ((dv xs' c.env).map (·.2)) V2) Q E s;rw[fE];have hl:=Tb _ _ (eq_of_beq hn);refine ai (bn (ai (bQ (rB H hl.1 hi rv hl.2 λs' g H'=>?_))));exact ih hc H' (rl.evo (X:=φ++uf loc c.env) g.evo ((Apart.self _ _ _).append λb hb=>H.ok.ownApart b (sm hb)) g.grows) e λR3 g' YI=>h R3 (g.trans g') YI
theorem own_apart(H:mB W c ρ φ σ s):Apart W φ (φ++ownOf c.env) s.heap:=(Apart.self _ _ _).append H.ok.ownApart
theorem xh:∀{xs:List aa},namesOk vars is xs=true->∀{l:List V} {ρ ρ':mc},bindL is l ρ=some ρ'->l.length=xs.length:=by
 induction is with
 |nil=>
  intro xs hc l ρ ρ' e;refine l8 (ms e) λZ e1 Z=>?_;rw[qu e1,mP hc];rfl
 |cons i is ih=>
  intro xs hc l ρ ρ' e;apply oh hc;intro x xs' hc;refine l8 (bs e) λv e1 e=>?_;refine l8 (bs e) λRs Z e=>?_;rw[vd e1];exact congrArg jT (ih (b2 hc).2 e)
theorem tR:∀{xs:List aa},namesOk vars is xs=true->(dv xs env).length=xs.length/\(dv xs env).findIdx? (·.1)=none:=by
 induction is with
 |nil=>intro xs hc;rw[mP hc];exact⟨rfl,rfl⟩
 |cons i is ih=>
  intro xs hc;apply oh hc;intro x xs' hc;refine pQ hc λhn hc=>?_;apply nx hn;intro n p _;have ih:=ih hc;refine⟨congrArg jT ih.1,?_⟩;show ((false,iM (.Name n p) env)::dv xs' env).findIdx? (·.1)=none;rw[jF,ih.2];rfl
theorem BC(Tb:∀x i,lv.lookup x=some i->c.vars.lookup x=some i/\(loc=true->c.env.kindOf x=some .local))(hh:A.handled=none){x:aa}(hc:wS lv t x=true){v:V}{Q:Unit->af->Prop}(H:mB W c ρ φ σ s)(r:mm W φ s.heap v y)(e:nA t v ρ=some ρ')(h:∀s',Good W (uf loc c.env) φ s σ φ s'->mB W c ρ' φ σ s'->Q () s'):aM W.M A (iM x c.env y) Q E s:=by
 refine l8 (bs e) λis e1 f=>?_;refine l8 (bs f) λl e2 f'=>?_
 rcases Dq hc with ⟨i,n,p,rfl,rfl,hn⟩ | ⟨ts,is',xs,k,p,rfl,hv,rfl,hn⟩
 .rw[<-am e1,<-am e2] at f';refine l8 (bs f') λZ e3 f'=>?_;refine l8 (bs f') λRs e4 f'=>?_;have hi:=nW e4;rw[<-am f',<-hi.2,<-am e3] at h;rw[fE];exact ai (bQ (rB H (Tb _ _ hn).1 hi.1 r (Tb _ _ hn).2 h))
 .rw[am (e1.symm.trans hv)] at f';rw[qY e2] at r;refine mR r λa zs n RI Z hz ho rl=>?_;subst RI;have US:=tR (env:=c.env) hn;refine jG (items:=zs.toArray) hh ⟨_,ho,rfl,n,rfl⟩ (by rw[US.1,bF,rl.length,xh hn f']) US.2 λh' he=>?_;have k:∀b o,s.heap.get? b=some o->h'.get? b=some o:=λb o e=>he b o (aP (ch e)) e;have g:Good W [] φ s σ φ {s with heap:=h'}:=Good.keeps H.inv k;exact Hp Tb hn (H.good g) (g.repL rl) f' λs' g' H'=>h s' (g.up.trans g') H'
end
section
variable {W:Wd}{c:Cx}{own φ φ₀ Rm:List al}{σ σ':St}{s s' s₀:af}{ρ ρ':mc}{Q:fQ->af->Prop}{E:ae->af->Prop}{A:bc}{q:Bool}{d:Nat}
structure qB(W:Wd)(c:Cx)(F D:List al)(Ro:aQ):Prop where
 new:∀b∈F,Ro.get? b=none
 hid:∀b∈D,b∉W.hid
 notOwn:∀{b:al},b∈F->b∉ownOf c.env
 notFrs:∀{b:al},b∈F->b∉nT (c.env₀::c.out)
 base:W.base.StaysIn Ro
theorem qB.of(H:mB W c ρ φ σ s){D:List al}(hn:∀b∈F,s.heap.get? b=none)(hD:∀b∈D,b∈F):qB W c F D s.heap:=by
 refine⟨hn,λb hb hm=>?_,λ{b} hb hm=>?_,λ{b} hb hm=>?_,H.inv.base⟩
 .refine mF (H.inv.hid b hm) λo e=>?_;rw[hn b (hD b hb)] at e;cases e
 .rcases nV hm with q | ⟨n,Sy⟩
  .exact H.ok.there.elim λo e=>mr ((hn _ hb).symm.trans (q▸e.1))
  .exact (H.ok.cellThere Sy).elim λo e=>mr ((hn b hb).symm.trans e.1)
 .refine wj (H.frs.mem hm) λZ Z o Z Z e Z=>?_;rw[hn b hb] at e;cases e
theorem oV.good{it:It}{D:List al}(Rt:oV W A target it I F D T)(aw:qB W c F D Ro){i:Nat}(H:mB W c ρ φ σ s)(t:T i φ s.heap)(g:Good W (ownOf c.env) φ s σ' Rm s'):T i Rm s'.heap:=
 Rt.keep t g.evo (own_apart H) g.grows λb hb hm=>(aH.mp hm).elim (Rt.out t b hb).1 (aw.notOwn hb)
theorem mB.iter{D:List al}{t:Nat}(aw:qB W c F D Ro)(H:mB W c ρ φ σ s)(g:Good W F φ s σ φ {s with heap:=h',toks:=t})(hF:∀b∈F,b∉φ/\W.base.get? b=none/\(b∈W.hid\/∀o,s.heap.get? b=some o->∀xs n,o.data≠.seq xs n)):mB W c ρ φ σ {s with heap:=h',toks:=t}:=by
 refine⟨g.inv,H.ok.evo g.evo ((Apart.self _ _ _).append λb hb Z=>⟨(hF b hb).2.1,(hF b hb).2.2⟩) g.grows ?_ ?_,H.frs.evo g.evo g.grows λb hb=>.inl λhm=>?_,H.sep⟩
 .intro hm
  rcases aH.mp hm with hm | hm
  .exact H.ok.out.1 hm
  .exact aw.notOwn hm ax
 .intro n cc hn hm
  rcases aH.mp hm with hm | hm
  .exact (H.ok.cell n cc hn).1 hm
  .exact aw.notOwn hm (mem_ownOf hn)
 .rcases aH.mp hm with hm | hm
  .exact (H.frs.mem hb).1 hm
  .exact aw.notFrs hm hb
theorem Good.iter{t:Nat}(x:Good W own φ₀ s₀ σ φ s)(hn:∀b∈F,s₀.heap.get? b=none)(y:Good W F φ s σ' Rm {s with heap:=h',toks:=t}):Good W own φ₀ s₀ σ' Rm {s with heap:=h',toks:=t}:=by
 refine⟨x.grows.trans x.evo y.grows,x.evo.trans y.evo λb hb=>?_,y.inv,y.gens.trans x.gens,y.os.trans x.os⟩
 rcases aH.mp hb with hb | hb
 .exact (x.grows.either hb).imp (bD _) id
 .exact .inr (hn b hb)
theorem oV.apart{it:It}{D:List al}(Rt:oV W A target it I F D T){i:Nat}(t:T i φ s.heap)(hb:b∈F):b∉φ/\W.base.get? b=none/\(b∈W.hid\/∀o,s.heap.get? b=some o->∀xs n,o.data≠.seq xs n):=by
 refine EC (Rt.out t b hb) λh1 h2 o e Z h3=>?_;exact⟨h1,h2,h3.imp id λh3 o' e'=>am (e.symm.trans e')▸h3⟩
theorem mq.bodyE{o:Option γ}{f:γ->R mc (Fl×mc)}{k:Fl×mc->St->R mc (Fl×mc)}(h:mq W c own φ s ((R.opt o f).bind k) Q E)(h1:∀a,o=some a->mq W c own φ s ((f a).bind k) Q E->p):p:=by
 cases o with
 |none=>exact h.elim
 |some a=>exact h1 a rfl h
noncomputable def Dm(P:Pg)(C:Bool->Call)(q:Bool)(t:MX)(b:MS)(v:V)(ρ:mc)(σ:St):R mc (Fl×mc):=R.opt (nA t v ρ) λρ'=>dS P C q b ρ' σ
def LoopAt(W:Wd)(c:Cx)(φ₀:List al)(s₀:af)(T:Nat->List al->aQ->Prop)(r:Nat->Nat->mc->St->R mc (Fl×mc))(Q:fQ->af->Prop)(E:ae->af->Prop)(k:Nat)(s:af):Prop:=
 ∃i ρ σ φ,Good W (ownOf c.env) φ₀ s₀ σ φ s/\mB W c ρ φ σ s/\T i φ s.heap/\mq W c (ownOf c.env) φ₀ s₀ (r k i ρ σ) Q E
theorem LoopAt.elim{r:Nat->Nat->mc->St->R mc (Fl×mc)}(x:LoopAt W c φ₀ s₀ T r Q E k s)(f:∀i ρ σ φ,Good W (ownOf c.env) φ₀ s₀ σ φ s->mB W c ρ φ σ s->T i φ s.heap->mq W c (ownOf c.env) φ₀ s₀ (r k i ρ σ) Q E->p):p:=by
 refine sQ x λi ρ σ φ g H t h=>?_;exact f i ρ σ φ g H t h
theorem mq.turn{it:It}{f:V->mc->St->R mc (Fl×mc)}{i:Nat}(h:mq W c own φ s (pR it f k i ρ σ) Q E)(h1:it.at i σ=some none->mq W c own φ s (.ok (.next,ρ) σ) Q E->p)(h2:∀v k',k' < k->it.at i σ=some (some v)->mq W c own φ s ((f v ρ σ).bind (Mine.Internal.after (pR it f k' (i+1)))) Q E->p):p:=by
 cases k with
 |zero=>exact h.elim
 |succ k=>
  refine l8 (mq.opt h) λw RP h=>?_
  cases w with
  |none=>exact h1 RP h
  |some v=>exact h2 v k (bO k) RP h
theorem mq.turned{r:Nat->Nat->mc->St->R mc (Fl×mc)}{k' i:Nat}{x:Fl×mc}{f:fQ}(h:mq W c (ownOf c.env) φ₀ s₀ (Mine.Internal.after (r k' i) x σ) Q E)(hk:k' < k)(rf:rC W φ s.heap x.1 f)(g:Good W (ownOf c.env) φ₀ s₀ σ φ s)(H:mB W c x.2 φ σ s)(t:T i φ s.heap):(f=.next/\∃m,m < k/\LoopAt W c φ₀ s₀ T r Q E m s)\/∃v,f=.ret v/\Q (.ret v) s:=by
 obtain ⟨fl,RS⟩:=x
 cases fl with
 |next=>exact .inl ⟨rf,k',hk,i,RS,σ,φ,g,H,t,h⟩
 |ret v=>refine l8 rf λy e ry=>?_;exact .inr ⟨y,e,h φ (.ret y) s g ⟨y,rfl,ry⟩ H⟩
theorem CO{P:Pg}{C:Bool->Call}{b:MS}{it:It}{D:List al}(hh:A.handled=none)(ar:n0 A c q d)(hc:wS c.vars t target=true)(hb:qd P W c q A C b body)(Rt:oV W A target it I F D T)(aw:qB W c F D s₀.heap){fu i:Nat}(g:Good W (ownOf c.env) φ₀ s₀ σ φ s)(H:mB W c ρ φ σ s)(ht:T i φ s.heap)(h:mq W c (ownOf c.env) φ₀ s₀ (pR it (Dm P C q t b) fu i ρ σ) Q E):
  fH W.M A (.forLoop target (.ref I) body [] c.env) (λr s'=>match r with | .ok f=>Q f s' | .error e=>gU W.M A c.env E e s') s:=by
 refine codeAny_forLoop_any (LoopAt W c φ₀ s₀ T (pR it (Dm P C q t b)) Q E) (λk s x=>x.elim λi ρ σ φ g H ht h=>h.turn (λRP h=>?_) λv k' hk RP h=>?_) fu ⟨i,ρ,σ,φ,g,H,ht,h⟩
 .have hF:∀b∈D,s₀.heap.get? b=none/\b∉φ/\b∉W.hid/\W.base.get? b=none/\∀o,s.heap.get? b=some o->∀xs n,o.data≠.seq xs n:=λb hb=>
   have a:=Rt.apart ht (Rt.sub b hb)
   ⟨aw.new b (Rt.sub b hb),a.1,aw.hid b hb,a.2.1,a.2.2.resolve_left (aw.hid b hb)⟩
  exact Rt.done ht H.inv RP λh' tk hk=>eh (h φ .next _ (g.drop (t:=tk) hF hk) rfl (H.drop (t:=tk) (λb hb=>⟨(hF b hb).2.1,(hF b hb).2.2.1,(hF b hb).2.2.2.1,(hF b hb).2.2.2.2,aw.notOwn (Rt.sub b hb),aw.notFrs (Rt.sub b hb)⟩) hk (g.drop (t:=tk) hF hk).inv))
 .refine Rt.next ht H.inv RP λy h' tk gi rv TZ=>mq.bodyE (o:=nA t v ρ) (f:=λρ'=>dS P C q b ρ' σ) h λRs Tf h=>?_;have H₁:=mB.iter aw H gi λb hb=>Rt.apart ht hb;have g₁:=g.iter aw.new gi;refine BC (loc:=false) (λx i e=>⟨e,λq=>ma q⟩) hh hc H₁ rv Tf λRr RH Rw=>hb Rw ?_;refine mq.bindX h (g₁.trans RH) (λp RK RE f RG g' RD rf RU hk'=>?_) λRS RK RE e RG g' x RU he=>u7 ar g' RU x aw.base λR9 Sb Ss SU=>he R9 Sb SU Ss
  rcases hk'.turned hk rf g' RU (Rt.good aw Rw (Rt.good aw H₁ TZ RH) RD) with ⟨e,x⟩ | ⟨v,e,x⟩<;>(rw[e];exact x)
end
noncomputable def Wd.hides(W:Wd)(ws:List al):Wd:={W with hid:=ws++W.hid}
structure QU(W:Wd)(A:bc)(target:aa)(it:It)(I:al)(F D:List al)(T:Wd->Nat->List al->aQ->Prop):Prop where
 ok:oV W A target it I F D (T W)
 hid:∀a,oV (W.hide a) A target it I F D (T (W.hide a))
 move:∀{a:al} {φ:List al} {h h':aQ},T W 0 φ h->h.get? a=none->(∀b o,h.get? b=some o->h'.get? b=some o)->T (W.hide a) 0 φ h'
def nh(W:Wd)(c:Cx)(A:bc)(target:aa)(φ:List al)(s:af)(r:R Unit It)(Q E:ae->af->Prop):Prop:=
 match r with
 |.ok it σ'=>∀Rm s' ws I F D T,Good W [] φ s σ' Rm s'->Inv (W.hides ws) Rm σ' s'.heap->(∀b∈ws,s.heap.get? b=none)->(∀b∈F,s.heap.get? b=none)->(∀b∈D,b∉ws)->
   QU (W.hides ws) A target it I F D T->T (W.hides ws) 0 Rm s'.heap->Q (.ref I) s'
 |.exc _ σ'=>∀Rm e s',Good W [] φ s σ' Rm s'->nR W s.heap c.env₀.frame e s'.heap->E (.ref e) s'
 |.bad=>False
section
variable {c:Cx}{φ₀:List al}{s:af}{q:Bool}
theorem nh.step{r:R Unit It}(g:Good W [] φ s σ' Rm s')(h:nh W c A target φ s r Q E):nh W c A target Rm s' r Q E:=by
 cases r with
 |ok it RY=>exact λRN R3 ws I F D T g' i a b e x t=>h RN R3 ws I F D T (g.trans g') i (λb hb=>g.evo.fresh (a b hb)) (λb' hb=>g.evo.fresh (b b' hb)) e x t
 |exc u RY=>exact λRN e R3 g' x=>h RN e R3 (g.trans g') (x.born λb hb=>g.evo.fresh hb)
 |bad=>exact h
theorem nh.ofV{r:R Unit α}{k:α->St->R Unit It}{rep:List al->aQ->α->β->Prop}(h:nh W c A target φ s (r.bind k) Q E)(hk:∀v σ' Rm y s',r=.ok v σ'->Good W [] φ s σ' Rm s'->rep Rm s'.heap v y->nh W c A target Rm s' (k v σ') Q E->Q₁ y s'):mi W c φ s r rep Q₁ E:=by
 cases r with
 |ok v σ'=>exact λRm y s' g rp=>hk v σ' Rm y s' rfl g rp (nh.step g h)
 |exc u σ'=>exact λRm e s' g x=>h Rm e s' g x
 |bad=>exact h
theorem nh.opt{o:Option γ}{f:γ->R Unit It}(h:nh W c A target φ s (R.opt o f) Q E):∃a,o=some a/\nh W c A target φ s (f a) Q E:=by
 cases o with
 |none=>exact h.elim
 |some a=>exact⟨a,rfl,h⟩
theorem nh.gd[Decidable p]{r:R Unit It}(h:nh W c A target φ s (Mine.Internal.gd p r) Q E):p/\nh W c A target φ s r Q E:=by
 unfold Mine.Internal.gd at h
 by_cases hp:p
 .rw[if_pos hp] at h;exact⟨hp,h⟩
 .rw[if_neg hp] at h;exact h.elim
theorem vw{a:al}(hb:b∉W.hid)(e:h.get? b=some o)(ha:h.get? a=none):b∉(W.hide a).hid:=λhm=>by
 rcases bd.mp hm with q | q
 .rw[q,ha] at e;cases e
 .exact hb q
theorem my.moved{a:al}(r:my W φ h l ys)(ha:h.get? a=none)(k:∀b o,h.get? b=some o->h'.get? b=some o):my (W.hide a) φ h' l ys:=
 (r.hide ha).evo (X:=[]) (pP.of_keeps k) (Apart.nil _ _ _) (.refl _ _)
theorem Inv.fresh(i:Inv W φ σ s.heap){a:al}(ha:s.heap.get? a=none):a∉φ/\W.base.get? a=none:=⟨(i.notin ha).1,sB i.base ha⟩
theorem wL.moved{a t:al}{f:Nat->fq}(x:wL W φ h t f)(ha:h.get? a=none)(k:∀b o,h.get? b=some o->h'.get? b=some o):wL (W.hide a) φ h' t f:=by
 obtain ⟨h2,n,e⟩:=x;exact⟨⟨h2.1,vw h2.2 e ha⟩,n,k _ _ e⟩
theorem pB{t a:al}(e:h.get? t=some o)(ha:h.get? a=none):t≠a:=λq=>mr (ha.symm.trans (q▸e))
theorem nh.one{it:It}{T:Wd->Nat->List al->aQ->Prop}(h:nh W c A target φ s (.ok it σ) Q E)(i:Inv W φ σ s.heap)(sr:∀W:Wd,W.base.get? s.heap.objs.size=none->oV W A target it s.heap.objs.size [s.heap.objs.size] [s.heap.objs.size] (T W))(mv:∀{a:al} {φ:List al} {h h':aQ},T W 0 φ h->h.get? a=none->(∀b o,h.get? b=some o->h'.get? b=some o)->T (W.hide a) 0 φ h')(t:T W 0 φ (s.heap.push o)):Q (.ref s.heap.objs.size) {s with heap:=s.heap.push o}:=
 have hf:=mG s.heap;have f:=(i.fresh hf).2
 h φ _ [] s.heap.objs.size [s.heap.objs.size] [s.heap.objs.size] T (.push i _) (Good.push (own:=[]) i _).inv (λZ hb=>nomatch hb) (all1 hf) (λZ Z hb=>nomatch hb) ⟨sr W f,λa=>sr (W.hide a) f,mv⟩ t
theorem zj(hh:A.handled=none){x:ae}(i:Inv W φ σ s.heap)(r:mm W φ s.heap (.tup l) x)(h:nh W c A target φ s (.ok (.items l) σ) Q E):aM W.M A (iQ x) Q E s:=by
 refine mR r λt xs n RI ht hz e rl=>?_;subst RI;have hf:=mG s.heap
 refine jJ ⟨_,e,rfl,n,rfl⟩ (h.one i (T:=λW=>FZ W s.heap.objs.size t (uK xs) (λh i=>h.IsTupleIter s.heap.objs.size t i) l xs) (λW f=>src_tuple hh f (pB e hf)) (λT ha k=>?_)
  ⟨(i.fresh hf).1,⟨ht,n,av _ e⟩,⟨_,aU _ rfl,rfl,rfl⟩,(Good.push (own:=[]) i _).repL rl⟩)
 obtain ⟨h1,h2,⟨o,e1,r1⟩,r⟩:=T;exact⟨h1,h2.moved ha k,⟨o,k _ o e1,r1⟩,r.moved ha k⟩
theorem AI(hh:A.handled=none){x:ae}(i:Inv W φ σ s.heap)(r:mm W φ s.heap (.lst l) x)(h:nh W c A target φ s (.ok (.items l) σ) Q E):aM W.M A (iQ x) Q E s:=by
 refine mR r λt xs n RI ht hz e rl=>?_;subst RI;have hf:=mG s.heap
 refine fK ⟨_,e,rfl,n,rfl⟩ (h.one i (T:=λW=>FZ W s.heap.objs.size t (pp xs) (λh i=>h.IsListIter s.heap.objs.size t i) l xs) (λW f=>src_list hh f (pB e hf)) (λT ha k=>?_)
  ⟨(i.fresh hf).1,⟨ht,n,av _ e⟩,⟨_,aU _ rfl,rfl,rfl⟩,(Good.push (own:=[]) i _).repL rl⟩)
 obtain ⟨h1,h2,⟨o,e1,r1⟩,r⟩:=T;exact⟨h1,h2.moved ha k,⟨o,k _ o e1,r1⟩,r.moved ha k⟩
theorem AJ(hh:A.handled=none){x:ae}(i:Inv W φ σ s.heap)(hn:σ[n]?=some (.list l))(r:mm W φ s.heap (.obj n) x)(h:nh W c A target φ s (.ok (.live n) σ) Q E):aM W.M A (iQ x) Q E s:=by
 refine l8 r λt ht Rz=>?_;subst Rz;refine mI (i.rep n _ t hn ht) λxs m hz e rl=>?_;have hf:=mG s.heap;refine fK ⟨_,e,rfl,m,rfl⟩ (h.one i (T:=λZ=>HK s.heap.objs.size t n) (λW f=>Fd hh f (pB e hf)) (λT ha k=>?_) ⟨(i.fresh hf).1,ht,⟨_,aU _ rfl,rfl,rfl⟩⟩);obtain ⟨h1,h2,⟨o,e1,r1⟩⟩:=T;exact⟨h1,h2,⟨o,k _ o e1,r1⟩⟩
theorem uA(hh:A.handled=none){a b st:Int}{u v w:Tok}{r:al}(i:Inv W φ σ s.heap)(hr:IsRange s.heap r a b st u v w)(XO:eZ a b st=true)(hk:dc a b st=(k:Int))(h:nh W c A target φ s (.ok (.items ((az k).map λ(i:Nat)=>V.int (a+st * i))) σ) Q E):aM W.M A (iQ (.ref r)) Q E s:=by
 have hf:=mG s.heap;refine wpAny_pyIter_range hr XO (h.one i (T:=λZ=>C8 s.heap.objs.size a k st) (λW f=>src_range hh f) (λT ha k=>?_) ⟨(i.fresh hf).1,ce _,?_⟩)
 .obtain ⟨h1,h2,e1⟩:=T;exact⟨h1,h2,k _ _ e1⟩
 .have:=aU s.heap (o:={cls:=.type "range_iterator",data:=.fields #[cU a,cU (dc a b st),cU st]}) rfl;rw[hk] at this
  simpa [hk] using this
end
section
open AutoSeq1 (wpAny_loadPart')
section
variable {s:af}
theorem tw{it t:al}{i:Nat}{items:Array ae}{x:ae}(hit:s.heap.IsTupleIter it t i)(ht:s.heap.IsTuple t items)(hx:items[i]?=some x)(hQ:∀h',h'.IsTupleIter it t (i+1)->bX it s.heap h'->Q x {s with heap:=h'}):
  aM (b8 prog w) A (cW (.ref it)) Q E s:=by
 refine mM (id hit) λo ho hc hd=>?_;refine GN ht λol hol Z nl X7=>?_;unfold cW
 refine ai (fy (name:=cq "__next__") hit.typeIs eK
  (c7 eK hit.typeIs F.entry_tuple_iterator_next ?_ (F.args_tuple_iterator_next_1 _)))
 show aM _ _ (lX (.ref it) 0 >>= _) _ _ s;refine ai (bY ho hd (x:=.ref t) rfl ?_);show aM _ _ (if (cI t==d8)=true then _ else _) _ _ s;rw[if_neg (show ¬((cI t==d8)=true) from bR)];show aM _ _ (lX (.ref it) 1 >>= _) _ _ s;refine ai (bY ho hd (x:=.int i 0) rfl ?_);show aM _ _ (seqItems? (.ref t) >>= _) _ _ s;refine ai (eP hol X7 ?_);simp only[bU,hx];refine ai (fM ho hd (by simp) (aO ⟨x,rfl,aO (hQ _ ?_ (fc ..))⟩))
 exact⟨_,bP _ ho (cX (cm hd _)),(ie ..).trans hc,by
  rw[cm hd];simp [cU]⟩
end
end
section
variable {s:af}
theorem CK:2<=bM:=by rw[dq];decide
theorem all2{p:al->Prop}{a:al}(h:p a)(h':p b):∀x∈[a,b],p x:=λx hx=>(bd.mp hx).elim (λq=>q▸h) (all1 h' x)
theorem JJ{a x:al}(h:x∉[a,b]):x≠a/\x≠b:=⟨λq=>h (q▸ax),Cf λq=>h (aE _ q)⟩
theorem Rf{a x:al}(h1:x≠a)(h2:x≠b):x∉[a,b]:=λq=>(bd.mp q).elim h1 λq=>h2 (au.mp q)
end
section
variable {c:Cx}{s:af}
theorem Gp(h:aQ)(j:Nat):h.get? (h.objs.size+j)=none:=by
 cases q:h.get? (h.objs.size+j) with
 |none=>rfl
 |some o=>exact absurd (ch q) (dD.mpr (aA _ _))
end
section
variable {prog:cw}{w:dW}{A:bc}{E:ae->af->Prop}{s:af}
theorem zn{z:al}{k2:Nat}{xs ys:Array ae}{x a b:ae}(D:k8 z TI TO i1 i2 l1 l2)(hz:gM s.heap z TI TO .none)(SJ:du s.heap TI (.ref i1) (.ref i2))(Tg:du s.heap TO a b)(h1:s.heap.IsListIter i1 l1 k1)(h2:s.heap.IsTupleIter i2 l2 k2)(hl1:s.heap.IsList l1 xs)(S4:s.heap.IsTuple l2 ys)(hx:xs[k1]?=some x)(hy:ys[k2]?=some y)(hQ:∀h',gM h' z TI TO (cU s.heap.objs.size)->du h' TO x y->h'.IsListIter i1 l1 (k1+1)->h'.IsTupleIter i2 l2 (k2+1)->du h' s.heap.objs.size x y->h'.objs.size=s.heap.objs.size+1->
   (∀c o,c≠z->c≠TO->c≠i1->c≠i2->s.heap.get? c=some o->h'.get? c=some o)->Q (.ref s.heap.objs.size) {s with heap:=h'}):
  aM (b8 prog w) A (fY.«zip.__next__» ⟨[.ref z],[]⟩) (λfin s'=>∃v,fin=.done (.ret v)/\Q v s') E s:=by
 refine (ai (bY hz rfl (x:=.bool false) rfl ?_):aM _ _ (lX (.ref z) 2 >>= _) _ _ _);refine (ai (bY hz rfl (x:=.ref TI) rfl ?_):aM _ _ (lX (.ref z) 3 >>= _) _ _ _);refine ai (eP SJ rfl ?_);refine (ai ?_:aM _ _ (cJ (.ref z) >>= _) _ _ _);unfold cJ;refine ai (bY hz rfl (x:=.none) rfl (aO ?_));refine ai (lk ?_);refine ai (bY hz rfl (x:=.ref TO) rfl ?_);refine ai (eg hz (by simp) λRq hz₁ RL=>?_);replace hz₁:gM Rq z TI TO .ellipsis:=hz₁;refine ai ?_;refine ai (ai (iy ?_));show aM _ _ (cW (.ref i1) >>= _) _ _ _;refine ai (wpAny_nextOf_list_item (h1.extBut RL.extBut D.i1z) (hl1.extBut RL.extBut D.l1z) hx λRC Vz RX=>aO ?_);have hTO₂:du RC TO a b:=RX.extBut _ _ D.TOi1 (RL.extBut _ _ D.TOz Tg);refine ai (eP hTO₂ rfl ?_);refine ai (jn hTO₂ λRT hTO₃ RW=>?_);replace hTO₃:du RT TO x b:=hTO₃;refine ai (wpAny_letGo (aO ?_));refine ai (ai (iy ?_));show aM _ _ (cW (.ref i2) >>= _) _ _ _
 refine ai (tw (((h2.extBut RL.extBut D.i2z).extBut RX.extBut D.i12.symm).extBut RW.extBut D.TOi2.symm)
  (((S4.extBut RL.extBut D.l2z).extBut RX.extBut D.l2i1).extBut RW.extBut D.l2TO) hy λh₄ Vy SN=>aO ?_)
 have hTO₄:du h₄ TO x b:=SN.extBut _ _ D.TOi2 hTO₃;refine ai (eP hTO₄ rfl ?_);refine ai (jn hTO₄ λRR hTO₅ R1=>?_);replace hTO₅:du RR TO x y:=hTO₅;refine ai (wpAny_letGo (aO (aO ?_)));refine ai (eP hTO₅ rfl ?_);refine ai (wpAny_newTuple ?_)
 have hsz:RR.objs.size=s.heap.objs.size:=by rw[R1.1,SN.1,RW.1,RX.1,RL.1]
 have hz₅:gM RR z TI TO .ellipsis:=R1.extBut _ _ D.TOz.symm (SN.extBut _ _ D.i2z.symm (RW.extBut _ _ D.TOz.symm (RX.extBut _ _ D.i1z.symm hz₁)));have hk₅:∀c o,c≠z->c≠TO->c≠i1->c≠i2->s.heap.get? c=some o->RR.get? c=some o:=λc o c1 c2 c3 c4 e=>
  R1.extBut _ _ c2 (SN.extBut _ _ c4 (RW.extBut _ _ c2 (RX.extBut _ _ c3 (RL.extBut _ _ c1 e))))
 have h1₅:RR.IsListIter i1 l1 (k1+1):=((Vz.extBut RW.extBut D.TOi1.symm).extBut SN.extBut D.i12).extBut R1.extBut D.TOi1.symm;have h2₅:RR.IsTupleIter i2 l2 (k2+1):=Vy.extBut R1.extBut D.TOi2.symm;have hzlt:z < RR.objs.size:=ch hz₅;refine (ai ?_:aM _ _ (fb (.ref z) (.ref RR.objs.size) >>= _) _ _ _);unfold fb;have hz₆:gM (RR.push {cls:=.type "tuple",data:=.seq #[x,y]}) z TI TO .ellipsis:=av _ hz₅;refine ai (eg hz₆ (by simp) λWb hz₇ Tv=>?_);replace hz₇:gM Wb z TI TO (cU RR.objs.size):=hz₇;refine eg hz₇ (by simp) λTq hz₈ Tu=>?_;replace hz₈:gM Tq z TI TO (cU RR.objs.size):=hz₈;have up:∀c o,c≠z->RR.get? c=some o->Tq.get? c=some o:=λc o c1 e=>Tu.extBut _ _ c1 (Tv.extBut _ _ c1 (av _ e));have hT₈:du Tq RR.objs.size x y:=Tu.extBut _ _ (aY hzlt) (Tv.extBut _ _ (aY hzlt) (aU _ rfl))
 have hz8:Tq.objs.size=RR.objs.size+1:=by rw[Tu.1,Tv.1,ct]
 rw[hsz] at hz₈ hT₈ hz8;refine aO ⟨_,rfl,?_⟩;show Q (.ref RR.objs.size) _;rw[hsz];exact hQ Tq hz₈ (up _ _ D.TOz hTO₅) (h1₅.at λo e=>up _ o D.i1z e) (let ⟨o,e,r⟩:=h2₅;⟨o,up _ o D.i2z e,r⟩) hT₈ hz8 λc o c1 c2 c3 c4 e=>up c o c1 (hk₅ c o c1 c2 c3 c4 e)
theorem AQ{z:al}{xs:Array ae}{a b:ae}{Q:Fin->af->Prop}(hh:A.handled=none)(T0:i1≠z)(UF:l1≠z)(hz:gM s.heap z TI TO .none)(SJ:du s.heap TI (.ref i1) (.ref i2))(Tg:du s.heap TO a b)(h1:s.heap.IsListIter i1 l1 k1)(hl1:s.heap.IsList l1 xs)(hx:xs[k1]?=none)(hE:∀h' e,(∀c o,c≠z->c≠i1->s.heap.get? c=some o->h'.get? c=some o)->(∃o,h'.get? e=some o/\o.cls=.type "StopIteration")->E (.ref e) {s with heap:=h'}):
  aM (b8 prog w) A (fY.«zip.__next__» ⟨[.ref z],[]⟩) Q E s:=by
 refine (ai (bY hz rfl (x:=.bool false) rfl ?_):aM _ _ (lX (.ref z) 2 >>= _) _ _ _);refine (ai (bY hz rfl (x:=.ref TI) rfl ?_):aM _ _ (lX (.ref z) 3 >>= _) _ _ _);refine ai (eP SJ rfl ?_);refine (ai ?_:aM _ _ (cJ (.ref z) >>= _) _ _ _);unfold cJ;refine ai (bY hz rfl (x:=.none) rfl (aO ?_));refine ai (lk ?_);refine ai (bY hz rfl (x:=.ref TO) rfl ?_);refine ai (eg hz (by simp) λRq hz₁ RL=>?_);replace hz₁:gM Rq z TI TO .ellipsis:=hz₁;refine ai ?_;refine ai (ai (iy ?_));show aM _ _ (cW (.ref i1) >>= _) _ _ _;refine ai (wpAny_nextOf_list_end hh (h1.extBut RL.extBut T0) (hl1.extBut RL.extBut UF) hx λRC e RX he=>?_);refine l8 he λoe Wv Xg=>?_;have hz₂:gM RC z TI TO .ellipsis:=RX _ _ (bJ T0) hz₁
 have hez:e≠z:=λx=>by subst x;rw[hz₂] at Wv;cases Wv;simp at Xg
 exact eg hz₂ (by simp) λRT Z RW=>hE RT e (λc o c1 c3 x=>RW.extBut _ _ c1 (RX _ _ c3 (RL.extBut _ _ c1 x))) ⟨oe,RW.extBut _ _ hez Wv,Xg⟩
theorem v4{z:al}{k2:Nat}{xs ys:Array ae}{x a b:ae}{Q:Option ae->af->Prop}(D:k8 z TI TO i1 i2 l1 l2)(hz:gM s.heap z TI TO .none)(SJ:du s.heap TI (.ref i1) (.ref i2))(Tg:du s.heap TO a b)(h1:s.heap.IsListIter i1 l1 k1)(h2:s.heap.IsTupleIter i2 l2 k2)(hl1:s.heap.IsList l1 xs)(S4:s.heap.IsTuple l2 ys)(hx:xs[k1]?=some x)(hy:ys[k2]?=some y)(hQ:∀h',gM h' z TI TO (cU s.heap.objs.size)->du h' TO x y->h'.IsListIter i1 l1 (k1+1)->h'.IsTupleIter i2 l2 (k2+1)->du h' s.heap.objs.size x y->h'.objs.size=s.heap.objs.size+1->
   (∀c o,c≠z->c≠TO->c≠i1->c≠i2->s.heap.get? c=some o->h'.get? c=some o)->Q (some (.ref s.heap.objs.size)) {s with heap:=h'}):
  aM (b8 prog w) A (lg (.ref z)) Q E s:=by
 have hT:s.TypeIs (.ref z) "zip" := ⟨_,hz,rfl⟩;unfold lg
 exact ai (ix (fy (name:=cq "__next__") hT gm
  (c7 gm hT j4
   (zn D hz SJ Tg h1 h2 hl1 S4 hx hy λh' a1 a2 a3 a4 a5 a6 a7=>aO (hQ h' a1 a2 a3 a4 a5 a6 a7)) (jL _))))
theorem xV{z:al}{xs:Array ae}{a b:ae}{Q:Option ae->af->Prop}(hh:A.handled=none)(T0:i1≠z)(UF:l1≠z)(hz:gM s.heap z TI TO .none)(SJ:du s.heap TI (.ref i1) (.ref i2))(Tg:du s.heap TO a b)(h1:s.heap.IsListIter i1 l1 k1)(hl1:s.heap.IsList l1 xs)(hx:xs[k1]?=none)(hQ:∀h',(∀c o,c≠z->c≠i1->s.heap.get? c=some o->h'.get? c=some o)->Q none {s with heap:=h'}):aM (b8 prog w) A (lg (.ref z)) Q E s:=by
 have hT:s.TypeIs (.ref z) "zip" := ⟨_,hz,rfl⟩;unfold lg
 refine ai (ix (fy (name:=cq "__next__") hT gm
  (c7 gm hT j4 (AQ hh T0 UF hz SJ Tg h1 hl1 hx λh' e hk he=>?_) (jL _))))
 refine l8 he λo ho hc=>?_;refine ai (wpAny_isInstance (T:="StopIteration") (b:=true) ⟨o,ho,hc⟩ isSubtype_stop ?_);exact aO (hQ _ hk)
noncomputable abbrev Ps(h:aQ)(l1:al):aQ:=h.push {cls:=.type "list_iterator",data:=.fields #[.ref l1,.int 0 0]}
noncomputable abbrev Pt(h:aQ)(l1 l2:al):aQ:=(Ps h l1).push {cls:=.type "tuple_iterator",data:=.fields #[.ref l2,.int 0 0]}
noncomputable abbrev Pu(h:aQ)(l1 l2:al):aQ:=(Pt h l1 l2).push {cls:=.type "tuple",data:=.seq #[.ref h.objs.size,.ref (Ps h l1).objs.size]}
noncomputable abbrev Pv(h:aQ)(l1 l2:al):aQ:=(Pu h l1 l2).push {cls:=.type "tuple",data:=.seq #[.none,.none]}
noncomputable abbrev Kh(h:aQ)(l1 l2:al):aQ:=(Pv h l1 l2).push {cls:=.type "zip",data:=.fields #[.none,.bool false,.bool false,.ref (Pt h l1 l2).objs.size,.ref (Pu h l1 l2).objs.size]}
theorem yI(l1 l2:al)(xs ys:Array ae):
  Meets (fY.«zip.__new__» ⟨[.type "zip",.ref l1,.ref l2],[]⟩) (λZ R s=>s.heap.IsList l1 xs/\s.heap.IsTuple l2 ys/\
   R (.ok (.ret (.ref (Pv s.heap l1 l2).objs.size))) {s with heap:=Kh s.heap l1 l2}):=
 .of_wp λprog w A R s h=>by
  obtain ⟨hp,g,d,tk,os⟩:=s;refine sf h λhl1 S4 h=>?_;have S7:=sub_zip;have Yn:aQ.IsList (lU ⟨hp,g,d,tk,os⟩) l1 xs:=hl1;have Ym:aQ.IsTuple (lU ⟨hp.push {cls:=.type "list_iterator",data:=.fields #[.ref l1,.int 0 0]},g,d,tk,os⟩) l2 ys:=aQ.IsTuple.push S4 _
  wp_walk using wpAny_ctt,fK Yn,jJ Ym
  exact⟨_,rfl,h⟩
theorem Dp{xs ys:Array ae}(hl1:s.heap.IsList l1 xs)(S4:s.heap.IsTuple l2 ys)(h:∀h',gM h' (s.heap.objs.size+4) (s.heap.objs.size+2) (s.heap.objs.size+3) .none->du h' (s.heap.objs.size+2) (.ref s.heap.objs.size) (.ref (s.heap.objs.size+1))->
   du h' (s.heap.objs.size+3) .none .none->h'.IsListIter s.heap.objs.size l1 0->h'.IsTupleIter (s.heap.objs.size+1) l2 0->h'.objs.size=s.heap.objs.size+5->
   (∀c o,s.heap.get? c=some o->h'.get? c=some o)->Q (.ref (s.heap.objs.size+4)) {s with heap:=h'}):
  aM (b8 prog w) A (call (.type "zip") [.ref l1,.ref l2]) Q E s:=by
 refine callType_new F.called_zip (by decide) (F.typeCall_zip_2 _ _) (F.newCall_zip_2 _ _) (λobj=>F.args_object_init_3 obj _ _) F.entry_zip_new
  (yI l1 l2 xs ys) ⟨hl1,S4,?_⟩
 have z1:(Ps s.heap l1).objs.size=s.heap.objs.size+1:=ct ..
 have z2:(Pt s.heap l1 l2).objs.size=s.heap.objs.size+2:=by rw[ct,z1]
 have z3:(Pu s.heap l1 l2).objs.size=s.heap.objs.size+3:=by rw[ct,z2]
 have z4:(Pv s.heap l1 l2).objs.size=s.heap.objs.size+4:=by rw[ct,z3]
 have z5:(Kh s.heap l1 l2).objs.size=s.heap.objs.size+5:=by rw[ct,z4]
 have g5:(Kh s.heap l1 l2).get? (Pv s.heap l1 l2).objs.size=some _:=aU _ rfl;have g4:(Kh s.heap l1 l2).get? (Pu s.heap l1 l2).objs.size=some _:=av _ (aU _ rfl);have g3:(Kh s.heap l1 l2).get? (Pt s.heap l1 l2).objs.size=some _:=av _ (av _ (aU _ rfl));have g2:(Kh s.heap l1 l2).get? (Ps s.heap l1).objs.size=some _:=av _ (av _ (av _ (aU _ rfl)));have g1:(Kh s.heap l1 l2).get? s.heap.objs.size=some _:=av _ (av _ (av _ (av _ (aU _ rfl))));show _/\_;rw[z2,z3,z4] at g5;rw[z1,z2] at g3;rw[z3] at g4;rw[z1] at g2;rw[z4]
 exact⟨⟨_,g5,rfl⟩,h _ g5 g3 g4 ⟨_,g1,rfl,rfl⟩ ⟨_,g2,rfl,rfl⟩ z5 λc o x=>
  av _ (av _ (av _ (av _ (av _ x))))⟩
end
theorem FP{r:List V}{i:Nat}{v:V}(h:(zo l r)[i]?=some v):∃a b,l[i]?=some a/\r[i]?=some b/\v=.tup [a,b]:=by
 unfold zo at h;rw[cB] at h;refine l8 (ms h) λp hp e=>?_;have hp:=List.getElem?_zip_eq_some.mp hp;exact⟨p.1,p.2,hp.1,hp.2,e.symm⟩
theorem FO{r:List V}{i:Nat}(UT:l.length=r.length)(h:(zo l r)[i]?=none):l[i]?=none:=by
 rw[dy] at h ⊢;unfold zo at h;rw[ay,List.length_zip,UT,Nat.min_self] at h;rw[UT];exact h
theorem F4{p:al->Prop}{a c d:al}(h1:p a)(h2:p b)(h3:p c)(h4:p d):∀x∈[a,b,c,d],p x:=λx hx=>(bd.mp hx).elim (λq=>q▸h1) λhx=>(bd.mp hx).elim (λq=>q▸h2) (all2 h3 h4 x)
theorem Ex{a c d x:al}(h:x∉[a,b,c,d]):x≠a/\x≠b/\x≠c/\x≠d:=
 ⟨λq=>h (q▸ax),λq=>h (q▸aE _ ax),JJ λq=>h (aE _ (aE _ q))⟩
theorem PV{a c d x:al}(h1:x≠a)(h2:x≠b)(h3:x≠c)(h4:x≠d):x∉[a,b,c,d]:=λq=>(bd.mp q).elim h1 λq=>(bd.mp q).elim h2 λq=>Rf h3 h4 q
section
variable {W:Wd}{A:bc}{E:ae->af->Prop}{s:af}{φ:List al}{σ:St}
structure Da(W:Wd)(z TI TO i1 i2 l1 l2:al)(xs ys:List ae)(l r:List V)(i:Nat)(φ:List al)(h:aQ):Prop where
 h1:z∉φ
 h2:TO∉φ
 h3:i1∉φ
 h4:i2∉φ
 m1:wL W φ h l1 (pp xs)
 m2:wL W φ h l2 (uK ys)
 tI:TI∉φ/\TI∉W.hid
 e1:gM h z TI TO .none
 e2:du h TI (.ref i1) (.ref i2)
 e3:∃a b,du h TO a b
 i1:h.IsListIter i1 l1 i
 i2:h.IsTupleIter i2 l2 i
 r1:my W φ h l xs
 r2:my W φ h r ys
theorem BH{z:al}{f:ae}(x:gM h z TI TO f):zt h z:=.of x rfl rfl (by decide)
theorem Ak{t:al}(x:∃a b,du h t a b):∃o,h.get? t=some o/\o.cls≠.type "frame" := by
 refine wl x λa b e=>?_;exact⟨_,e,λq=>absurd (fF q) (by decide)⟩
theorem yW{t:al}{a b:ae}(x:du h t a b)(ev:pP X h h')(hX:t∉X):du h' t a b:=ev.exact x hX λq=>absurd (fF q) (by decide)
theorem Hh(hh:A.handled=none){Tc:List aa}{r:List V}{z:al}(D:k8 z TI TO i1 i2 l1 l2)(Tg:TO∈W.hid)(UT:l.length=r.length)(bz:W.base.get? z=none)(Xs:W.base.get? TO=none)(b1:W.base.get? i1=none)(b2:W.base.get? i2=none):
  oV W A (.Tuple Tc k pos) (.items (zo l r)) z [z,TO,i1,i2] [z,i1] (Da W z TI TO i1 i2 l1 l2 xs ys l r) where
 out:=by
  intro i φ h T;refine l8 (Ak T.e3) λo e c=>?_;exact F4 ((BH T.e1).out T.h1 bz) ⟨T.h2,Xs,o,e,c,.inl Tg⟩ ((oQ T.i1).out T.h3 b1) ((qz T.i2).out T.h4 b2)
 sub:=all2 ax (aE _ (aE _ ax))
 keep:=by
  intro i φ Rm X h h' T ev ap g hF;obtain ⟨h1,h2,h3,h4,m1,m2,SJ,e1,e2,⟨a,b,e3⟩,q1,q2,r1,r2⟩:=T
  exact⟨g.notin e1 h1,g.notin e3 h2,(oQ q1).notin g h3,(qz q2).notin g h4,m1.evo ev ap g yr,m2.evo ev ap g yt,⟨g.notin e2 SJ.1,SJ.2⟩,
   ev.exact e1 (hF z ax) (λq=>absurd (fF q) (by decide)),yW e2 ev (ap.seq SJ e2 ⟨_,_,rfl⟩),⟨a,b,yW e3 ev (hF TO (aE _ ax))⟩,
   xc q1 ev (hF i1 (aE _ (aE _ ax))),BA q2 ev (hF i2 (aE _ (aE _ (aE _ ax)))),r1.evo ev ap g,r2.evo ev ap g⟩
 next:=by
  intro i φ σ s v Qn Qs E T inv RP hq;obtain ⟨h1,h2,h3,h4,⟨m1,n1,g1⟩,⟨m2,n2,g2⟩,SJ,e1,e2,⟨a,b,e3⟩,q1,q2,r1,r2⟩:=T;refine mI (FP (am RP)) λva vb ha hb hv=>?_;refine l8 (r1.get ha) λx hx rx=>?_;refine l8 (r2.get hb) λy hy ry=>?_;have hf:=mG s.heap;refine v4 D e1 e2 e3 q1 q2 ⟨_,g1,rfl,n1,rfl⟩ ⟨_,g2,rfl,n2,rfl⟩ (FS hx) (FS hy) λh' a1 a2 a3 a4 a5 a6 hk=>wpAny_letOwnedTupleGo_zip a1 λSp W5 RQ=>?_;have up:∀{c:al} {o:fq},c≠z->h'.get? c=some o->Sp.get? c=some o:=λhc e=>(RQ.2 _ hc).trans e;have kp:∀b o,b∉[z,TO,i1,i2]->s.heap.get? b=some o->Sp.get? b=some o:=λb o hb eb=>up (Ex hb).1 (hk b o (Ex hb).1 (Ex hb).2.1 (Ex hb).2.2.1 (Ex hb).2.2.2 eb)
  have Xv:Sp.IsListIter i1 l1 (i+1):=by refine l8 a3 λo f q=>?_;exact⟨o,up D.i1z f,q⟩
  have Xu:Sp.IsTupleIter i2 l2 (i+1):=by refine l8 a4 λo f q=>?_;exact⟨o,up D.i2z f,q⟩
  have w:=Good.writes (t:=s.toks) inv (F:=[z,TO,i1,i2]) (h':=Sp) (F4 ⟨h1,bz,.inr λo q=>(BH e1).none q⟩ ⟨h2,Xs,.inl Tg⟩ ⟨h3,b1,.inr λo q=>(oQ q1).none q⟩ ⟨h4,b2,.inr λo q=>(qz q2).none q⟩)
   kp (F4 ⟨_,W5⟩ ⟨_,up D.TOz a2⟩ (oQ Xv).there (qz Xu).there)
  have WN:Sp.get? s.heap.objs.size=some (uK [x,y] _):=up (pB e1 hf).symm a5;rw[hv] at hq;exact hq _ Sp s.toks w.1 ⟨_,[x,y],_,rfl,inv.notin hf,CK,WN,.cons' (rx.evo w.2.1 w.2.2 (.refl _ _)) (.one (ry.evo w.2.1 w.2.2 (.refl _ _)))⟩
   ⟨h1,h2,h3,h4,⟨m1,n1,kp l1 _ (PV D.l1z D.l1TO D.l1i1 D.l1i2) g1⟩,⟨m2,n2,kp l2 _ (PV D.l2z D.l2TO D.l2i1 D.l2i2) g2⟩,SJ,W5,kp TI _ (PV D.TIz D.TITO D.TIi1 D.TIi2) e2,⟨x,y,up D.TOz a2⟩,Xv,Xu,r1.evo w.2.1 w.2.2 (.refl _ _),r2.evo w.2.1 w.2.2 (.refl _ _)⟩
 done:=by
  intro i φ σ s Qn Qs E T inv RP hq;obtain ⟨h1,h2,h3,h4,⟨m1,n1,g1⟩,⟨m2,n2,g2⟩,SJ,e1,e2,⟨a,b,e3⟩,q1,q2,r1,r2⟩:=T;exact xV hh D.i1z D.l1z e1 e2 e3 q1 ⟨_,g1,rfl,n1,rfl⟩ (wW r1 (FO UT (am RP))) λh' he=>hq h' s.toks λb o hb eb=>he b o (JJ hb).1 (JJ hb).2 eb
 self:=λT hq=>kq T.e1 hq
end
section
variable {c:Cx}{s:af}
theorem CX{z a:al}{r:List V}(T:Da W z TI TO i1 i2 l1 l2 xs ys l r 0 φ h)(ha:h.get? a=none)(k:∀b o,h.get? b=some o->h'.get? b=some o):Da (W.hide a) z TI TO i1 i2 l1 l2 xs ys l r 0 φ h':=by
 obtain ⟨h1,h2,h3,h4,m1,m2,SJ,e1,e2,⟨x,y,e3⟩,⟨o1,f1,d1⟩,⟨o2,f2,d2⟩,r1,r2⟩:=T;exact⟨h1,h2,h3,h4,m1.moved ha k,m2.moved ha k,⟨SJ.1,vw SJ.2 e2 ha⟩,k _ _ e1,k _ _ e2,⟨x,y,k _ _ e3⟩,⟨o1,k _ _ f1,d1⟩,⟨o2,k _ _ f2,d2⟩,r1.moved ha k,r2.moved ha k⟩
theorem Po(hh:A.handled=none){Tc:List aa}{r:List V}{x:ae}(i:Inv W φ σ s.heap)(rx:mm W φ s.heap (.lst l) x)(ry:mm W φ s.heap (.tup r) y)(UT:l.length=r.length)(h:nh W c A (.Tuple Tc k pos) φ s (.ok (.items (zo l r)) σ) Q E):aM W.M A (call (.type "zip") [x,y]) (λy Rn=>aM W.M A (iQ y) Q E Rn) E s:=by
 refine mR rx λl1 xs n1 RI hl1 YQ g1 r1=>?_;subst RI;refine mR ry λl2 ys n2 RI S4 hz2 g2 r2=>?_;subst RI;have hfr:=Gp s.heap;have fr:∀j,s.heap.objs.size+j∉φ/\W.base.get? (s.heap.objs.size+j)=none:=λj=>i.fresh (hfr j)
 have D:k8 (s.heap.objs.size+4) (s.heap.objs.size+2) (s.heap.objs.size+3) (s.heap.objs.size+0) (s.heap.objs.size+1) l1 l2:=by
  constructor<;>first | exact pB g1 (hfr _) | exact pB g2 (hfr _) | (intro q;exact absurd (aL q) (by decide))
 have sr:∀W:Wd,s.heap.objs.size+3∈W.hid->(∀j,W.base.get? (s.heap.objs.size+j)=none)->oV W A (.Tuple Tc k pos) (.items (zo l r)) (s.heap.objs.size+4) [s.heap.objs.size+4,s.heap.objs.size+3,s.heap.objs.size+0,s.heap.objs.size+1] [s.heap.objs.size+4,s.heap.objs.size+0]
   (Da W (s.heap.objs.size+4) (s.heap.objs.size+2) (s.heap.objs.size+3) (s.heap.objs.size+0) (s.heap.objs.size+1) l1 l2 xs ys l r):=λW h0 h1=>Hh hh D h0 UT (h1 4) (h1 3) (h1 0) (h1 1)
 refine Dp ⟨_,g1,rfl,n1,rfl⟩ ⟨_,g2,rfl,n2,rfl⟩ λh' hz SJ Tg X2 X1 hsz hk=>kq hz ?_;have g:Good W [] φ s σ φ {s with heap:=h'}:=Good.keeps i hk;have out:∀{t o},t∉W.hid->t≠s.heap.objs.size+3->(W.hides [s.heap.objs.size+3]).hid=o->t∉(W.hides [s.heap.objs.size+3]).hid:=λh1 h2 Z hm=>(bd.mp hm).elim h2 h1;exact h φ _ [s.heap.objs.size+3] (s.heap.objs.size+4) [s.heap.objs.size+4,s.heap.objs.size+3,s.heap.objs.size+0,s.heap.objs.size+1] [s.heap.objs.size+4,s.heap.objs.size+0]
  (λW=>Da W (s.heap.objs.size+4) (s.heap.objs.size+2) (s.heap.objs.size+3) (s.heap.objs.size+0) (s.heap.objs.size+1) l1 l2 xs ys l r)
  g (i.hide (hfr 3) hk ⟨_,Tg⟩) (all1 (hfr 3)) (F4 (hfr _) (hfr _) (hfr _) (hfr _)) (all2 (λq=>absurd (aL (au.mp q)) (by decide)) λq=>absurd (aL (au.mp q)) (by decide))
  ⟨sr _ ax λj=>(fr j).2,λa=>sr _ (aE _ ax) λj=>(fr j).2,CX⟩
  ⟨(fr 4).1,(fr 3).1,(fr 0).1,(fr 1).1,⟨⟨hl1.1,out hl1.2 (pB g1 (hfr 3)) rfl⟩,n1,hk _ _ g1⟩,⟨⟨S4.1,out S4.2 (pB g2 (hfr 3)) rfl⟩,n2,hk _ _ g2⟩,⟨(fr 2).1,out (i.notin (hfr 2)).2 (λq=>absurd (aL q) (by decide)) rfl⟩,hz,SJ,⟨_,_,Tg⟩,X2,X1,r1.moved (hfr 3) hk,r2.moved (hfr 3) hk⟩
end
def uX(P:Pg)(W:Wd)(c:Cx)(q:Bool)(A:bc)(C:Call)(target:aa)(e:MX)(x:aa):Prop:=∀⦃ρ:mc⦄ ⦃φ:List al⦄ ⦃σ:St⦄ ⦃s:af⦄ ⦃Q:ae->af->Prop⦄ ⦃E:ae->af->Prop⦄,
 mB W c ρ φ σ s->nh W c A target φ s (dI P q C e ρ σ) Q E->aM W.M A (eval x c.env) (λy Rn=>aM W.M A (iQ y) Q E Rn) E s
theorem Ao(n:Int):oF n=(az n.toNat).map λ(i:Nat)=>V.int (0+1 * i):=by
 unfold oF;refine cz λi Z=>?_;rw[Int.one_mul,lM]
theorem xH(n:Int):sF n=(az (n+1).toNat).map λ(i:Nat)=>V.int (n+(-1) * i):=by
 unfold sF;refine cz λi Z=>?_;rw[Int.neg_mul,Int.one_mul,Int.sub_eq_add_neg]
section
variable {P:Pg}{c:Cx}{q:Bool}{C:Bool->Call}{s:af}
theorem J6(hh:A.handled=none){v:V}(i:Inv W φ σ s.heap)(rv:mm W φ s.heap v y)(h:nh W c A target φ s (uD v σ) Q E):aM W.M A (iQ y) Q E s:=by
 cases v with
 |tup l=>exact zj hh i rv h
 |lst l=>exact AI hh i rv h
 |obj n=>
  refine l8 (nh.opt h) λl hl h=>?_;exact AJ hh i (listAt_eq hl) rv h
 |_=>exact h.elim
theorem Gw(hh:A.handled=none){x:aa}(hp:∀ρ σ,dI P q (C q) e ρ σ=(dE P q (C q) e ρ σ).bind uD)(a:mz P W c q A (C q) e x):uX P W c q A (C q) target e x:=by
 intro ρ φ σ s Q E H h;rw[hp] at h;exact a H (nh.ofV h λv σ' Rm y s' Z g rv hk=>J6 hh g.inv rv hk)
theorem xI{n:Int}(h:0<=n):dc 0 n 1=(n.toNat:Int):=by
 rw[rangeSize_one];split
 .exact (Int.sub_zero n).trans (cy h).symm
 .rename_i q;rw[<-kI h (gL.mp q)];rfl
theorem rangeSize_down{n:Int}(h:-1<=n):dc n (-1) (-1)=((n+1).toNat:Int):=by
 have h0:(0:Int)<=n+1:=gc h 1;rw[cy h0];unfold dc;rw[if_neg (by decide)]
 split
 .rw[show -(-1:Int)=1 from rfl,Int.ediv_one,Int.sub_add_cancel];rfl
 .rename_i q;rw[<-kI h (gL.mp q)];rfl
theorem small_down{n:Int}(h:-1<=n)(h2:n<=100000):eZ n (-1) (-1)=true:=by
 unfold eZ;have h0:(0:Int)<=n+1:=gc h 1;rw[rangeSize_down h,cy h0];simp only[kQ,cx,iS,decide_eq_true_eq,beq_iff_eq,show ¬(-1:Int) > 0 by decide,if_false];exact⟨⟨⟨⟨Ll (b6 (by decide) h) (b6 h2 (by decide)),by decide⟩,by decide⟩,Ll (b6 (by decide) h0) (b6 (gc h2 1) (by decide))⟩,.inr (by decide)⟩
theorem Fa{n:Int}(h:0<=n/\n<=me):eZ 0 n 1=true:=by
 have h2:n<=100000:=h.2;exact small_one (by decide) (by decide) (b6 (by decide) h.1) (cY h2 (by decide))
theorem uP{n:Int}(r:my W φ h l ys)(e:(hd l).bind nu=some n):∃t zs,ys=.int n t::zs/\my W φ h (tl l) zs:=by
 refine l8 (bs e) λv e1 e2=>?_;rw[vd e1,m6 e2] at r;refine mI r λy zs e V0 r=>?_;obtain ⟨t,e'⟩:=V0;exact⟨t,zs,e.trans (congrArg (·::zs) e'),r⟩
theorem Hx(hh:A.handled=none)(i:Inv W φ σ s.heap)(rl:my W φ s.heap l ys)(h:nh W c A target φ s (wv l σ) Q E):aM W.M A (call (.type "range") ys) (λy Rn=>aM W.M A (iQ y) Q E Rn) E s:=by
 unfold wv at h
 cases e0:s7 (tl l) with
 |some u=>
  rw[e0] at h;refine l8 (nh.opt h) λn e1 h=>?_;refine mJ (uP rl e1) λt zs f1 rz=>?_;rw[qu e0] at rz;rw[f1,show zs=[] from rz];have hn:=h.gd.1;have h:=h.gd.2;have g1:Good W [] φ s σ φ {s with heap:=s.heap.push {cls:=.type "range",data:=.fields #[.int 0 s.toks,.int n t,.int 1 (s.toks+1)]},toks:=s.toks+1+1}:=(Good.push i _).trans (Good.tok (Good.push (own:=[]) i _).inv);rw[Ao] at h;exact call_range_1 (uA (c:=c) (target:=target) hh g1.inv (lR ..) (Fa hn) (xI hn.1) (nh.step g1 h))
 |none=>
  rw[e0] at h;refine l8 (nh.opt h) λa e1 h=>?_;refine l8 (nh.opt h) λb e2 h=>?_;refine l8 (nh.opt h) λk e3 h=>?_;refine l8 (nh.opt h) λu e4 h=>?_;refine mJ (uP rl e1) λt z1 f1 r1=>?_;refine mJ (uP r1 e2) λt2 z2 f2 r2=>?_;refine mJ (uP r2 e3) λt3 z3 f3 r3=>?_;rw[qu e4] at r3;rw[f1,f2,f3,show z3=[] from r3];refine vx h.gd.1 λhb hc Xd US=>?_;rw[hb,hc];have h:=h.gd.2;have g1:Good W [] φ s σ φ {s with heap:=s.heap.push {cls:=.type "range",data:=.fields #[.int a t,.int (-1) t2,.int (-1) t3]},toks:=s.toks}:=Good.push i _;rw[xH] at h;exact call_range_3 (by decide) (uA (c:=c) (target:=target) hh g1.inv (lR ..) (small_down Xd US) (rangeSize_down Xd) (nh.step g1 h)) (Or.inl (PyProof.noPylong_small (by decide)))
theorem Lm(hh:A.handled=none)(gl:oS G W mg mb){xs:List aa}{p:cV}(hc:nv c.ck "range" = true)(hs:xs.all mT=true)(a:nz P W c q A (C q) es xs):uX P W c q A (C q) target (.rng es) (.Call (.Name "range" p) xs [] pos):=by
 intro ρ φ σ s Q E H h;refine eX (ul gl (x:="range") (by decide) boot_range hc H ?_);rw[pc _ _ hs];exact oY (first:=[]) (ui a H (nh.ofV h λl σ' Rm ys s' Z g rl hk=>Hx hh g.inv rl hk))
theorem Ln(hh:A.handled=none)(gl:oS G W mg mb){p:cV}{Tc:List aa}{V4:cV}(hc:nv c.ck "zip" = true)(hs:mT RJ=true)(Ud:mT RB=true)(a:mz P W c q A (C q) RO RJ)(b:mz P W c q A (C q) RM RB):uX P W c q A (C q) (.Tuple Tc k V4) (.zip RO RM) (.Call (.Name "zip" p) [RJ,RB] [] pos):=by
 intro ρ φ σ s Q E H h;refine eX (ul gl (x:="zip") (by decide) boot_zip hc H ?_);rw[pc _ _ (show [RJ,RB].all mT=true from b5.mpr ⟨hs,b5.mpr ⟨Ud,rfl⟩⟩)];refine oY (first:=[]) (spliced_cons (a H (nh.ofV h λv σ' Rm y s' Z g rv hk=>?_)));refine spliced_cons (b (H.good g) (nh.ofV hk λTT RK RE Ut Rr Z RH T8 SH=>spliced_nil ?_));show aM W.M A (call (.type "zip") [y,Ut]) _ E Rr;refine l8 (nh.opt SH) λl e1 SH=>?_;refine l8 (nh.opt SH) λr e2 SH=>?_;rw[uQ e1] at rv;rw[qY e2] at T8;exact Po hh RH.inv (RH.rep rv) T8 SH.gd.1 SH.gd.2
end
def n9(P:Pg)(W:Wd)(c:Cx)(q:Bool)(A:bc)(C:Bool->Call)(b:MS)(st:Stmt):Prop:=∀⦃ρ:mc⦄ ⦃φ:List al⦄ ⦃σ:St⦄ ⦃s:af⦄ ⦃Q:fQ->af->Prop⦄ ⦃E:ae->af->Prop⦄,
 mB W c ρ φ σ s->mq W c (ownOf c.env) φ s (dS P C q b ρ σ) Q E->aM W.M A (exec st c.env) Q E s
theorem Inv.nobase(i:Inv W φ σ h){a:al}(ha:h.get? a=none):W.base.get? a=none:=sB i.base ha
noncomputable def uv:aa->Bool
 |.Set _ _ _=>false
 |_=>true
theorem tV{e:aa}:uv e=true->∀(env:eA) (x:ae),jX e env x=pure x:=by
 cases e<;>first | exact λZ Z Z=>rfl | exact ma
section
variable {c:Cx}{s:af}{q:Bool}{P:Pg}{C:Bool->Call}
theorem JR:qd P W c q A C .skip []:=by
 intro ρ φ σ s Q E H h;exact eh (h _ _ _ (.refl H.inv) rfl H)
theorem O0{a b:MS}{st:Stmt}{rest:List Stmt}(x:n9 P W c q A C a st)(y:qd P W c q A C b rest):qd P W c q A C (.seq a b) (st::rest):=by
 intro ρ φ σ s Q E H h;refine kl (x H (mq.bindX h (.refl H.inv) (λp σ' Ru f Rn g₁ Z rf H₁ hk=>?_) λρ' σ' Rm e s' g x H he=>he s' g x H));obtain ⟨fl,Rs⟩:=p
 cases fl with
 |next=>rw[show f=.next from rf];exact y H₁ (mq.step g₁ hk)
 |ret v=>refine l8 rf λz e rz=>?_;rw[e];exact hk Ru _ Rn g₁ ⟨z,rfl,rz⟩ H₁
theorem mQ.hides(x:mQ W env vars ρ φ h)(ha:∀a∈ws,h.get? a=none):mQ (W.hides ws) env vars ρ φ h:=by
 induction ws with
 |nil=>exact x
 |cons a ws ih=>exact (ih λb hb=>ha b (aE _ hb)).hide (ha a ax)
theorem mQ.bares(x:mQ (W.hides ws) env vars ρ φ h):mQ W env vars ρ φ h:=by
 induction ws with
 |nil=>exact x
 |cons a ws ih=>exact ih (mQ.bare (W:=W.hides ws) x)
theorem mm.bares{v:V}(x:mm (W.hides ws) φ h v y):mm W φ h v y:=by
 induction ws with
 |nil=>exact x
 |cons a ws ih=>exact ih (mm.bare (W:=W.hides ws) x)
theorem Inv.bares(x:Inv (W.hides ws) φ σ h):Inv W φ σ h:=by
 induction ws with
 |nil=>exact x
 |cons a ws ih=>exact ih (Inv.bare (W:=W.hides ws) x)
theorem rN.same(e:W'.base=W.base){l:List eA}:rN W φ h l->rN W' φ h l:=rN.map λL Z hn hb a=>⟨hn,by rw[e];exact hb,a⟩
theorem Good.to(g:Good W own φ s σ' Rm s')(i:Inv W' Rm σ' s'.heap):Good W' own φ s σ' Rm s':=⟨g.grows,g.evo,i,g.gens,g.os⟩
theorem Good.bares(g:Good (W.hides ws) own φ s σ' Rm s'):Good W own φ s σ' Rm s':=g.to g.inv.bares
theorem mB.bares(H:mB (W.hides ws) c ρ φ σ s):mB W c ρ φ σ s:=⟨H.inv.bares,H.ok.bares,rN.same (W:=W.hides ws) (W':=W) rfl H.frs,H.sep⟩
theorem mB.hides(H:mB W c ρ φ σ s)(g:Good W [] φ s σ' Rm s')(ha:∀a∈ws,s.heap.get? a=none)(i:Inv (W.hides ws) Rm σ' s'.heap):mB (W.hides ws) c ρ Rm σ' s':=
 ⟨i,(H.ok.hides ha).good (g.to i),rN.same (W:=W) (W':=W.hides ws) rfl (H.good g).frs,H.sep⟩
theorem nF.same(e:W'.exc=W.exc){e':al}(x:nF W Ro fl e' h):nF W' Ro fl e' h:=by
 refine mF x λd x=>?_;exact⟨d,x.h0,x.he,x.hc.trans (by rw[e]),x.hd,x.v0,x.v1,x.ne,x.t0,x.hT,x.dT,x.t3⟩
theorem nR.same(e:W'.exc=W.exc){own:Option al}{e':al}(x:nR W Ro own e' h):nR W' Ro own e' h:=by
 rcases x with x | ⟨fl,x,y⟩
 .exact .inl ⟨x.h0,by rw[e];exact x.ex⟩
 .exact .inr ⟨fl,x.same e,y⟩
theorem rC.bares{f:Fl}{fl:fQ}(x:rC (W.hides ws) φ h f fl):rC W φ h f fl:=by
 cases f with
 |next=>exact x
 |ret v=>refine l8 x λy e r=>?_;exact⟨y,e,r.bares⟩
theorem mq.hides{r:R mc (Fl×mc)}{Q:fQ->af->Prop}(h:mq W c own φ s r Q E):mq (W.hides ws) c own φ s r Q E:=by
 cases r with
 |ok p σ'=>exact λRm f s' g r H=>h Rm f s' g.bares r.bares H.bares
 |exc ρ' σ'=>exact λRm e s' g x H=>h Rm e s' g.bares (nR.same (W:=W.hides ws) (W':=W) rfl x) H.bares
 |bad=>exact h
theorem qB.hides{D:List al}(H:mB W c ρ φ σ s)(hn:∀b∈F,s.heap.get? b=none)(hD:∀b∈D,b∈F)(Yp:∀b∈D,b∉ws):qB (W.hides ws) c F D s.heap:=by
 have a:qB W c F D s.heap:=.of H hn hD;exact⟨a.new,λb hb hm=>(aH.mp hm).elim (Yp b hb) (a.hid b hb),a.notOwn,a.notFrs,a.base⟩
theorem mq.ofI{r:R Unit It}{k:It->St->R mc (Fl×mc)}{Q:fQ->af->Prop}{Q₁:ae->af->Prop}(H:mB W c ρ φ σ s)(h:mq W c own φ s ((r.lift ρ).bind k) Q E)(hk:∀it σ' Rm s' ws I F D T,Good W [] φ s σ' Rm s'->Inv (W.hides ws) Rm σ' s'.heap->(∀b∈ws,s.heap.get? b=none)->(∀b∈F,s.heap.get? b=none)->(∀b∈D,b∉ws)->
   QU (W.hides ws) A target it I F D T->T (W.hides ws) 0 Rm s'.heap->mq W c own φ s (k it σ') Q E->Q₁ (.ref I) s'):nh W c A target φ s r Q₁ E:=by
 cases r with
 |ok it σ'=>exact λRm s' ws I F D T g i a b e x t=>hk it σ' Rm s' ws I F D T g i a b e x t h
 |exc u σ'=>exact λRm e s' g x=>h Rm e s' g.up x (H.good g)
 |bad=>exact h
theorem OY{it:MX}{b:MS}{iter:aa}(ar:n0 A c q d)(hn:uv iter=true)(hc:wS c.vars t target=true)(hi:q=false->uX P W c q A (C q) target it iter)(hb:∀ws:List al,(∀a∈ws,W.base.get? a=none)->qd P (W.hides ws) c q A C b body):n9 P W c q A C (.for t it b) (.For target iter body [] pos):=by
 intro ρ φ σ s Q E H h;have hq:=h.gd.1;have h:=h.gd.2;subst hq;refine wpAny_For (hi rfl H (mq.ofI H h λYP Rx Ru Rn ws I F D T g₁ Tp Ve hF hD Rt Tk hk=>?_)) λx=>tV hn _ x;exact CO (W:=W.hides ws) (ar.handled rfl) ar hc (hb ws λa ha=>H.inv.nobase (Ve a ha)) Rt.ok (qB.hides H hF Rt.ok.sub hD) (g₁.up.to Tp) (H.hides g₁ Ve Tp) Tk (mq.hides hk)
end
noncomputable def xj(x:aa):Bool:=aG (motive_1:=λZ=>Bool) x (λZ Z Z=>true) (λZ Z Z=>true) (λZ Z Z Z=>true) (λZ Z Z=>true) (λZ Z Z Z=>true) (λZ Z Z Z=>true) (λZ Z Z=>true) (λZ Z Z=>true) (λZ Z Z Z=>false) (λZ Z Z Z=>false) (λZ Z Z Z Z=>false) (λZ Z Z Z=>true) (λZ Z=>true) (λZ Z=>true) (λZ Z=>true) (λZ Z Z Z=>true) (λZ Z Z Z=>true) (λZ Z Z Z=>true) (λZ Z=>true) (λZ Z Z=>true) (λZ Z Z=>true) (λZ Z Z=>true) (λZ Z=>true) (λZ Z=>true) (λZ Z=>true) (λZ Z Z=>true) (λZ Z Z Z=>true)
theorem vM{e:aa}:xj e=true->∀(t:Option aa) (l:Nat) (env:eA),ez e t l env=pure false:=by
 cases e<;>first | exact λZ Z Z Z=>rfl | exact ma
section
variable {c:Cx}{s:af}{Q:fQ->af->Prop}{q:Bool}{P:Pg}{C:Bool->Call}
theorem mi.ofS{r:R Unit α}{k:α->St->R mc (Fl×mc)}{rep:List al->aQ->α->β->Prop}(H:mB W c ρ φ σ s)(h:mq W c own φ s ((r.lift ρ).bind k) Q E)(hk:∀v σ' Rm y s',r=.ok v σ'->Good W [] φ s σ' Rm s'->rep Rm s'.heap v y->mB W c ρ Rm σ' s'->mq W c own Rm s' (k v σ') Q E->Q₁ y s'):mi W c φ s r rep Q₁ E:=mq.ofV H h hk
theorem OZ{x:aa}(a:mz P W c q A (C q) e x):n9 P W c q A C (.ret e) (.Return (some x) pos):=by
 intro ρ φ σ s Q E H h;refine wpAny_Return_some (a H (mi.ofS H h λv σ' Rm y s' Z g rv H' hk=>?_));exact hk Rm _ s' (.refl g.inv) ⟨y,rfl,rv⟩ H'
theorem CA:n9 P W c q A C (.ret (.lit .none)) (.Return none pos):=by
 intro ρ φ σ s Q E H h;exact wpAny_Return_none (h φ _ s (.refl H.inv) ⟨_,rfl,rfl⟩ H)
theorem JQ:n9 P W c q A C .skip (.Pass pos):=by
 intro ρ φ σ s Q E H h;exact wpAny_Pass (h φ _ s (.refl H.inv) rfl H)
theorem se(h:env.scope.kind=.function):interactive env=false:=by
 unfold interactive;rw[h];rfl
theorem JP{x:aa}(hn:xj x=true)(a:mz P W c q A (C q) e x):n9 P W c q A C (.expr e) (.Expr x pos):=by
 intro ρ φ σ s Q E H h;refine wpAny_Expr_any (a H (mi.ofS H h λv σ' Rm y s' Z g rv H' hk=>?_)) (se H.ok.kind) (vM hn ..);exact hk Rm _ s' (.refl g.inv) rfl H'
theorem QM{b₁ VG:MS}{x:aa}{TX Va:List Stmt}(t:oI P W c q A (C q) e x)(y:qd P W c q A C b₁ TX)(z:qd P W c q A C VG Va):n9 P W c q A C (.iff e b₁ VG) (.If x TX Va pos):=by
 intro ρ φ σ s Q E H h;refine wpAny_If (t H (mi.ofS H h λb σ' Rm b' s' Z g rb H' hk=>?_));rw[rb]
 cases b with
 |true=>exact y H' hk
 |false=>exact z H' hk
theorem mq.testX{r:R Unit Bool}{k:Bool->St->R mc (Fl×mc)}{Ru:List al}{Rx:St}{Q₁:Bool->af->Prop}(h:mq W c own φ s ((r.lift ρ).bind k) Q E)(g:Good W own φ s Rx Ru Rn)(H:mB W c ρ Ru Rx Rn)(hk:∀b σ' Rm s',Good W own φ s σ' Rm s'->mB W c ρ Rm σ' s'->mq W c own φ s (k b σ') Q E->Q₁ b s')(he:∀σ' Rm e s',Good W own φ s σ' Rm s'->nR W s.heap c.env₀.frame e s'.heap->mB W c ρ Rm σ' s'->(∀s',Good W own φ s σ' Rm s'->nR W s.heap c.env₀.frame e s'.heap->mB W c ρ Rm σ' s'->E (.ref e) s')->Sn (.ref e) s'):
  mi W c Ru Rn r (λZ Z b b'=>b'=b) Q₁ Sn:=by
 cases r with
 |ok b σ'=>exact λRm b' s' g' e=>by rw[e];exact hk b σ' Rm s' (g.trans g'.up) (H.good g') h
 |exc u σ'=>exact λRm e s' g' x=>he σ' Rm e s' (g.trans g'.up) (x.born λb hb=>g.evo.fresh hb) (H.good g') λs' g x H=>h Rm e s' g x H
 |bad=>exact h
theorem Hd{b:MS}{x:aa}{l:List Stmt}(ar:n0 A c q d)(t:q=false->oI P W c q A (C q) e x)(y:q=false->qd P W c q A C b l):n9 P W c q A C (.whl e b) (.While x l [] pos):=by
 intro ρ φ₀ σ s₀ Q E H h;have hq:=h.gd.1;have hb:=H.inv.base;refine wpAny_While (codeAny_whileLoop (LoopAt W c φ₀ s₀ (λZ Z Z=>True) (λk Z=>qg (dT P q (C q) e) (dS P C q b) k) Q E) (λk s x=>x.elim λi ρ σ φ g H Z h=>?_) mU ⟨0,ρ,σ,φ₀,.refl H.inv,H,trivial,h.gd.2⟩)
 cases k with
 |zero=>exact h.elim
 |succ k=>
  refine t hq H (mq.testX h g H (λb' Rx Ru Rn g₁ H₁ hk=>?_) λσ' Rm e s' g' x H' he=>u7 ar g' H' x hb λR9 Sb Ss SU=>he R9 Sb SU Ss)
  cases b' with
  |false=>exact eh (hk Ru _ Rn g₁ rfl H₁)
  |true=>
   refine y hq H₁ (mq.bindX hk g₁ (λp RK RE f RG g' RD rf RU hk'=>?_) λRS RK RE e RG g' x RU he=>u7 ar g' RU x hb λR9 Sb Ss SU=>he R9 Sb SU Ss)
   rcases mq.turned (r:=λk Z=>qg (dT P q (C q) e) (dS P C q b) k) (i:=0) (T:=λZ Z Z=>True) hk' (bO k) rf g' RU trivial with ⟨e,x⟩ | ⟨v,e,x⟩<;>(rw[e];exact x)
theorem OX{i:Nat}{n:a9}{x:aa}{p:cV}(hc:isVar c.ck i n=true)(a:mz P W c q A (C q) e x):n9 P W c q A C (.aug i e) (.AugAssign (.Name n p) .Add x pos):=by
 intro ρ φ σ s Q E H h;have hc:=b2 hc;have hx:=eq_of_beq hc.1;have hb:=pv hc.2;refine l8 (mq.opt h) λm hi h=>?_;refine l8 (bs hi) λv hv hm=>?_;refine wpAny_AugAssign_Name (FE H.ok hx hv hb.2 λy r=>?_);rw[m6 hm] at r;refine mF r λt RA=>?_;subst RA;refine a H (mi.ofS H h λv σ' Rm y s' Z g rv H' hk=>?_);refine l8 (mq.opt hk) λb hb' hk=>?_;rw[m6 hb'] at rv;refine mF rv λt' RA=>?_;subst RA
 have hlt:i < ρ.length:=by
  rcases eR i ρ.length with q | q
  .exact q
  .rw[cA q] at hv;cases hv
 refine AutoIntOps.iadd_0 ?_;show aM W.M A (fV c.env n (.int (m+b) s'.toks)) _ E {s' with toks:=s'.toks+1};have gt:Good W [] Rm s' σ' Rm {s' with toks:=s'.toks+1}:=Good.tok g.inv;exact pM (loc:=false) (v:=.int (m+b)) (H'.good gt) hx hlt ⟨_,rfl⟩ (λq=>ma q) λRG RD RU=>hk Rm _ RG (gt.up.trans RD) rfl RU
end
noncomputable def pD(env:eA):List (a9×b9)->List (a9×al)->List (a9×al)
 |[],cs=>cs
 |(n,k)::r,cs=>if k==.free then (match env.cells.lookup n with
   |some a=>pD env r ((n,a)::cs)
   |none=>pD env r cs) else pD env r cs
set_option tactic.hygienic true in
theorem qK{env:eA}:∀{names:List (a9×b9)} {cs:List (a9×al)},(∀n a,(n,a)∈cs->env.cells.lookup n=some a)->∀n a,(n,a)∈pD env names cs->env.cells.lookup n=some a
 |[],cs,h,n,a,hm=>h n a hm
 |(m,k)::r,cs,h,n,a,hm=>by
  rw[pD] at hm
  split at hm
  .split at hm
   .rename_i b hb;refine qK (cs:=(m,b)::cs) (λn' a' h'=>?_) n a hm
    rcases bd.mp h' with e | e
    .cases e;exact hb
    .exact h _ _ e
   .exact qK h n a hm
  .exact qK h n a hm
theorem sy{env:eA}:∀{names:List (a9×b9)} {cs:List (a9×al)} {p:a9×al},p∈cs->p∈pD env names cs
 |[],_,_,h=>h
 |(m,k)::r,cs,p,h=>by
  rw[pD]
  split
  .split
   .exact sy (aE _ h)
   .exact sy h
  .exact sy h
theorem rR{env:eA}:∀{names:List (a9×b9)} {cs:List (a9×al)} {n:a9} {a:al},(n,c9)∈names->env.cells.lookup n=some a->(n,a)∈pD env names cs
 |[],_,_,_,h,_=>nomatch h
 |(m,k)::r,cs,n,a,h,ha=>by
  rw[pD]
  rcases bd.mp h with e | e
  .cases e
   rw[if_pos (by rfl),ha];exact sy ax
  .split
   .split
    .exact rR e ha
    .exact rR e ha
   .exact rR e ha
theorem pF{l:List (a9×α)}{n:a9}{a:α}(h:(n,a)∈l):∃b,l.lookup n=some b:=by
 induction l with
 |nil=>cases h
 |cons p r ih=>
  obtain ⟨m,b⟩:=p;rw[c0]
  by_cases e:n==m
  .rw[e];exact⟨b,rfl⟩
  .rw[cQ.mpr e]
   rcases bd.mp h with q | q
   .cases q;simp at e
   .exact ih q
theorem sI(h:∀n,(n,c9)∈scope.names->∃a,env.cells.lookup n=some a):k9 scope env=pure (pD env scope.names []):=by
 unfold k9;generalize scope.names=names at h;have gen:∀(names:List (a9×b9)) (cs:List (a9×al)),(∀n,(n,c9)∈names->∃a,env.cells.lookup n=some a)->
   (forIn names cs λx r=>(match x with
    |(name,kind)=>if (kind==c9)=true then do
      let a <-iJ env name
      pure (dh ((name,a)::r))
     else pure (dh r):jV (ForInStep (List (a9×al)))))=pure (pD env names cs):=by
  intro names
  induction names with
  |nil=>intro cs _;rfl
  |cons p r ih=>
   intro cs h;obtain ⟨m,k⟩:=p;rw[kM,pD]
   by_cases hk:(k==c9)=true
   .have hk':k=.free:=by simpa using hk
    subst hk';refine mF (h m ax) λa ha=>?_
    have e:iJ env m=pure a:=by unfold iJ;rw[ha]
    simp only[hk,if_true,e,ha];exact ih _ λn hn=>h n (aE _ hn)
   .simp only[hk,if_false];exact ih _ λn hn=>h n (aE _ hn)
 show ((forIn names [] λx r=>(match x with
    |(name,kind)=>if (kind==c9)=true then do
      let a <-iJ env name
      pure (dh ((name,a)::r))
     else pure (dh r):jV (ForInStep (List (a9×al))))) >>= λcs=>pure cs)=_
 rw[gen names [] h];rfl
section
variable {M:gQ}{A:bc}{E:ae->af->Prop}{s:af}{env:eA}
def qL(M:gQ)(A:bc)(E:ae->af->Prop)(use:Option (ae->jV Unit))(Q:ae->af->Prop)(Sg:eA)(acc:ae)(r:dP)(s':af):Prop:=
 match r,use with
 |.ok _,none=>∃m,s'.heap.Ns Sg.locals m/\∀h',bX Sg.locals s'.heap h'->Q acc {s' with heap:=h'}
 |.ok _,some u=>aM M A (u acc) (λZ R3=>∃m,R3.heap.Ns Sg.locals m/\∀h',bX Sg.locals R3.heap h'->Q .none {R3 with heap:=h'}) E s'
 |.error x,_=>∃m,s'.heap.Ns Sg.locals m/\∀h',bX Sg.locals s'.heap h'->aM M A (passOn "comprehension.variables-let-go" x Sg:jV ae) (λZ Z=>False) E {s' with heap:=h'}
theorem rJ{e:aa}{first:jV ae}{g:fj}{gs:List fj}{cl:List (a9×al)}{use:Option (ae->jV Unit)}(hcl:clausesOf e=g::gs)(hs:∀x,jX g.iter env x=pure x)(Vs:k9 scope env=pure cl)(Ui:scope.kind=.function)(UD:∀x∈scope.names,x.2=.local->scope.names.lookup x.1=some .local)(Vt:∀x∈scope.names,x.2≠.cell)(h:aM M A first (λx Rn=>aM M A (iQ x) (λit Rr=>
   ∀h',h'.Ns (Rr.heap.objs.size+1) (λZ=>none)->(∀b o,Rr.heap.get? b=some o->h'.get? b=some o)->h'.get? Rr.heap.objs.size=some (pp [] 0)->
    fH M A (.compStart e 0 it (.ref Rr.heap.objs.size) (db scope cl (Rr.heap.objs.size+1) env)) (qL M A E use Q (db scope cl (Rr.heap.objs.size+1) env) (.ref Rr.heap.objs.size)) {Rr with heap:=h'}) E Rn) E s):
  aM M A (iu e scope env pos (jY []) false first use) Q E s:=by
 unfold iu;rw[Vs,hcl]
 refine ai (b0 h (λx Rn Rq=>ai (bQ (ai (gj (hs x) (ai (bn (b0 Rq (λit Rr RC=>
  wpAny_standIf (ai (dB (hd:=by size_fits) (ai (aO (ai (wpAny_newFunctionEnv Vt (by intro y hy;simp at hy) (λh' Su VM=>?_) Ui)))))))
   λZ Z h'=>h'))))))) λZ Z h'=>h')
 dsimp only at Su VM ⊢;have hsz:((Rr.heap.push {cls:=.type "list",dict:=none,data:=.seq ([]:List ae).toArray}).objs.size)=Rr.heap.objs.size+1:=ct ..;rw[hsz] at Su VM ⊢;have h₄:=RC h' Su (λb o e=>VM.extBut b o (by have:=ch e;exact aP (aS this)) (av _ (av _ e)))
  (VM.extBut _ _ (aP (bO _)) (av _ (aU _ rfl)))
 have hv:∀x∈(scope.names.filter λx=>(x.2==.local||x.2==.cell)&&x.1 != (".0" : a9)).reverse,x.2=.local->
   eJ (db scope cl (Rr.heap.objs.size+1) env) x.1=some .local:=λx hx hl=>lookup_relabel_local (UD x (cC.mp (List.mem_reverse.mp hx)).1 hl)
 have hv':∀x∈(scope.names.filter λx=>(x.2==.local||x.2==.cell)&&x.1 != (".0" : a9)).reverse.drop 1++(scope.names.filter λx=>(x.2==.local||x.2==.cell)&&x.1 != (".0" : a9)).reverse.take 1,
   x.2=.local->eJ (db scope cl (Rr.heap.objs.size+1) env) x.1=some .local:=λx hx hl=>by
  rcases aH.mp hx with h1 | h1
  .exact hv x (List.mem_of_mem_drop h1) hl
  .exact hv x (List.mem_of_mem_take h1) hl
 have hk':(db scope cl (Rr.heap.objs.size+1) env).scope.kind=.function:=Ui;refine bn (ai (ix (bn (wpAny_run (codeAny_mono h₄ λr s' hr=>?_)))))
 cases r with
 |ok f=>
  cases use with
  |none=>
   refine l8 hr λm hn hr=>?_;exact ai (bn (iD hk' _ s' m hv hn λh' m' Z RQ=>aO (hr h' RQ)))
  |some u=>
   refine ai (lk (ai (bn (b0 hr (λZ R3 UB=>?_) λZ Z h'=>h'))));refine l8 UB λm hn UB=>?_;exact ai (iD hk' _ R3 m hv' hn λh' m' Z RQ=>aO (UB h' RQ))
 |error x=>
  have UB:∃m,s'.heap.Ns (db scope cl (Rr.heap.objs.size+1) env).locals m/\∀h',bX (db scope cl (Rr.heap.objs.size+1) env).locals s'.heap h'->aM M A (passOn "comprehension.variables-let-go" x (db scope cl (Rr.heap.objs.size+1) env):jV ae) (λZ Z=>False) E {s' with heap:=h'}:=by cases use<;>exact hr
  refine l8 UB λm hn hr=>?_;exact ai (bn (iD hk' _ s' m hv hn λh' m' Z RQ=>b0 (hr h' RQ) (λZ Z f=>f.elim) λZ Z y=>y))
end
noncomputable def nZ(t:MX):List Nat:=(xK t).getD []
noncomputable def blank(ss:List Nat)(ρ:mc):mc:=ρ.mapIdx λi v=>if i∈ss then none else v
theorem tS{i:Nat}:((blank ss ρ)[i]?).join=if i∈ss then none else (ρ[i]?).join:=by
 unfold blank;rw[jd]
 cases h:ρ[i]? with
 |none=>exact (ite_self _).symm
 |some v=>by_cases hi:i∈ss<;>simp [hi]
theorem wP:(blank ss ρ).length=ρ.length:=by simp [blank]
theorem EF[Decidable p]{a:α}(h:p):og p a=some a:=if_pos h
theorem Il[Decidable p]{a:α}(h:¬p):og p a=none:=if_neg h
theorem yf:∀{l:List V} {Rs RS:mc},Rs.length=RS.length->(∀i,i∉is->Rs[i]?=RS[i]?)->bindL is l Rs=bindL is l RS:=by
 induction is with
 |nil=>intro l Rs RS hl ha;rw[List.ext_getElem? λi=>ha i iz]
 |cons i is ih=>
  intro l Rs RS hl ha;show ((hd l).bind λv=>(og (i < Rs.length) (Rs.set i (some v))).bind λρ=>bindL is (tl l) ρ)=((hd l).bind λv=>(og (i < RS.length) (RS.set i (some v))).bind λρ=>bindL is (tl l) ρ)
  cases hd l with
  |none=>rfl
  |some v=>
   by_cases hi:i < Rs.length
   .rw[cN,cN,EF hi,EF (hl▸hi),cN,cN];refine ih (by rw[aV,aV,hl]) λj hj=>?_
    by_cases UV:i=j
    .rw[<-UV,aF hi,aF (hl▸hi)]
    .rw[aj UV,aj UV];exact ha j λhm=>(bd.mp hm).elim (λq=>UV q.symm) hj
   .rw[cN,cN,Il hi,Il (hl▸hi)]
theorem BR{i:Nat}(h:i∉ss):(blank ss ρ)[i]?=ρ[i]?:=by
 unfold blank;rw[jd]
 cases ρ[i]? with
 |none=>rfl
 |some v=>exact congrArg some (if_neg h)
theorem yg{v:V}:nA t v (blank (nZ t) ρ)=nA t v ρ:=by
 unfold nA nZ
 cases xK t with
 |none=>rfl
 |some is=>
  show ((xN t v).bind λl=>bindL is l (blank is ρ))=((xN t v).bind λl=>bindL is l ρ)
  cases xN t v with
  |none=>rfl
  |some l=>exact yf wP λi hi=>BR hi
theorem BP:∀{l:List V} {ρ ρ':mc},bindL is l ρ=some ρ'->∀i,i∉is->ρ'[i]?=ρ[i]?:=by
 induction is with
 |nil=>intro l ρ ρ' e i _;refine l8 (ms e) λZ Z e=>?_;rw[e]
 |cons k is ih=>
  intro l ρ ρ' h i hi;refine l8 (bs h) λv Z h=>?_;refine l8 (bs h) λRs e h=>?_;rw[ih h i λhm=>hi (aE _ hm),<-(nW e).2,aj λq:k=i=>hi (by rw[<-q];exact ax)]
theorem BQ{v:V}(h:nA t v ρ=some ρ')(i:Nat)(hi:i∉nZ t):ρ'[i]?=ρ[i]?:=by
 refine l8 (bs h) λis e h=>?_;refine l8 (bs h) λl Z h=>?_;exact BP h i (by unfold nZ at hi;rw[e] at hi;exact hi)
noncomputable def ny(k:Ck)(names:List (a9×b9)):List (a9×b9):=names.map λ(n,kk)=>if (kk==.free&&k.kinds.lookup n==some .cell) then (n,.cell) else (n,kk)
theorem pJ(h:env.scope.kind=.function):(jp scope env).names=ny ⟨env.scope.names,vars⟩ scope.names:=by
 unfold jp ny;refine cz λp Z=>?_;obtain ⟨n,k⟩:=p;show (if (k==c9&&env.scope.kind==.function&&env.kindOf n==some .cell)=true then _ else _)=_;rw[h];have:(gT==gT)=true:=rfl;rw[this,fh];rfl
noncomputable def qe(k:Ck)(names:List (a9×b9))(vs:List (a9×Nat))(ss:List Nat):Bool:=
 decide (vs.map (·.2)).Nodup&&
 (vs.all λp=>((ny k names).lookup p.1==some .local&&ss.contains p.2)||
  (((ny k names).lookup p.1==some .free||(ny k names).lookup p.1==some .cell)&&names.contains (p.1,.free)&&k.vars.lookup p.1==some p.2))&&
 (names.all λp=>p.2 != .free||((k.vars.lookup p.1).isSome&&(k.kinds.lookup p.1==some .cell||k.kinds.lookup p.1==some .free)))&&
 (names.all λp=>p.2 != .cell)&&(names.all λp=>p.2 != .local||names.lookup p.1==some .local)
theorem q9{k:Ck}{vs:List (a9×Nat)}(hc:qe k names vs ss=true):(∀x∈names,x.2=b9.local->names.lookup x.1=some .local)/\∀x∈names,x.2≠jy:=by
 have h:=b2 hc;refine⟨λx hx hl=>?_,λx hx e=>?_⟩
 .have h:=bh.mp h.2 x hx;rw[hl] at h;exact eq_of_beq h
 .have h:=bh.mp (b2 h.1).2 x hx;rw[e] at h;exact ma h
section
variable {W:Wd}{c:Cx}{own φ Rm:List al}{σ σ':St}{s s':af}{ρ ρ':mc}{E:ae->af->Prop}{A:bc}{q:Bool}{d:Nat}{P:Pg}{C:Bool->Call}
noncomputable def Cx.comp(c:Cx)(scope:fP)(vs:List (a9×Nat))(L:al):Cx:={env:=db scope (pD c.env scope.names []) L c.env,env₀:=c.env₀,out:=c.out,vars:=vs}
theorem n0.comp{vs:List (a9×Nat)}(a:n0 A c q d):n0 A (c.comp scope vs L) q d:=⟨a.frames,a.frame,a.depth,a.units,a.handled⟩
theorem mQ.less(x:mQ W env vars ρ φ h)(hl:∀(i:Nat) (v:V),(ρ'[i]?).join=some v->(ρ[i]?).join=some v):mQ W env vars ρ' φ h:=by
 have f:∀{i u},qH W φ h ρ i u->qH W φ h ρ' i u:=λhv v e=>hv v (hl _ v e);refine⟨x.kind,x.glob,x.bui,x.inj,x.apart,x.out,?_,λn c hnc=>?_,x.has⟩
 .refine l8 x.loc λm hm hv=>?_;exact⟨m,hm,λn i a b=>f (hv n i a b)⟩
 .refine nJ (x.cell n c hnc) λa b c' u hu hv=>?_;exact⟨a,b,c',u,hu,λi p q=>f (hv i p q)⟩
theorem mB.less(H:mB W c ρ φ σ s)(hl:∀(i:Nat) (v:V),(ρ'[i]?).join=some v->(ρ[i]?).join=some v):mB W c ρ' φ σ s:=⟨H.inv,H.ok.less hl,H.frs,H.sep⟩
theorem rS(H:mQ W c.env c.vars ρ φ h){vs:List (a9×Nat)}(hc:qe c.ck scope.names vs ss=true){n:a9}(hn:(n,c9)∈scope.names):
  (∃i,c.vars.lookup n=some i)/\(c.env.kindOf n=some .cell\/c.env.kindOf n=some .free)/\∃a,c.env.cells.lookup n=some a:=by
 simp only[qe,cx,bh] at hc;have h1:=hc.1.1.2 _ hn;simp only[bne_self_eq_false,fi,cx,bT,iS,beq_iff_eq] at h1;refine nt h1 λR6 hk=>?_;obtain ⟨i,hi⟩:=R6;refine⟨⟨i,hi⟩,hk,?_⟩
 rcases H.has n i hi with q | ⟨_,q⟩
 .have:c.env.kindOf n=some .cell\/c.env.kindOf n=some .free:=hk
  rw[q] at this;rcases this with z | z<;>cases z
 .exact q
theorem mB.comp(ok:mQ W c.env c.vars ρ φ s.heap)(frs:rN W φ s.heap (c.env₀::c.out))(sep:∀b∈ownOf c.env,b∉nT c.out){vs:List (a9×Nat)}(hk:scope.kind=.function)(hc:qe c.ck scope.names vs ss=true)(hL:s.heap.get? L=none)(fL:L∉φ/\W.base.get? L=none)(Su:h'.Ns L λZ=>none)(k:∀b o,s.heap.get? b=some o->h'.get? b=some o)(inv:Inv W φ σ h'):mB W (c.comp scope vs L) (blank ss ρ) φ σ {s with heap:=h'}:=by
 have ok':mQ W c.env c.vars ρ φ h':=ok.evo (X:=[]) (pP.of_keeps k) (Apart.nil _ _ _) (.refl _ _) (λhm=>nomatch hm) (λZ Z Z hm=>nomatch hm);have frs':rN W φ h' (c.env₀::c.out):=frs.evo (X:=[]) (pP.of_keeps k) (.refl _ _) λb hb=>.inl (λhm=>nomatch hm);have fr:=λ{n:a9}=>rS (n:=n) ok hc;have hc':=hc;simp only[qe,cx,bh,decide_eq_true_eq] at hc';refine nt hc' λR6 h5=>?_;obtain ⟨⟨⟨h1,h2⟩,h3⟩,h4⟩:=R6;have acc:∀n a,(pD c.env scope.names []).lookup n=some a->c.env.cells.lookup n=some a:=λn a e=>qK (λZ Z hm=>absurd hm (by simp)) n a (mem_of_lookup e)
 have kin:∀x,eJ (c.comp scope vs L).env x=(ny c.ck scope.names).lookup x:=λx=>by
  show (jp scope c.env).names.lookup x=_;rw[pJ (vars:=c.vars) ok.kind];rfl
 have two:∀x i,vs.lookup x=some i->(eJ (c.comp scope vs L).env x=some .local/\i∈ss)\/
   ((eJ (c.comp scope vs L).env x=some .free\/eJ (c.comp scope vs L).env x=some .cell)/\(x,c9)∈scope.names/\c.vars.lookup x=some i):=λx i e=>by
  have:=h2 _ (mem_of_lookup e);simp only[iS,cx,beq_iff_eq,bx] at this;rw[kin]
  rcases this with ⟨a,b⟩ | ⟨⟨a,b⟩,d⟩
  .exact .inl ⟨a,b⟩
  .exact .inr ⟨a,b,d⟩
 refine nt fL λf1 f2=>?_
 have hL':∃o,h'.get? L=some o:=by refine nU Su λo Z Z e Z=>?_;exact⟨o,e⟩
 refine⟨inv,⟨hk,ok.glob,ok.bui,h1,λx y a ex ey=>ok.apart x y a (acc x a ex) (acc y a ey),⟨f1,f2⟩,⟨_,Su,λx i hx VO v hv=>?_⟩,λx a ha=>?_,λx i hx=>?_⟩,frs',λb hb=>?_⟩
 .rcases two x i hx with ⟨_,hs⟩ | ⟨q,_⟩
  .rw[tS,if_pos hs] at hv;cases hv
  .rw[VO] at q;rcases q with q | q<;>cases q
 .refine nJ (ok'.cell x a (acc x a ha)) λa1 a2 a3 u hu hv=>?_;refine⟨a1,a2,?_,u,hu,λi hx VO v hv'=>?_⟩
  .intro q;refine nJ (ok.cell x _ (acc x _ ha)) λZ Z Z Z SS Z=>?_;obtain ⟨o,e,_⟩:=SS;rw[show a=L from q,hL] at e;cases e
  .rcases two x i hx with ⟨q,_⟩ | ⟨_,q,hxi⟩
   .rw[q] at VO;rcases VO with z | z<;>cases z
   .refine hv i hxi (fr q).2.1 v ?_;rw[tS] at hv'
    split at hv'
    .cases hv'
    .exact hv'
 .rcases two x i hx with ⟨q,_⟩ | ⟨q1,q2,_⟩
  .exact .inl q
  .refine z6 (fr q2) λZ Z a ha=>?_;exact .inr ⟨q1.symm,pF (rR q2 ha)⟩
 .rcases nV hb with q | ⟨n,hn⟩
  .intro hm
   obtain ⟨_,_,o,_,_,e,_⟩:=frs.mem (b:=b) (by
    show b∈nT (c.env₀::c.out);unfold nT at hm ⊢;refine l8 (aZ.mp hm) λz hz e=>?_
    exact aZ.mpr ⟨z,aE _ hz,e⟩)
   rw[show b=L from q,hL] at e;cases e
  .exact sep b (mem_ownOf (acc n b hn))
theorem Good.fresh{φ₀:List al}(x:Good W own φ₀ s₀ σ φ s)(hn:∀b∈F,s₀.heap.get? b=none)(y:Good W F φ s σ' Rm s'):Good W own φ₀ s₀ σ' Rm s':=by
 refine⟨x.grows.trans x.evo y.grows,x.evo.trans y.evo λb hb=>?_,y.inv,y.gens.trans x.gens,y.os.trans x.os⟩
 rcases aH.mp hb with hb | hb
 .exact (x.grows.either hb).imp (bD _) id
 .exact .inr (hn b hb)
end
section
variable {R:dP->af->Prop}{s:af}
theorem o6{RF iter:aa}{it acc:ae}(I:Nat->af->Prop)(turn:∀n s,I n s->aM (b8 prog w) A (lg it) (λr Rn=>match r with
   |none=>R (.ok .next) Rn
   |some v=>aM (b8 prog w) A (gr target it v) (λZ Rn=>aM (b8 prog w) A (iM target env v) (λZ Rr=>
     aM (b8 prog w) A (forIn ifs true λc r=>if r=true then do let ok <-isTrue c env (eval c env);pure (dh ok) else pure (dh r)) (λok RG=>
      if ok=true then aM (b8 prog w) A (eval RF env) (λx R9=>
       aM (b8 prog w) A (call (.builtin "list.append") [acc,x]) (λZ UZ=>∃m,m < n/\I m UZ) (gB (b8 prog w) A env λe s'=>R (.error e) s') R9) (gB (b8 prog w) A env λe s'=>R (.error e) s') RG
      else ∃m,m < n/\I m RG) (gB (b8 prog w) A env λe s'=>R (.error e) s') Rr) (gB (b8 prog w) A env λe s'=>R (.error e) s') Rn) (gB (b8 prog w) A env λe s'=>R (.error e) s') Rn)
     (gB (b8 prog w) A env λe s'=>R (.error e) s') s)(n:Nat)(h:I n s):fH (b8 prog w) A (.compLoop (.ListComp RF [⟨target,iter,ifs,0⟩] scope pos) 0 it acc env) R s:=by
 refine codeAny_loop rfl I (λn s hI=>?_) n h;show aM _ A ((compTurn (.ListComp RF [⟨target,iter,ifs,0⟩] scope pos) 0 it acc env).onRaise (λx=>do gD x env;theTreesLotGoes x)) _ _ s;refine wpAny_noted ?_;rw[compTurn_list];refine ai (bQ (ai (b0 (turn n s hI) (λr Rn Rq=>?_) λZ Z h'=>h')))
 cases r with
 |none=>exact aO Rq
 |some v=>
  refine ai (b0 Rq (λZ Rn Rq=>?_) λZ Z h'=>h');refine ai (b0 Rq (λZ Rr RC=>ai (b0 RC (λok RG RT=>?_) λZ Z h'=>h')) λZ Z h'=>h')
  cases ok with
  |false=>exact aO ⟨rfl,RT⟩
  |true=>
   exact ai (ai (b0 RT (λx R9 h₄=>ai (b0 h₄ (λZ UZ RR=>aO (aO ⟨rfl,RR⟩)) λZ Z h'=>h')) λZ Z h'=>h'))
end
section
variable {W:Wd}{c:Cx}{own φ φ₀ Rm:List al}{σ σ':St}{s s' s₀:af}{ρ ρ':mc}{E:ae->af->Prop}{A:bc}{q:Bool}{d:Nat}{P:Pg}{C:Bool->Call}
structure AccAt(W:Wd)(D:al)(φ:List al)(h:aQ)(l:List V):Prop where
 out:D∉φ
 is:∃ys n,ys.length<=me/\h.get? D=some (pp ys n)/\my W φ h l ys
def n7(W:Wd)(c:Cx)(ρ:mc)(D:al)(φ₀:List al)(s₀:af)(r:R Unit (List V))(R':dP->af->Prop):Prop:=
 match r with
 |.ok l σ'=>∀Rm s',Good W [] φ₀ s₀ σ' Rm s'->mB W c ρ Rm σ' s'->AccAt W D Rm s'.heap l->R' (.ok .next) s'
 |.exc _ σ'=>∀Rm e s',Good W [] φ₀ s₀ σ' Rm s'->mB W c ρ Rm σ' s'->(∃L,c.env₀.frame=some L/\nF W s₀.heap (cU L) e s'.heap)->R' (.error (.ref e)) s'
 |.bad=>False
theorem AccAt.good(x:AccAt W D φ s.heap l)(ap:Apart W φ (φ++own) s.heap)(g:Good W own φ s σ' Rm s')(hD:D∉own):AccAt W D Rm s'.heap l:=by
 obtain ⟨ho,ys,n,hz,e,r⟩:=x;exact⟨g.grows.notin e ho,ys,n,hz,g.evo.exact e (λhm=>(aH.mp hm).elim ho hD) o8,r.evo g.evo ap g.grows⟩
theorem n7.gd[Decidable p]{r:R Unit (List V)}(h:n7 W c ρ D φ s (gd p r) R'):p/\n7 W c ρ D φ s r R':=by
 unfold Mine.Internal.gd at h
 by_cases hp:p
 .rw[if_pos hp] at h;exact⟨hp,h⟩
 .rw[if_neg hp] at h;exact h.elim
theorem n7.turn{it:It}{f:V->St->R Unit (Option V)}{i:Nat}(h:n7 W c ρ D φ s (ou it f k i l σ) R')(h1:it.at i σ=some none->n7 W c ρ D φ s (.ok l σ) R'->p)(h2:∀v k',k' < k->it.at i σ=some (some v)->n7 W c ρ D φ s ((f v σ).bind (Ba (ou it f k') i l)) R'->p):p:=by
 cases k with
 |zero=>exact h.elim
 |succ k=>
  have e:n7 W c ρ D φ s (R.opt (it.at i σ) λw=>match w with | none=>.ok l σ | some v=>(f v σ).bind (Ba (ou it f k) i l)) R':=h
  revert e h1 h2
  generalize it.at i σ=w;intro h1 h2 e
  cases w with
  |none=>exact e.elim
  |some w=>cases w with
   |none=>exact h1 rfl e
   |some v=>exact h2 v k (bO k) rfl e
theorem n7.bodyE{o:Option γ}{f:γ->R Unit (Option V)}{k:Option V->St->R Unit (List V)}(h:n7 W c ρ D φ s ((R.opt o f).bind k) R')(h1:∀a,o=some a->n7 W c ρ D φ s ((f a).bind k) R'->p):p:=by
 cases o with
 |none=>exact h.elim
 |some a=>exact h1 a rfl h
theorem n7.ofV{r:R Unit α}{g:α->St->R Unit (Option V)}{k:Option V->St->R Unit (List V)}{rep:List al->aQ->α->β->Prop}(h:n7 W c ρ D φ₀ s₀ ((r.bind g).bind k) R')(hk:∀v σ' Rm y s',Good W [] φ s σ' Rm s'->rep Rm s'.heap v y->n7 W c ρ D φ₀ s₀ ((g v σ').bind k) R'->Q₁ y s')(he:∀σ' Rm e s',Good W [] φ s σ' Rm s'->nR W s.heap c.env₀.frame e s'.heap->n7 W c ρ D φ₀ s₀ (.exc () σ') R'->Sn (.ref e) s'):mi W c φ s r rep Q₁ Sn:=by
 cases r with
 |ok v σ'=>exact λRm y s' g rp=>hk v σ' Rm y s' g rp h
 |exc u σ'=>exact λRm e s' g x=>he σ' Rm e s' g x h
 |bad=>exact h.elim
structure qC(W:Wd)(c:Cx)(Rs ρ':mc)(φ₀:List al)(s₀:af)(D:al)(T:Nat->List al->aQ->Prop)(i:Nat)(l:List V)(φ:List al)(σ:St)(s:af):Prop where
 g:Good W [] φ₀ s₀ σ φ s
 H:mB W c Rs φ σ s
 H':mB W c ρ' φ σ s
 t:T (i+1) φ s.heap
 a:AccAt W D φ s.heap l
structure o0(W:Wd)(c:Cx)(ρ':mc)(φ₀:List al)(s₀:af)(D:al)(T:Nat->List al->aQ->Prop)(i:Nat)(l:List V)(φ:List al)(σ:St)(s:af):Prop where
 g:Good W [] φ₀ s₀ σ φ s
 H:mB W c ρ' φ σ s
 t:T i φ s.heap
 a:AccAt W D φ s.heap l
def zv(W:Wd)(c:Cx)(ρ':mc)(φ₀:List al)(s₀:af)(D:al)(T:Nat->List al->aQ->Prop)(r:Nat->Nat->List V->St->R Unit (List V))(R':dP->af->Prop)(k:Nat)(s:af):Prop:=
 ∃i l σ φ,o0 W c ρ' φ₀ s₀ D T i l φ σ s/\n7 W c ρ' D φ₀ s₀ (r k i l σ) R'
theorem zv.elim{r:Nat->Nat->List V->St->R Unit (List V)}(x:zv W c ρ φ₀ s₀ D T r R' k s)(f:∀i l σ φ,o0 W c ρ φ₀ s₀ D T i l φ σ s->n7 W c ρ D φ₀ s₀ (r k i l σ) R'->p):p:=by
 refine vy x λi l σ φ m h=>?_;exact f i l σ φ m h
section
variable {it:It}{Dd:List al}{i:Nat}{Rs:mc}
theorem qC.good(Rt:oV W A target it I F Dd T)(aw:qB W c F Dd s₀.heap)(x:qC W c Rs ρ' φ₀ s₀ D T i l φ σ s)(g:Good W [] φ s σ' Rm s'):qC W c Rs ρ' φ₀ s₀ D T i l Rm σ' s':=
 ⟨x.g.trans g,x.H.good g,x.H'.good g,Rt.good aw x.H x.t g.up,x.a.good ((Apart.self _ _ _).append (Apart.nil _ _ _)) g (λhm=>nomatch hm)⟩
theorem qC.mid(x:qC W c Rs ρ' φ₀ s₀ D T i l φ σ s):o0 W c ρ' φ₀ s₀ D T (i+1) l φ σ s:=⟨x.g,x.H',x.t,x.a⟩
theorem qC.fly(hb:W.base.StaysIn s₀.heap)(ar:n0 A c q d)(x:qC W c Rs ρ' φ₀ s₀ D T i l φ σ s){e:al}(g:Good W [] φ s σ' Rm s')(ex:nR W s.heap c.env₀.frame e s'.heap)(h:n7 W c ρ' D φ₀ s₀ (.exc () σ') R'):
  gB W.M A c.env (λe s'=>R' (.error e) s') (.ref e) s':=
 v9 ar (x.g.trans g) (x.H'.good g) (ex.born λb hb=>x.g.evo.fresh hb) hb λRn Sb Ss SU=>h _ _ _ Sb Ss SU
theorem o0.done(Rt:oV W A target it I F Dd T)(aw:qB W c F Dd s₀.heap)(T5:D∉F)(x:o0 W c ρ' φ₀ s₀ D T i l φ σ s)(RP:it.at i σ=some none)(h:n7 W c ρ' D φ₀ s₀ (.ok l σ) R'){Qs:ae->af->Prop}:
  Step W.M A target I (λs=>R' (.ok .next) s) Qs E s:=by
 refine Rt.done x.t x.H.inv RP λh' tk hk=>?_;have hF:∀b∈Dd,s₀.heap.get? b=none/\b∉φ/\b∉W.hid/\W.base.get? b=none/\∀o,s.heap.get? b=some o->∀xs n,o.data≠.seq xs n:=λb hb=>
  have a:=Rt.apart x.t (Rt.sub b hb)
  ⟨aw.new b (Rt.sub b hb),a.1,aw.hid b hb,a.2.1,a.2.2.resolve_left (aw.hid b hb)⟩
 have g:=x.g.drop (t:=tk) hF hk;obtain ⟨ho,ys,n,hz,e,r⟩:=x.a;exact h φ _ g (x.H.drop (t:=tk) (λb hb=>⟨(hF b hb).2.1,(hF b hb).2.2.1,(hF b hb).2.2.2.1,(hF b hb).2.2.2.2,aw.notOwn (Rt.sub b hb),aw.notFrs (Rt.sub b hb)⟩) hk g.inv)
  ⟨ho,ys,n,hz,hk D _ (λhm=>T5 (Rt.sub D hm)) e,r.kp (X:=Dd) (λb o e hb=>⟨o.slots,hk b o hb e,λZ=>rfl⟩) (λb hb Z=>⟨(hF b hb).2.2.2.1,.inr (hF b hb).2.2.2.2⟩) (.refl _ _)⟩
theorem qC.append(Rt:oV W A target it I F Dd T)(hD:D∈W.hid)(Vx:s₀.heap.get? D=none)(hDb:W.base.get? D=none)(aD:qB W c [D] [] s₀.heap)(T5:D∉F)(x:qC W c Rs ρ' φ₀ s₀ D T i l φ σ s){v:V}{z:ae}(rz:mm W φ s.heap v z)(hlen:l.length < me)(h:∀h',o0 W c ρ' φ₀ s₀ D T (i+1) (l++[v]) φ σ {s with heap:=h'}->Q .none {s with heap:=h'}):aM W.M A (call (.builtin "list.append") [.ref D,z]) Q E s:=by
 obtain ⟨ho,ys,n,hz,e,r⟩:=x.a;refine iE (items:=ys.toArray) ⟨n,e⟩ (λRR TB R1=>?_) (by rw[bF];exact ac hz (by decide));refine mF TB λV8 VA=>?_
 have hDp:∀b∈[D],b∉φ/\W.base.get? b=none/\(b∈W.hid\/∀o,s.heap.get? b=some o->∀xs n,o.data≠.seq xs n):=λb hb=>by
  rw[au.mp hb];exact⟨ho,hDb,.inl hD⟩
 refine sf (Good.writes (t:=s.toks) x.H.inv (F:=[D]) (h':=RR) hDp (λb o hb e=>R1.extBut b o (λq=>hb (q▸au.mpr rfl)) e) (λb hb=>by rw[au.mp hb];exact⟨_,VA⟩)) λTL TP TQ=>?_;refine h RR ⟨x.g.fresh (F:=[D]) (λb hb=>by rw[au.mp hb];exact Vx) TL,mB.iter (t:=s.toks) aD x.H' TL hDp,Rt.keep x.t TP TQ (.refl _ _) (λb hb hm=>T5 (by rw[<-au.mp hm];exact hb)),ho,ys++[z],V8,?_,?_,?_⟩
 .rw[ah,r.length];exact hlen
 .rw[VA,hJ]
 .exact my.append (r.evo TP TQ (.refl _ _)) (.cons' (rz.evo TP TQ (.refl _ _)) .nil')
theorem o0.next(Rt:oV W A target it I F Dd T)(aw:qB W c F Dd s₀.heap)(T5:D∉F)(x:o0 W c ρ' φ₀ s₀ D T i l φ σ s){v:V}(RP:it.at i σ=some (some v)){Qn:af->Prop}{Qs:ae->af->Prop}(h:∀y h' tk,mm W φ h' v y->o0 W c ρ' φ₀ s₀ D T (i+1) l φ σ {s with heap:=h',toks:=tk}->Qs y {s with heap:=h',toks:=tk}):Step W.M A target I Qn Qs E s:=
 Rt.next x.t x.H.inv RP λy h' tk gi rv TZ=>h y h' tk rv ⟨x.g.iter aw.new gi,mB.iter aw x.H gi λb hb=>Rt.apart x.t hb,TZ,
  x.a.good ((Apart.self _ _ _).append λb hb Z=>(Rt.apart x.t hb).2) gi T5⟩
theorem o0.bound(Rt:oV W A target it I F Dd T)(aw:qB W c F Dd s₀.heap)(hL:s₀.heap.get? c.env.locals=none)(UI:D∉ownOf c.env)(x:o0 W c ρ' φ₀ s₀ D T (i+1) l φ σ s){v:V}(Wn:∀i,i∈nZ t->(ρ'[i]?).join=none)(Tf:nA t v ρ'=some Rs)(g:Good W (uf true c.env) φ s σ φ s')(H:mB W c Rs φ σ s'):qC W c Rs ρ' φ₀ s₀ D T i l φ σ s':=
 ⟨x.g.fresh (F:=uf true c.env) (λb hb=>au.mp hb▸hL) g,H,H.less λj v' hv'=>by
   by_cases hj:j∈nZ t
   .exact mr ((Wn j hj).symm.trans hv')
   .rw[BQ Tf j hj];exact hv',
  Rt.good aw x.H x.t (g.more λb hb=>sm hb),x.a.good (λb hb hn=>own_apart x.H b ((aH.mp hb).elim (bD _) λz=>bA _ (sm z)) hn) g λhm=>UI (sm hm)⟩
end
def qt(P:Pg)(W:Wd)(c:Cx)(q:Bool)(A:bc)(C:Call)(cond:MX)(ifs:List aa):Prop:=∀⦃ρ:mc⦄ ⦃φ:List al⦄ ⦃σ:St⦄ ⦃s:af⦄ ⦃Q:Bool->af->Prop⦄ ⦃E:ae->af->Prop⦄,mB W c ρ φ σ s->
 mi W c φ s (dT P q C cond ρ σ) (λZ Z b b'=>b'=b) Q E->aM W.M A (forIn ifs true λcc r=>if r=true then do let ok <-isTrue cc c.env (eval cc c.env);pure (dh ok) else pure (dh r)) Q E s
theorem qt.nil:qt P W c q A (C q) .nil []:=λρ φ σ s Q E H hp=>wpAny_tests_nil (hp φ true s (.refl H.inv) rfl)
theorem qt.one{x:aa}(st:oI P W c q A (C q) cond x):qt P W c q A (C q) cond [x]:=λρ φ σ s Q E H hp=>wpAny_tests_one (st H hp)
theorem AF{RF iter:aa}{it:It}{Dd:List al}(hh:A.handled=none)(ar:n0 A c q d)(Tb:∀x i,lv.lookup x=some i->c.vars.lookup x=some i/\(true=true->c.env.kindOf x=some .local))(hc:wS lv t target=true)(SE:∀v,nA t v ρ'=nA t v ρ)(Wn:∀i,i∈nZ t->(ρ'[i]?).join=none)(ht:qt P W c q A (C q) cond ifs)(he:mz P W c q A (C q) e RF)(Rt:oV W A target it I F Dd T)(aw:qB W c F Dd s₀.heap)(hL:s₀.heap.get? c.env.locals=none)(hD:D∈W.hid)(Vx:s₀.heap.get? D=none)(T5:D∉F)(UI:D∉ownOf c.env)(Yq:D∉nT (c.env₀::c.out)){fu i:Nat}(g:Good W [] φ₀ s₀ σ φ s)(H:mB W c ρ' φ σ s)(hT:T i φ s.heap)(ha:AccAt W D φ s.heap l)(h:n7 W c ρ' D φ₀ s₀ (ou it (m3 P q (C q) t cond e ρ) fu i l σ) R'):
  fH W.M A (.compLoop (.ListComp RF [⟨target,iter,ifs,0⟩] scope pos) 0 (.ref I) (.ref D) c.env) R' s:=by
 have hDb:W.base.get? D=none:=by
  cases e:W.base.get? D with
  |none=>rfl
  |some o=>exact mr (Vx.symm.trans (aw.base D o e))
 have aD:qB W c [D] [] s₀.heap:=⟨λb hb=>by rw[au.mp hb];exact Vx,λZ hb=>(nomatch hb),λ{b} hb=>by rw[au.mp hb];exact UI,λ{b} hb=>by rw[au.mp hb];exact Yq,aw.base⟩;refine o6 (zv W c ρ' φ₀ s₀ D T (ou it (m3 P q (C q) t cond e ρ)) R') (λk s x=>x.elim λi l σ φ m h=>h.turn (λRP h=>m.done Rt aw T5 RP h) λv k' hk RP h=>?_) fu ⟨i,l,σ,φ,⟨g,H,hT,ha⟩,h⟩;refine m.next Rt aw T5 RP λy h' tk rv m=>n7.bodyE (o:=nA t v ρ) (f:=λρ'=>(dT P q (C q) cond ρ' σ).bind λb σ=>if b then (dE P q (C q) e ρ' σ).bind λx σ=>.ok (some x) σ else .ok none σ) h λRs Tf h=>?_;refine BC (loc:=true) Tb hh hc m.H rv ((SE v).trans Tf) λRr RH Rw=>?_;have x:=m.bound Rt aw hL UI Wn ((SE v).trans Tf) RH Rw;refine ht Rw (n7.ofV h (λb So R7 b' RG RD rb h=>?_) λSo R7 Yv RG RD x₃ h=>x.fly aw.base ar RD x₃ h);have x₃:=x.good Rt aw RD;rw[rb]
 cases b with
 |false=>exact⟨k',hk,i+1,l,So,R7,x₃.mid,h⟩
 |true=>
  refine he x₃.H (n7.ofV h (λu S1 SC z R9 Sb rz h=>?_) λS1 SC Yu R9 Sb ex h=>x₃.fly aw.base ar Sb ex h);have h:=n7.gd h;exact (x₃.good Rt aw Sb).append Rt hD Vx hDb aD T5 rz h.1 λh' m=>⟨k',hk,i+1,l++[u],S1,SC,m,h.2⟩
end
section
variable {W:Wd}{c:Cx}{own φ φ₀ Rm:List al}{σ σ':St}{s s' s₀:af}{ρ ρ':mc}{E:ae->af->Prop}{A:bc}{q:Bool}{d:Nat}{P:Pg}{C:Bool->Call}
theorem my.bares{v:List V}{y:List ae}(x:my (W.hides ws) φ h v y):my W φ h v y:=by
 induction ws with
 |nil=>exact x
 |cons a ws ih=>exact ih (my.bare (W:=W.hides ws) x)
structure tQ(W:Wd)(φ:List al)(Ro:aQ)(L:al)(Rm:List al)(h':aQ):Prop where
 new:Ro.get? L=none
 out:L∉Rm/\L∉W.hid/\W.base.get? L=none
 ns:∃m,h'.Ns L m
theorem tQ.not(x:tQ W φ Ro L Rm h):∀o,h.get? L=some o->∀xs n,o.data≠.seq xs n:=λo e xs n hd=>by
 refine uc x.ns λm o' es ep e' d' Z=>?_;rw[e] at e';cases e';rw[hd] at d';cases d'
theorem tQ.good{t:Nat}(x:tQ W φ s₀.heap L Rm s.heap)(g:Good W own φ s₀ σ' Rm s)(hs:bX L s.heap h'):Good W own φ s₀ σ' Rm {s with heap:=h',toks:=t}:=
 g.drop (F:=[L]) (λb hb=>by rw[au.mp hb];exact⟨x.new,x.out.1,x.out.2.1,x.out.2.2,x.not⟩) λb o hb e=>hs.extBut b o (by simpa using hb) e
theorem tQ.rep{v:V}(x:tQ W φ Ro L Rm h)(hs:bX L h h')(r:mm W Rm h v y):mm W Rm h' v y:=
 r.kp (X:=[L]) (λb o e hb=>⟨o.slots,hs.extBut b o (by simpa using hb) e,λZ=>rfl⟩) (λb hb Z=>by rw[au.mp hb];exact⟨x.out.2.2,.inr x.not⟩) (.refl _ _)
theorem tQ.here{t:Nat}(aw:qB W c [L] [] s₀.heap)(x:tQ W φ s₀.heap L Rm s.heap)(g:Good W own φ s₀ σ' Rm s)(hs:bX L s.heap h')(H:mB W c ρ Rm σ' s):mB W c ρ Rm σ' {s with heap:=h',toks:=t}:=
 H.drop (F:=[L]) (λb hb=>by rw[au.mp hb];exact⟨x.out.1,x.out.2.1,x.out.2.2,x.not,aw.notOwn ax,aw.notFrs ax⟩) (λb o hb e=>hs.extBut b o (by simpa using hb) e) (x.good (t:=t) g hs).inv
theorem tQ.excFl{e:al}{m:a9->Option ae}(x:tQ W φ Ro L Rm h)(hm:h.Ns L m)(hs:bX L h h')(f:nF W Ro fl e h):nF W Ro fl e h':=by
 refine mF f λd f=>?_
 have ne:∀b o,h.get? b=some o->(∃vs,o.data=.fields vs)->b≠L:=λb o e zq q=>mF zq λvs hd=>by
  refine o9 hm λo' es ep e' d' Z=>?_;rw[q] at e;have:=(am (e.symm.trans e'))▸hd;rw[d'] at this
  cases this
 exact⟨d,f.h0,hs.extBut _ _ (ne _ _ f.he ⟨_,f.hd⟩) f.he,f.hc,f.hd,f.v0,f.v1,f.ne,f.t0,hs.extBut _ _ (ne _ _ f.hT ⟨_,f.dT⟩) f.hT,f.dT,f.t3⟩
def v6(W:Wd)(c:Cx)(A:bc)(φ:List al)(s:af)(r:R Unit (List V))(use:Option (ae->jV Unit))(Q E:ae->af->Prop):Prop:=
 match r with
 |.ok l σ'=>∀Rm s' D Sg,Good W [] φ s σ' Rm s'->mm W Rm s'.heap (.lst l) (.ref D)->tQ W φ s.heap Sg.locals Rm s'.heap->qL W.M A E use Q Sg (.ref D) (.ok .next) s'
 |.exc _ σ'=>∀Rm e s',Good W [] φ s σ' Rm s'->nR W s.heap c.env₀.frame e s'.heap->E (.ref e) s'
 |.bad=>False
theorem FB{RF iter:aa}{p:cV}{vs:List (a9×Nat)}{use:Option (ae->jV Unit)}(hh:A.handled=none)(ar:n0 A c q d)(hn:uv iter=true)(hk:scope.kind=.function)(hc:qe c.ck scope.names vs (nZ t)=true)(Tb:∀x i,lv.lookup x=some i->vs.lookup x=some i/\(ny c.ck scope.names).lookup x=some .local)(Vr:wS lv t target=true)(hi:uX P W c q A (C q) target Rt iter)(ht:∀(ws:List al) L,(∀a∈ws,W.base.get? a=none)->qt P (W.hides ws) (c.comp scope vs L) q A (C q) cond ifs)(he:∀(ws:List al) L,(∀a∈ws,W.base.get? a=none)->mz P (W.hides ws) (c.comp scope vs L) q A (C q) e RF)(H:mB W c ρ φ σ s)(h:v6 W c A φ s ((dI P q (C q) Rt ρ σ).bind λit σ=>ou it (m3 P q (C q) t cond e ρ) (it.fuel σ) 0 [] σ) use Q E):
  aM W.M A (iu (.ListComp RF [⟨target,iter,ifs,0⟩] scope pos) scope c.env p (jY []) false (eval iter c.env) use) Q E s:=by
 have fr:=λ{n:a9}=>rS (n:=n) H.ok hc;refine rJ (cl:=pD c.env scope.names []) rfl (λx=>tV hn _ x) (sI λn hn=>(fr hn).2.2) hk (q9 hc).1 (q9 hc).2 (hi H ?_)
 cases hd:dI P q (C q) Rt ρ σ with
 |bad=>rw[hd] at h;exact h.elim
 |exc u Rx=>rw[hd] at h;exact h
 |ok it Rx=>
  rw[hd,R.bind_ok] at h;intro Ru Rn ws I F Dd T g₁ Tp Ve hF hD sr Tk h' Su TS hget;generalize hZ:Rn.heap.objs.size=Z at Su hget ⊢
  have TK:Rn.heap.get? Z=none:=by rw[<-hZ];exact mG _
  have UH:Rn.heap.get? (Z+1)=none:=by
   cases q:Rn.heap.get? (Z+1) with
   |none=>rfl
   |some o=>exact absurd (ch q) (by rw[hZ];exact dD.mpr (dU _))
  have Vd:Inv ((W.hides ws).hide Z) Ru Rx h':=Tp.hide TK TS ⟨_,hget⟩;have H₁:=H.hides g₁ Ve Tp
  have Hc:mB (W.hides (Z::ws)) (c.comp scope vs (Z+1)) (blank (nZ t) ρ) Ru Rx {Rn with heap:=h'}:=
   mB.comp (W:=W.hides (Z::ws)) (s:=Rn) (H₁.ok.hide TK) (rN.same (W:=W.hides ws) (W':=W.hides (Z::ws)) rfl H₁.frs) H.sep hk hc UH (g₁.inv.fresh UH) Su TS Vd
  have W0:qB W c F Dd s.heap:=.of H hF sr.ok.sub
  have TF:∀b∈F,∃o,Rn.heap.get? b=some o:=λb hb=>by
   refine xn (sr.ok.out Tk b hb) λZ Z o e Z=>?_;exact⟨o,e⟩
  have UN:∀b,(∃n,(pD c.env scope.names []).lookup n=some b)->b∈ownOf c.env:=λb zq=>mF zq λn hn=>mem_ownOf (qK (λZ Z hm=>absurd hm (by simp)) n b (mem_of_lookup hn))
  have T9:∀b∈ownOf (c.comp scope vs (Z+1)).env,b=Z+1\/b∈ownOf c.env:=λb hb=>by
   rcases nV hb with q | ⟨n,hn⟩
   .exact .inl q
   .exact .inr (UN b ⟨n,hn⟩)
  have aw:qB (W.hides (Z::ws)) (c.comp scope vs (Z+1)) F Dd s.heap:=by
   refine⟨hF,λb hb hm=>?_,λ{b} hb hm=>?_,λ{b} hb=>W0.notFrs hb,H.inv.base⟩
   .rcases aH.mp hm with hm | hm
    .rcases bd.mp hm with q | hm
     .refine mF (TF b (sr.ok.sub b hb)) λo e=>?_;rw[q,TK] at e;cases e
     .exact hD b hb hm
    .exact W0.hid b hb hm
   .rcases T9 b hm with q | q
    .refine mF (TF b hb) λo e=>?_;rw[q,UH] at e;cases e
    .exact W0.notOwn hb q
  have RH:Good W [] φ s Rx Ru {Rn with heap:=h'}:=g₁.trans (Good.keeps g₁.inv TS);have old:∀b,Rn.heap.get? b=none->s.heap.get? b=none:=λb hb=>g₁.evo.fresh hb
  have Xt:qB W c [Z,Z+1] [] s.heap:=.of H (λb hb=>by
   rcases bd.mp hb with q | q
   .rw[q];exact old _ TK
   .rw[au.mp q];exact old _ UH) λZ hb=>nomatch hb
  have Yf:Z∉W.hid:=λhm=>by refine mF (g₁.inv.hid Z hm) λo e=>?_;rw[TK] at e;cases e
  have Yl:Z+1∉W.hid:=λhm=>by refine mF (g₁.inv.hid _ hm) λo e=>?_;rw[UH] at e;cases e
  have hne:Z≠Z+1:=aP (bO _)
  have gone:∀{ρ RE RK Rr},mB (W.hides (Z::ws)) (c.comp scope vs (Z+1)) ρ RE RK Rr->tQ W φ s.heap (Z+1) RE Rr.heap:=λ{ρ RE RK Rr} Rw=>by
   refine l8 Rw.ok.loc λm hm Z=>?_;exact⟨old _ UH,⟨Rw.ok.out.1,Yl,Rw.ok.out.2⟩,m,hm⟩
  have We:∀a∈Z::ws,W.base.get? a=none:=λa ha=>by
   rcases bd.mp ha with q | q
   .rw[q];exact H.inv.nobase (old _ TK)
   .exact H.inv.nobase (Ve a q)
  have loop:fH W.M A (.compLoop (.ListComp RF [⟨target,iter,ifs,0⟩] scope pos) 0 (.ref I) (.ref Z) (c.comp scope vs (Z+1)).env) (qL W.M A E use Q (db scope (pD c.env scope.names []) (Z+1) c.env) (.ref Z)) {Rn with heap:=h'}:=by
   refine AF (W:=W.hides (Z::ws)) (c:=c.comp scope vs (Z+1)) (φ₀:=φ) (s₀:=s) (fu:=it.fuel Rx) (ρ:=ρ) (ρ':=blank (nZ t) ρ) (l:=[]) (lv:=lv) (C:=λZ=>C q) hh ar.comp (λx i hx=>?_) Vr (λv=>yg) (λi hi=>by rw[tS,if_pos hi])
    (ht (Z::ws) (Z+1) We) (he (Z::ws) (Z+1) We) (sr.hid Z) aw (old _ UH) (bD _ ax) (old _ TK) (λhm=>?_) (λhm=>?_) (λhm=>?_) (RH.to Vd) Hc (sr.move Tk TK TS) ⟨(g₁.inv.fresh TK).1,[],0,by simp,hget,.nil'⟩ ?_
   .refine nt (Tb x i hx) λa b=>?_;refine⟨a,λZ=>?_⟩;show (jp scope c.env).names.lookup x=_;rw[pJ (vars:=c.vars) H.ok.kind];exact b
   .refine mF (TF Z hm) λo e=>?_;rw[TK] at e;cases e
   .rcases T9 Z hm with q | q
    .exact hne q
    .exact Xt.notOwn ax q
   .exact Xt.notFrs ax hm
   .suffices key:∀r,v6 W c A φ s r use Q E->n7 (W.hides (Z::ws)) (c.comp scope vs (Z+1)) (blank (nZ t) ρ) Z φ s r (qL W.M A E use Q (db scope (pD c.env scope.names []) (Z+1) c.env) (.ref Z)) from key _ h
    clear h
    intro r h
    cases r with
    |bad=>exact h
    |ok l RK=>
     intro RE Rr g Rw acc;obtain ⟨ho,ys,n,hz,e,r⟩:=acc
     exact h RE Rr Z (c.comp scope vs (Z+1)).env g.bares (by
      exact⟨Z,ys,n,rfl,⟨ho,Yf⟩,ac hz (by decide),e,r.bares⟩) (gone Rw)
    |exc u RK=>
     intro RE ex Rr g Rw ⟨L₀,hL₀,fl⟩;replace hL₀:c.env₀.frame=some L₀:=hL₀;have gn:=gone Rw;refine mF gn.ns λm hm=>?_;refine⟨m,hm,λSp hs=>?_⟩;have Up:nF W s.heap (cU L₀) ex Sp:=gn.excFl hm hs (nF.same (W:=W.hides (Z::ws)) (W':=W) rfl fl);have gg:=gn.good (t:=Rr.toks) (h':=Sp) g.bares hs;have Hg:mB W c ρ RE RK {Rr with heap:=Sp}:=H.good gg;refine zk (F:=nT (c.env₀::c.out)) Up λRT hop SP=>?_;refine h RE ex _ (gg.hop (t:=Rr.toks) H.inv.base hop Hg.frs.at) ?_;have e1:(db scope (pD c.env scope.names []) (Z+1) c.env).frame=c.env₀.frame:=ar.frame;rw[e1,hL₀] at SP;rw[hL₀];exact SP.held
  exact iO loop ((sr.hid Z).self (sr.move Tk TK TS) loop)
end
section
variable {W:Wd}{c:Cx}{own φ Rm:List al}{σ σ':St}{s s':af}{ρ ρ':mc}{E:ae->af->Prop}{A:bc}{q:Bool}{d:Nat}{P:Pg}{C:Bool->Call}
structure wK(P:Pg)(W:Wd)(c:Cx)(A:bc)(C:Bool->Call)(t Rt cond e:MX)(target iter RF:aa)(ifs:List aa)(scope:fP):Prop where
 hn:uv iter=true
 hk:scope.kind=.function
 ex:∃lv vs,qe c.ck scope.names vs (nZ t)=true/\(∀x i,lv.lookup x=some i->vs.lookup x=some i/\(ny c.ck scope.names).lookup x=some .local)/\wS lv t target=true/\
  (∀(ws:List al) L,(∀a∈ws,W.base.get? a=none)->qt P (W.hides ws) (c.comp scope vs L) false A (C false) cond ifs)/\
  (∀(ws:List al) L,(∀a∈ws,W.base.get? a=none)->mz P (W.hides ws) (c.comp scope vs L) false A (C false) e RF)
 hi:uX P W c false A (C false) target Rt iter
theorem v6.ofV{r:R Unit (List V)}(H:mB W c ρ φ σ s)(h:mi W c φ s (r.bind λl σ=>.ok (.lst l) σ) (mm W) Q E):v6 W c A φ s r none Q E:=by
 cases r with
 |bad=>exact h
 |exc u σ'=>exact h
 |ok l σ'=>
  intro Rm s' D Sg g rv gn;refine mF gn.ns λm hm=>?_;exact⟨m,hm,λh' hs=>h Rm _ _ (gn.good (t:=s'.toks) g hs) (gn.rep hs rv)⟩
noncomputable abbrev A7(P:Pg)(C:Call)(t Rt cond e:MX)(ρ:mc)(σ:St):R Unit (List V):=
 (dI P false C Rt ρ σ).bind λit σ=>ou it (m3 P false C t cond e ρ) (it.fuel σ) 0 [] σ
theorem R.bind_assoc'{ε:Type}{r:R ε α}{f:α->St->R ε β}{g:β->St->R ε γ}:((r.bind f).bind g)=r.bind λa σ=>(f a σ).bind g:=by cases r<;>rfl
theorem Bb(P:Pg)(C:Call)(t Rt cond e:MX)(ρ:mc)(σ:St):dE P false C (.comp t Rt cond e) ρ σ=(A7 P C t Rt cond e ρ σ).bind λl σ=>.ok (.lst l) σ:=R.bind_assoc'.symm
theorem DE{iter RF:aa}(ar:n0 A c q d)(x:q=false->wK P W c A C t Rt cond e target iter RF ifs scope):
  mz P W c q A (C q) (.comp t Rt cond e) (.ListComp RF [⟨target,iter,ifs,0⟩] scope pos):=by
 intro ρ φ σ s Q E H h
 cases q with
 |true=>exact h.elim
 |false=>
  obtain ⟨hn,hk,⟨lv,vs,hc,Tb,Vr,ht,he⟩,hi⟩:=x rfl;rw[Bb] at h;rw[eval_ListComp];exact FB (use:=none) (ar.handled rfl) ar hn hk hc Tb Vr hi ht he H (v6.ofV H h)
theorem mq.gdb[Decidable p]{r:R mc mc}{f:mc->St->R mc (Fl×mc)}{Q:fQ->af->Prop}(h:mq W c own φ s ((if p then r else .bad).bind f) Q E):p/\mq W c own φ s (r.bind f) Q E:=by
 by_cases hp:p
 .rw[if_pos hp] at h;exact⟨hp,h⟩
 .rw[if_neg hp] at h;exact h.elim
theorem ww{i:Nat}{n:a9}{x:aa}{p:cV}(hc:c.vars.lookup n=some i)(hs:ez x (some (.Name n p)) pos.line c.env=pure false)(a:mz P W c q A (C q) e x):
  n9 P W c q A C (.asg (.var i) e) (.Assign [.Name n p] x pos):=by
 intro ρ φ σ s Q E H h;refine wpAny_Assign_Name (a H (mi.ofS H h λv σ' Rm y s' Z g rv H' hk=>?_)) hs;have hk:=mq.gdb hk;exact pM (loc:=false) H' hc hk.1 rv (λq=>ma q) λRG RD RU=>hk.2 Rm _ RG RD rfl RU
theorem Cz{i:Nat}{n:a9}{iter RF:aa}{p TW:cV}(ar:n0 A c q d)(hc:c.vars.lookup n=some i)(x:q=false->wK P W c A C t Rt cond e target iter RF ifs scope):
  n9 P W c q A C (.asg (.var i) (.comp t Rt cond e)) (.Assign [.Name n p] (.ListComp RF [⟨target,iter,ifs,0⟩] scope TW) pos):=by
 obtain ⟨b,hb⟩:∃b:Bool,ez (.ListComp RF [⟨target,iter,ifs,0⟩] scope TW) (some (.Name n p)) pos.line c.env=pure b:=⟨_,rfl⟩
 cases b with
 |false=>exact ww hc hb (DE ar x)
 |true=>
  intro ρ φ σ s Q E H h
  cases q with
  |true=>exact h.elim
  |false=>
   obtain ⟨hn,hk,⟨lv,vs,hc',Tb,Vr,ht,he⟩,hi⟩:=x rfl;have h:mq W c (ownOf c.env) φ s (((((A7 P (C false) t Rt cond e ρ σ).bind λl σ=>.ok (.lst l) σ).lift ρ)).bind λv σ=>(dA P false (C false) (.var i) v ρ σ).bind λρ σ=>.ok (.next,ρ) σ) Q E:=Bb P (C false) t Rt cond e ρ σ▸h;rw[exec_Assign_Name_used _ _ _ _ hb];refine ai (bQ (ai ?_));show aM _ A (do let _ <-iu (.ListComp RF [⟨target,iter,ifs,0⟩] scope TW) scope c.env _ (jY []) false (eval iter c.env) (some (iM (.Name n p) c.env))) _ _ s;refine ai (FB (use:=some (iM (.Name n p) c.env)) (ar.handled rfl) ar hn hk hc' Tb Vr hi ht he H ?_);change v6 W c A φ s (A7 P (C false) t Rt cond e ρ σ) _ _ _
   revert h
   generalize A7 P (C false) t Rt cond e ρ σ=r;intro h
   cases r with
   |bad=>exact h
   |exc u Rx=>
    intro Ru RO Rn g₁ RJ;exact h Ru RO Rn g₁.up RJ (H.good g₁)
   |ok l Rx=>
    have h:=mq.gdb h;intro Ru Rn D Sg g₁ rv gn
    .have X3:=h.1;have h:=h.2;have aw:qB W c [Sg.locals] [] s.heap:=.of H (λb hb=>by rw[au.mp hb];exact gn.new) λZ hb=>nomatch hb;show aM W.M A (iM (.Name n p) c.env (.ref D)) _ _ _;refine PySem.wpAny_assign_Name (pM (loc:=false) (H.good g₁) hc X3 rv (λq=>ma q) λRG RD RU=>?_);refine sQ gn.ns λm o es ep e1 d1 r1 r2=>?_
     obtain ⟨sl,e3,_⟩:=RD.evo.keep _ o e1 λhm=>by
      rcases aH.mp hm with q | q
      .exact gn.out.1 q
      .exact aw.notOwn ax q
     have Um:tQ W φ s.heap Sg.locals Ru RG.heap:=⟨gn.new,gn.out,m,_,es,ep,e3,d1,r1,r2⟩;refine⟨m,⟨_,es,ep,e3,d1,r1,r2⟩,λh' hs=>aO (aO ?_)⟩;have gg:Good W (ownOf c.env) φ s Rx Ru RG:=g₁.up.trans RD;exact h Ru _ _ (Um.good (t:=RG.toks) gg hs) rfl (Um.here (t:=RG.toks) aw gg hs RU)
end
def uo(P:Pg)(W:Wd)(c:Cx)(q:Bool)(A:bc)(C:Call)(t:MX)(x:aa):Prop:=∀⦃ρ:mc⦄ ⦃φ:List al⦄ ⦃σ:St⦄ ⦃s:af⦄ ⦃v:V⦄ ⦃y:ae⦄ ⦃Q:fQ->af->Prop⦄ ⦃E:ae->af->Prop⦄,
 mB W c ρ φ σ s->mm W φ s.heap v y->mq W c (ownOf c.env) φ s ((dA P q C t v ρ σ).bind λρ σ=>.ok (.next,ρ) σ) Q E->aM W.M A (iM x c.env y) (λZ s=>Q .next s) E s
def wM(x:aa):Prop:=∀xs env,dv (x::xs) env=(false,iM x env)::dv xs env
class inductive qE(P:Pg)(W:Wd)(c:Cx)(q:Bool)(A:bc)(C:Call):MX->List aa->Prop where
 |nil:qE P W c q A C .nil []
 |cons {t ts x xs}:wM x->uo P W c q A C t x->qE P W c q A C ts xs->qE P W c q A C (.cons t ts) (x::xs)
section
variable {c:Cx}{s:af}{q:Bool}{P:Pg}{CC:Bool->Call}
theorem qE.length{ts:MX}{xs:List aa}(h:qE P W c q A C ts xs):Jw ts=xs.length:=by
 induction h with
 |nil=>rfl
 |cons _ _ _ ih=>exact congrArg (·+1) ih
theorem qE.each{ts:MX}{xs:List aa}(h:qE P W c q A C ts xs):(dv xs env).length=xs.length/\(dv xs env).findIdx? (·.1)=none:=by
 induction h with
 |nil=>exact⟨rfl,rfl⟩
 |cons h0 _ _ ih=>
  rw[h0];exact⟨congrArg (·+1) ih.1,by rw[jF,ih.2];rfl⟩
theorem mq.bindA{r:R mc mc}{k:mc->St->R mc (Fl×mc)}{Q Q₁:fQ->af->Prop}(h:mq W c own φ s (r.bind k) Q E)(hk:∀ρ' σ' Rm s',r=.ok ρ' σ'->Good W own φ s σ' Rm s'->mB W c ρ' Rm σ' s'->mq W c own Rm s' (k ρ' σ') Q E->Q₁ .next s'):mq W c own φ s (r.bind λρ σ=>.ok (.next,ρ) σ) Q₁ E:=by
 cases r with
 |bad=>exact h
 |exc ρ' σ'=>exact h
 |ok ρ' σ'=>exact λRm f s' g rf H'=>(show f=.next from rf)▸hk ρ' σ' Rm s' rfl g H' (mq.step g h)
theorem mq.assoc{r:R mc α}{f:α->St->R mc β}{k:β->St->R mc (Fl×mc)}{Q:fQ->af->Prop}(h:mq W c own φ s ((r.bind f).bind k) Q E):mq W c own φ s (r.bind λa σ=>(f a σ).bind k) Q E:=R.bind_assoc'▸h
theorem mq.optB{o:Option α}{f:α->R mc β}{k:β->St->R mc (Fl×mc)}{Q:fQ->af->Prop}(h:mq W c own φ s ((R.opt o f).bind k) Q E):∃a,o=some a/\mq W c own φ s ((f a).bind k) Q E:=by
 cases o with
 |none=>exact h.elim
 |some a=>exact⟨a,rfl,h⟩
theorem mq.gdB[Decidable p]{r:R mc β}{k:β->St->R mc (Fl×mc)}{Q:fQ->af->Prop}(h:mq W c own φ s ((Mine.Internal.gd p r).bind k) Q E):p/\mq W c own φ s (r.bind k) Q E:=by
 unfold Mine.Internal.gd at h
 by_cases hp:p
 .rw[if_pos hp] at h;exact⟨hp,h⟩
 .rw[if_neg hp] at h;exact h.elim
theorem KD{i:Nat}{n:a9}{p:cV}(hc:c.vars.lookup n=some i):uo P W c q A C (.var i) (.Name n p):=by
 intro ρ φ σ s v y Q E H r h;have h:=mq.gdb h;rw[fE];exact ai (bQ (rB (loc:=false) H hc h.1 r (λq=>ma q) λs' g H'=>h.2 φ .next s' g rfl H'))
theorem IQ(ok:nO W P)(hK:K.In W.base)(cf:∀c,pw K (W.cls c) attrs){nm:a9}{x:aa}(hS:W.S[k]?=some nm)(hk:nm∈attrs)(a:mz P W c q A C e x):
  uo P W c q A C (.attr e k) (.Attribute x nm pos):=by
 intro ρ φ σ s v y Q E H r h;rw[assign_Attribute];refine ai (bn (a H (mq.ofV H (mq.assoc h) λv' σ' Rm y' s' Z g rv H' hk'=>?_)));refine l8 (mq.optB hk') λRK e2 hk'=>?_;refine ai (bQ (ai (bn (CT (P:=P) ok (λa o e=>g.inv.base _ _ (hK a o e)) cf g.inv hS hk rv (g.rep r) e2 λR3 Xo=>?_))));exact wpAny_release (hk' Rm .next R3 Xo.up rfl (H'.good Xo))
theorem KB(ok:nO W P){i:MX}{x z:aa}(a:mz P W c q A C e x)(b:mz P W c q A C i z):uo P W c q A C (.idx e i) (.Subscript x z pos):=by
 intro ρ φ σ s v y Q E H r h;rw[assign_Subscript];refine ai (bn (a H (mq.ofV H (mq.assoc h) λUu Rx Ru V1 Rn Z g₁ U3 H₁ Rq=>?_)));refine ai (bn (b H₁ (mq.ofV H₁ (mq.assoc Rq) λTT RK RE Ut Rr Z RH U2 Rw RC=>?_)));refine l8 (mq.optB RC) λSo e3 RC=>?_;refine ai (bQ (ai (bn (CU ok RH.inv (RH.rep U3) U2 (RH.rep (g₁.rep r)) e3 λRG RD=>?_))));exact wpAny_release (RC RE .next RG RD.up rfl (Rw.good RD))
theorem as_list{ts:MX}{xs:List aa}(a:qE P W c q A C ts xs):∀{l:List V} {ys:List ae} {ρ:mc} {φ:List al} {σ:St} {s:af} {Q:fQ->af->Prop},mB W c ρ φ σ s->my W φ s.heap l ys->
  mq W c (ownOf c.env) φ s ((QV P q C ts l ρ σ).bind λρ σ=>.ok (.next,ρ) σ) Q E->aM W.M A (dG ((dv xs c.env).map (·.2)) ys) (λZ s=>Q .next s) E s:=by
 induction a with
 |nil=>
  intro l ys ρ φ σ s Q H r h
  cases l with
  |cons _ _=>exact h.elim
  |nil=>rw[show ys=[] from r];exact aO (h φ .next s (.refl H.inv) rfl H)
 |@cons t ts x xs a0 a1 a2 ih=>
  intro l ys ρ φ σ s Q H r h
  cases l with
  |nil=>exact h.elim
  |cons v l=>
   refine mI r.uncons λy zs e rv rl=>?_;rw[a0,e];show aM W.M A (do jo zs (iM x c.env y);dG ((dv xs c.env).map (·.2)) zs) _ E s
   exact ai (bn (a1 (Q:=λZ s'=>aM W.M A (dG ((dv xs c.env).map (·.2)) zs) (λZ s=>Q .next s) E s') H rv (mq.bindA (mq.assoc h) λρ' σ' Rm s' Z g H' hk=>
    ih H' (rl.evo (X:=φ++ownOf c.env) g.evo (own_apart H) g.grows) hk)))
theorem BB(r:mm W φ h (.tup l) y):∃ad zs m,y=.ref ad/\zs.length=l.length/\h.get? ad=some (uK zs m)/\my W φ h l zs:=by
 refine mR r λad zs m e Z Z ho rl=>?_;exact⟨ad,zs,m,e,rl.length,ho,rl⟩
theorem KC(hh:q=false->A.handled=none){ts:MX}{xs:List aa}{p:cV}(a:qE P W c q A C ts xs):uo P W c q A C (.tup ts) (.Tuple xs k p):=by
 intro ρ φ σ s v y Q E H r h;have h:=mq.gdB h;refine l8 (mq.optB h.2) λl e h1=>?_;have h1:=mq.gdB h1;rw[qY e] at r;refine mN (BB r) λad zs n ey hz ho rl=>?_;refine nt (a.each (env:=c.env)) λe1 e2=>?_;rw[ey];refine jG (items:=zs.toArray) (hh h.1) ⟨_,ho,rfl,n,rfl⟩ (by rw[e1,bF,hz,<-h1.1,a.length]) e2 λh' he=>?_;have g:Good W [] φ s σ φ {s with heap:=h'}:=Good.keeps H.inv λb o e=>he b o (aP (ch e)) e;exact as_list a (H.good g) (g.repL rl) (mq.step g.up h1.2)
theorem Ay{x y:aa}{n:a9}{p:cV}(l:Nat)(env:eA):ez x (some (.Attribute y n p)) l env=pure false:=by
 unfold ez
 split<;>rfl
theorem CI{x y z:aa}{p:cV}(l:Nat)(env:eA):ez x (some (.Subscript y z p)) l env=pure false:=by
 unfold ez
 split<;>rfl
theorem wB{x:aa}{ts:List aa}{p:cV}(l:Nat)(env:eA):ez x (some (.Tuple ts k p)) l env=pure false:=by
 unfold ez
 split<;>rfl
theorem Io{z x:aa}(hn:ez x (some z) pos.line c.env=pure false)(hs:wM z)(hw:eo [z] x c.env=pure none)(b:uo P W c q A (CC q) t z)(a:mz P W c q A (CC q) e x):n9 P W c q A CC (.asg t e) (.Assign [z] x pos):=by
 intro ρ φ σ s Q E H h;refine wpAny_Assign_stores (a H (mi.ofS H h λv σ' Rm y s' Z g rv H' hk=>?_)) hn hw;rw[hs];exact b H' rv hk
end
noncomputable def Jk:aa->Bool:=λ| .Starred ..=>true | _=>false
noncomputable def JH(names:List (a9×b9))(line:Nat):aa->Option a9:=fun
 |.Name id pos=>if names.lookup id==some .local&&pos.line==line then some id else none
 |_=>none
noncomputable def Iq(a b c d e:Bool)(ns:List a9):Option (Option (List a9)):=if a=true then some none else if b=true then some none else if c=true then some none else if d=true then some none else if e=true then none else some (some ns)
noncomputable def O5(a b c d e:Bool)(ns:List a9)(u:jV (Option (List a9))):jV (Option (List a9)):=if a=true then pure none else if b=true then pure none else if c=true then pure none else if d=true then pure none else if e=true then u else pure (some ns)
theorem Aw{a b c d e:Bool}{ns:List a9}{u:jV (Option (List a9))}{o:Option (List a9)}:Iq a b c d e ns=some o->O5 a b c d e ns u=pure o:=by
 cases a with
 |true=>exact λh=>congrArg pure (am h)
 |false=>cases b with
  |true=>exact λh=>congrArg pure (am h)
  |false=>cases c with
   |true=>exact λh=>congrArg pure (am h)
   |false=>cases d with
    |true=>exact λh=>congrArg pure (am h)
    |false=>cases e with
     |true=>exact mr
     |false=>exact λh=>congrArg pure (am h)
noncomputable def xR(names:List (a9×b9))(ts:List aa):List a9:=ts.filterMap (JH names ((ts.head?.map (·.pos.line)).getD 0))
noncomputable def Ir(names:List (a9×b9))(ts vs:List aa):Option (Option (List a9)):=
 Iq (!(ts.length==2||ts.length==3)||vs.length != ts.length||gT != .function) (vs.any Jk) ((xR names ts).length != ts.length||(xR names ts).eraseDups.length != (xR names ts).length) (vs.all (foldedForSure 8)) (vs.all (constantsAlone 8)) (xR names ts)
theorem y4{ts vs:List aa}{k':Nat}{p p':cV}{o:Option (List a9)}(hk:env.scope.kind=.function)(h:Ir env.scope.names ts vs=some o):
  eo [.Tuple ts k p] (.Tuple vs k' p') env=pure o:=by
 have hb:env.blockKind=.function:=by unfold eA.blockKind;rw[hk];rfl
 unfold eo;rw[hb];exact Aw h
noncomputable def Ez(x:aa):Bool:=aG (motive_1:=λZ=>Bool) x (λZ Z Z=>true) (λZ Z Z=>true) (λZ Z Z Z=>true) (λZ Z Z=>true) (λZ Z Z Z=>true) (λZ Z Z Z=>true) (λZ Z Z=>true) (λZ Z Z=>true) (λZ Z Z Z=>true) (λZ Z Z Z=>true) (λZ Z Z Z Z=>true) (λZ Z Z Z=>true) (λZ Z=>true) (λZ Z=>true) (λZ Z=>true) (λZ Z Z Z=>true) (λZ Z Z Z=>true) (λZ Z Z Z=>true) (λZ Z=>true) (λZ Z Z=>true) (λZ Z Z=>true) (λZ Z Z=>true) (λZ Z=>true) (λZ Z=>true) (λZ Z=>true) (λZ Z Z=>false) (λZ Z Z Z=>true)
theorem Ax{ts:List aa}{p:cV}{x:aa}:Ez x=true->eo [.Tuple ts k p] x env=pure none:=by
 cases x<;>first | exact λZ=>rfl | exact ma
section
variable {c:Cx}{s:af}{q:Bool}{P:Pg}{CC:Bool->Call}
theorem zd{Q:List ae->af->Prop}(hh:A.handled=none)(H:mB W c ρ φ σ s)(r:mm W φ s.heap (.tup l) y)(hl:n=l.length)(h:∀ys s',Good W [] φ s σ φ s'->my W φ s'.heap l ys->mB W c ρ φ σ s'->Q ys s'):aM W.M A (unpackItems y n none) Q E s:=by
 refine mN (BB r) λad zs m e hz ho rl=>?_
 have hn:n=zs.toArray.size:=by rw[bF,hz,hl]
 rw[e,hn];refine unpackItems_tuple hh ⟨_,ho,rfl,m,rfl⟩ λh' he=>?_;have g:Good W [] φ s σ φ {s with heap:=h'}:=Good.keeps H.inv λb o e=>he b o (aP (ch e)) e;exact h _ _ g (g.repL rl) (H.good g)
theorem vO{ts:MX}:rA ts=some is->(ts=.nil/\is=[])\/∃e es i js,ts=.cons e es/\is=i::js/\e=.var i/\rA es=some js:=by
 cases ts with
 |nil=>exact λh=>.inl ⟨rfl,(am h).symm⟩
 |cons e es=>exact λh=>(bs h).elim λi h=>(ms h.2).elim λjs h'=>.inr ⟨e,es,i,js,rfl,h'.2.symm,tN h.1,h'.1⟩
 |_=>exact mr
theorem Du{k:mc->St->R mc (Fl×mc)}{Q:fQ->af->Prop}:∀{ts:MX} {l:List V} {ρ:mc},rA ts=some is->mq W c own φ s ((QV P q C ts l ρ σ).bind k) Q E->∃ρ',bindL is l ρ=some ρ'/\mq W c own φ s (k ρ' σ) Q E:=by
 induction is with
 |nil=>
  intro ts l ρ hv h
  rcases vO hv with ⟨e,_⟩ | ⟨_,_,_,_,_,e,_⟩
  .rw[e] at h
   cases l with
   |nil=>exact⟨ρ,rfl,h⟩
   |cons _ _=>exact h.elim
  .cases e
 |cons i is ih=>
  intro ts l ρ hv h
  rcases vO hv with ⟨_,e⟩ | ⟨e,es,j,js,e1,e2,e3,e4⟩
  .cases e
  .rw[e1,e3] at h;rw[<-(dp e2).1] at h
   cases l with
   |nil=>exact h.elim
   |cons v l=>
    have h:=mq.gdb (mq.assoc h);refine l8 (ih (e4.trans (congrArg some (dp e2).2.symm)) h.2) λρ' e h'=>?_;refine⟨ρ',?_,h'⟩;show ((og (i < ρ.length) (ρ.set i (some v))).bind λρ=>bindL is l ρ)=_;rw[show og (i < ρ.length) (ρ.set i (some v))=some (ρ.set i (some v)) from if_pos h.1];exact e
theorem BO:∀{l:List V} {ρ ρ':mc},bindL is l ρ=some ρ'->l.length=is.length:=by
 induction is with
 |nil=>intro l ρ ρ' h;refine l8 (ms h) λZ e Z=>?_;rw[qu e];rfl
 |cons i is ih=>
  intro l ρ ρ' h;refine l8 (bs h) λv e h=>?_;refine l8 (bs h) λRs Z h=>?_;rw[vd e];exact congrArg (·+1) (ih h)
theorem zG{i:Nat}{v:Option V}:∀{l:List V} {ρ ρ':mc},i∉is->i < ρ.length->bindL is l (ρ.set i v)=some ρ'->∃Rs,bindL is l ρ=some Rs/\ρ'=Rs.set i v/\i < Rs.length:=by
 induction is with
 |nil=>
  intro l ρ ρ' _ hi h;refine l8 (ms h) λu e h=>?_;exact⟨ρ,by show (s7 l).map _=_;rw[e];rfl,h.symm,hi⟩
 |cons j is ih=>
  intro l ρ ρ' hm hi h;refine l8 (bs h) λx e1 h=>?_;refine l8 (bs h) λRS e2 h=>?_;have o:=nW e2;have ne:i≠j:=λq=>hm (by rw[q];exact ax);rw[<-o.2,List.set_comm _ _ ne] at h
  have oj:j < ρ.length:=by have:=o.1;rwa [aV] at this
  refine l8 (ih (λq=>hm (aE _ q)) (by rw[aV];exact hi) h) λRs e3 h'=>?_;refine⟨Rs,?_,h'⟩;show ((hd l).bind λv=>(og (j < ρ.length) (ρ.set j (some v))).bind λρ=>bindL is (tl l) ρ)=_;rw[e1];show ((og (j < ρ.length) (ρ.set j (some x))).bind λρ=>bindL is (tl l) ρ)=_;rw[show og (j < ρ.length) (ρ.set j (some x))=some (ρ.set j (some x)) from if_pos oj];exact e3
theorem w_rev:∀{ns:List a9},is.map some=ns.map (λn=>c.vars.lookup n)->is.Nodup->∀{l:List V} {ys:List ae} {ρ ρ':mc} {s:af} {fs:List (ae->jV Unit)} {zs:List ae} {Q:Unit->af->Prop},mB W c ρ φ σ s->my W φ s.heap l ys->bindL is l ρ=some ρ'->
  (∀s',Good W (ownOf c.env) φ s σ φ s'->mB W c ρ' φ σ s'->aM W.M A (dG fs zs) Q E s')->aM W.M A (dG ((ns.map λn=>bindName c.env n).reverse++fs) (ys.reverse++zs)) Q E s:=by
 induction is with
 |nil=>
  intro ns hn _ l ys ρ ρ' s fs zs Q H r e h;refine l8 (ms e) λZ e1 e2=>?_;rw[qu e1] at r;rw[show ys=[] from r,List.map_eq_nil_iff.mp hn.symm];exact h s (.refl H.inv) (e2▸H)
 |cons i is ih=>
  intro ns hn nd l ys ρ ρ' s fs zs Q H r e h
  cases ns with
  |nil=>exact nomatch hn
  |cons n ns=>
   have hn:=dp hn;have nd:=bo.mp nd;refine l8 (bs e) λv e1 e=>?_;refine l8 (bs e) λRS e2 e=>?_;have o:=nW e2;rw[<-o.2] at e;refine mM (zG nd.1 o.1 e) λRs e3 e4 hi=>?_;rw[vd e1] at r;refine mI r.uncons λy V2 ey ry rl=>?_;rw[ey,fm,jS,jS,ba,ba];refine ih hn.2 nd.2 H rl e3 λRn g₁ H₁=>?_;show aM W.M A (do jo zs (bindName c.env n y);dG fs zs) _ E Rn;exact ai (bn (rB (loc:=false) H₁ hn.1.symm hi (ry.evo (X:=φ++ownOf c.env) g₁.evo (own_apart H) g₁.grows) (λq=>ma q) λRr RH Rw=>h Rr (g₁.trans RH) (e4▸Rw)))
theorem JS{ns:List a9}{tt:MX}{x:aa}{ts:List aa}{p:cV}(hh:q=false->A.handled=none)(hv:rA tt=some is)(hn:is.map some=ns.map (λn=>c.vars.lookup n))(nd:is.Nodup)(hs:swapsWithSole [.Tuple ts k p] x pos.line c.env=pure false)(hw:eo [.Tuple ts k p] x c.env=pure (some ns))(a:mz P W c q A (CC q) e x):
  n9 P W c q A CC (.asg (.tup tt) e) (.Assign [.Tuple ts k p] x pos):=by
 intro ρ φ σ s Q E H h;refine Assign_Tuple_swapped (a H (mi.ofS H h λv σ' Rm y s' Z g rv H' hk=>?_)) hs hw;have hk:=mq.gdB hk;refine l8 (mq.optB hk.2) λl e h1=>?_;have h1:=mq.gdB h1;refine l8 (Du hv h1.2) λρ' eb h2=>?_;rw[qY e] at rv
 have hl:ns.length=is.length:=by rw[<-ay (f:=λn=>c.vars.lookup n),<-hn,ay]
 refine zd (hh hk.1) H' rv (hl.trans ((BO eb).symm)) λys Rn g₁ rl H₁=>?_;have z:=w_rev (A:=A) (fs:=[]) (zs:=[]) (Q:=λZ s=>Q .next s) (E:=E) hn nd H₁ rl eb λRr RH Rw=>aO (h2 Rm .next Rr (g₁.up.trans RH) rfl Rw);rw[aT,aT,<-List.map_reverse] at z;exact z
end
section
variable {W:Wd}{c:Cx}{own φ Rm:List al}{σ σ':St}{s s' s₀:af}{ρ ρ':mc}{Q:fQ->af->Prop}{E:ae->af->Prop}{A:bc}{q:Bool}{d:Nat}{P:Pg}{C:Call}{CC:Bool->Call}
theorem wY(H:mB W c ρ φ σ s)(e:s.heap.get? b=some o)(hd:o.data=.fields vs):b∉φ++ownOf c.env:=λhm=>by
 have x:x5 s.heap b vs:=⟨o,e,hd⟩
 rcases aH.mp hm with hm | hm
 .exact H.inv.notF hm x
 .rcases nV hm with q | ⟨n,hn⟩
  .refine l8 H.ok.loc λm RV Z=>?_;obtain ⟨o',_,_,e1,d1,_⟩:=RV;rw[q] at x;exact x.not e1 (by rw[d1];exact nofun)
  .refine nJ (H.ok.cell n b hn) λZ Z Z u SS Z=>?_;obtain ⟨o',e1,d1⟩:=SS;exact x.not e1 (by rw[d1];exact nofun)
theorem ur(H:mB W c ρ φ σ s)(g:Good W (ownOf c.env) φ s σ' Rm s')(e:s.heap.get? b=some o)(hd:o.data=.fields vs):∃o',s'.heap.get? b=some o'/\o'.cls=o.cls/\o'.data=.fields vs:=by
 refine l8 (g.evo.keep b o e (wY H e hd)) λsl e' Z=>?_;exact⟨_,e',rfl,hd⟩
theorem nF.good{e:al}(x:nF W Ro fl e s.heap)(H:mB W c ρ φ σ s)(g:Good W (ownOf c.env) φ s σ' Rm s'):nF W Ro fl e s'.heap:=by
 refine mF x λd x=>?_;refine mM (ur H g x.he x.hd) λoe he hc hd=>?_;refine mM (ur H g x.hT x.dT) λoT hT Z dT=>?_;exact⟨⟨oe,d.vs,d.a0,d.T,oT,d.ts⟩,x.h0,he,hc.trans x.hc,hd,x.v0,x.v1,x.ne,x.t0,hT,dT,x.t3⟩
theorem n0.mark(a:n0 A c q d)(e:ae):n0 (A.mark (some e)) c true d:=⟨a.frames,a.frame,a.depth,a.units,λq=>by cases q⟩
theorem wt(a:al):cI a≠byPass:=by intro x;cases x
theorem zi{e:al}{Q:af->Prop}(ar:n0 A c q d)(x:Good W own φ s₀ σ' Rm s)(H:mB W c ρ Rm σ' s)(ex:nR W s₀.heap c.env₀.frame e s.heap)(hb:W.base.StaysIn s₀.heap)(h:∀Rn,Good W own φ s₀ σ' Rm Rn->mB W c ρ Rm σ' Rn->nF W s₀.heap .none e Rn.heap->Q Rn):aM W.M A (gD (.ref e) c.env) (λZ Rn=>aM W.M A (lL (.ref e) none) (λZ Rr=>Q Rr) E Rn) E s:=by
 refine sf H.frs λZ RV Z=>?_;obtain ⟨L,hL,_⟩:=RV;rw[hL] at ex;refine xT ar.frames H.frs hL ar.frame (λb hb=>x.evo.fresh hb) ex λh' hop fl=>?_;have g:=x.hop (t:=s.toks) hb hop H.frs.at;have H₁:=H.hop (t:=s.toks) hop hb g.inv;refine pN (env:=c.env) (env':=c.env) (F:=nT (c.env₀::c.out)) fl λSp Ta Up=>?_;have g':=g.hop (t:=s.toks) hb Ta H₁.frs.at;exact h _ g' (H₁.hop (t:=s.toks) Ta hb g'.inv) Up
theorem mq.fin{r:R mc (Fl×mc)}{f:Fl×mc->St->R mc (Fl×mc)}{g:mc->St->R mc (Fl×mc)}{Q₁:fQ->af->Prop}(h:mq W c own φ s (r.fin f g) Q E)(hk:∀p σ' Rm fl s',Good W own φ s σ' Rm s'->rC W Rm s'.heap p.1 fl->mB W c p.2 Rm σ' s'->mq W c own φ s (f p σ') Q E->Q₁ fl s')(he:∀ρ' σ' Rm e s',Good W own φ s σ' Rm s'->nR W s.heap c.env₀.frame e s'.heap->mB W c ρ' Rm σ' s'->mq W c own φ s (g ρ' σ') Q E->Sn (.ref e) s'):mq W c own φ s r Q₁ Sn:=by
 cases r with
 |ok p σ'=>exact λRm fl s' g rf H=>hk p σ' Rm fl s' g rf H h
 |exc ρ' σ'=>exact λRm e s' g x H=>he ρ' σ' Rm e s' g x H h
 |bad=>exact h
theorem mq.next{r:R mc (Fl×mc)}{k:mc->St->R mc (Fl×mc)}{Q₁:fQ->af->Prop}(h:mq W c own φ₀ s₀ (qX r k) Q E)(WS:Good W own φ₀ s₀ σ φ s)(hk:∀ρ' σ' Rm s',Good W own φ₀ s₀ σ' Rm s'->Good W own φ s σ' Rm s'->mB W c ρ' Rm σ' s'->mq W c own φ₀ s₀ (k ρ' σ') Q E->Q₁ .next s'):mq W c own φ s r Q₁ Sn:=by
 cases r with
 |ok p σ'=>
  obtain ⟨fl,ρ'⟩:=p
  cases fl with
  |next=>exact λRm fl s' g rf H=>(show fl=.next from rf)▸hk ρ' σ' Rm s' (WS.trans g) g H h
  |ret v=>exact h.elim
 |exc ρ' σ'=>exact h.elim
 |bad=>exact h.elim
theorem rC.good{fl:Fl}{f:fQ}(r:rC W φ s.heap fl f)(H:mB W c ρ φ σ s)(g:Good W (ownOf c.env) φ s σ' Rm s'):rC W Rm s'.heap fl f:=by
 cases fl with
 |next=>exact r
 |ret v=>refine l8 r λw e Xz=>?_;exact⟨w,e,Xz.evo g.evo (own_apart H) g.grows⟩
theorem rC.two{fl:Fl}{f:fQ}(r:rC W φ h fl f):f=.next\/∃v,f=.ret v:=by
 cases fl with
 |next=>exact .inl r
 |ret v=>refine l8 r λw e Z=>?_;exact .inr ⟨w,e⟩
theorem JT{b f:MS}{SX:Stmt}{fs:List Stmt}(ar:n0 A c q d)(x:q=false->qd P W c q A CC b body)(y:q=false->qd P W c q A CC f (SX::fs))(z:∀e,qd P W c true (A.mark (some e)) CC f (SX::fs)):n9 P W c q A CC (.tryf b f) (.Try body [] [] (SX::fs) pos):=by
 intro ρ φ σ s Q E H h;have h:=mq.gd h;have hq:=h.1;have hb:=H.inv.base;refine wpAny_Try_finally (x hq H (mq.fin h.2 (λp Rx Ru T6 Rn g₁ rf H₁ h=>?_) λRs Rx Ru e Rn g₁ TN H₁ h=>?_))
 .have plain:aM W.M A (execs (SX::fs) c.env) (λg s'=>match g with | .next=>Q T6 s' | g=>Q g s') (gB W.M A c.env (gU W.M A c.env E)) Rn:=
   y hq H₁ (mq.next h g₁ λRS RK RE Rr gg RH Rw h=>h RE T6 Rr gg (rf.good H₁ RH) Rw)
  rcases rf.two with e | ⟨v,e⟩
  .rw[e] at plain ⊢;exact eh plain
  .rw[e] at plain ⊢;exact plain
 .refine sf H₁.frs λZ RV Z=>?_;obtain ⟨L,hL,_⟩:=RV;refine xT ar.frames H₁.frs hL ar.frame (λb hb=>g₁.evo.fresh hb) (hL▸TN) λh' hop fl=>?_;have RH:=g₁.hop (t:=Rn.toks) hb hop H₁.frs.at;have Rw:=H₁.hop (t:=Rn.toks) hop hb RH.inv;refine⟨wt e,zi ar RH Rw (hL▸fl.held) hb λRG RD RU SP=>?_⟩;refine z (.ref e) RU (mq.next h RD λW3 S1 SC R9 gg Sb Ss h=>?_);refine zk (F:=nT (c.env₀::c.out)) (SP.good RU Sb) λRR Tx Un=>?_;have TL:=gg.hop (t:=R9.toks) hb Tx Ss.frs.at;refine h SC e _ TL ?_ (Ss.hop (t:=R9.toks) Tx hb TL.inv);rw[ar.frame,hL] at Un;rw[hL];exact Un.held
structure xX where
 nm:a9
 q:a9
 N:al
 bs:List ae
 bm:List ae
 hdct:Bool
 sn:List a9
 sub:List ae
 ab:Bool
 col:Option Bool
 dd:Option al
 k0:Option ae
 k1:Option ae
 k2:Option ae
 k3:Option ae
 k5:Option ae
noncomputable abbrev xX.obj(p:xX)(C:al)(newId:String):fq:=gf p.nm p.q C p.N p.bs p.bm p.hdct p.sn p.sub p.ab p.col p.dd p.k0 p.k1 p.k2 p.k3 p.k5 newId
structure Kq(W:Wd):Prop where
 cls:∃p newId,W.base.get? W.exc=some (xX.obj p W.exc newId)/\p.bm.contains (.type "BaseException")=true
theorem JU(gl:oS G W mg mb)(kf:Kq W){b g:MS}{SX:Stmt}{fs:List Stmt}{p p':cV}(ar:n0 A c q d)(hc:nv c.ck "KindFault" = true)(x:q=false->qd P W c q A CC b body)(z:∀e,qd P W c true (A.mark (some e)) CC g (SX::fs)):n9 P W c q A CC (.tryx b g) (.Try body [.ExceptHandler (some (.Name "KindFault" p)) none (SX::fs) p'] [] [] pos):=by
 intro ρ φ σ s Q E H h;have h:=mq.gd h;have hb:=H.inv.base;refine wpAny_Try_except (x h.1 H (mq.fin h.2 (λp Rx Ru T6 Rn g₁ rf H₁ h=>?_) λRs Rx Ru e Rn g₁ TN H₁ h=>?_))
 .have hq:=h Ru T6 Rn g₁ rf H₁
  rcases rf.two with e | ⟨v,e⟩
  .rw[e] at hq ⊢;exact eh hq
  .rw[e] at hq ⊢;exact hq
 .refine zi ar g₁ H₁ TN hb λRr RH Rw Uo=>?_;refine wpAny_handleBy_cons (codeAny_handlers_test ?_) (wt e);refine wJ (M:=W.M) (A:=A.mark (some (.ref e))) gl hc Rw ?_;refine mF (id Uo) λUM RB=>?_;refine mJ kf.cls λXA newId hC TJ=>?_;refine wpAny_excMatches_sub_self (Rw.inv.base _ _ hC) RB.he RB.hc TJ ?_;refine codeAny_handlers_suite (pN (env:=c.env) (env':=c.env) (F:=nT (c.env₀::c.out)) Uo λRT Tz SP=>?_);have RD:=RH.hop (t:=Rr.toks) hb Tz Rw.frs.at;exact z (.ref e) (Rw.hop (t:=Rr.toks) Tz hb RD.inv) (mq.fin (mq.step RD h) (λp S1 SC WT R9 Sb U5 Ss h=>h SC WT R9 Sb U5 Ss) λZ Z Z Z Z Z Z Z h=>h.elim)
end
section
open PySem.Builtin PySem.Builtin.ObjectAttr
section
variable {g:Array jM}{d:Drawn}{t:Nat}{os:kR}
variable {nm q:a9}{C N:al}{bs bm R8:List ae}{hdct:Bool}{sn:List a9}{sub:List ae}{ab:Bool}{col:Option Bool}{dd:Option al}{k0 k1 k2 k3 k5:Option ae}{B newId SV:String}
theorem Q7{M:gQ}{Q:α->af->Prop}{s:af}{c:Prop}[Decidable c]{a b:jV α}(h:¬c)(k:aM M A b Q E s):aM M A (if c then a else b) Q E s:=(if_neg h).symm▸k
theorem w9{M:gQ}(F:fA B newId SV R8)(hB:bm.contains (.type B)=true){Q:Unit->af->Prop}(hC:h.get? C=some (gf nm q C N bs bm hdct sn sub ab col dd k0 k1 k2 k3 k5 newId))(hq:Q () ⟨h,g,d,t,os⟩):aM M A (ke newId ⟨.ref C::rest,[]⟩) Q E ⟨h,g,d,t,os⟩:=by
 have hcont:(cI C::bm).contains (.type B)=true:=by rw[bS,hB,dX]
 have hstar:=F.noStar;unfold ke;rw[F.newKind,F.newSplit];dsimp only
 repeat (first | refine cG hC ?_ | (refine dj hC ?_;rw[hcont]) | refine wpAny_staticBase_exc hC ?_ | refine kn hC ?_ | with_reducible refine Q7 (by simp only[bne_self_eq_false,lq,gE,not_false_eq_true]) ?_ | wp_step)
 rw[F.newRow]
 repeat wp_step
 exact hq
theorem yw(F:fA B newId SV R8)(hB:bm.contains (.type B)=true)(hA:bm.contains (.type "AttributeError")=false)(hN:bm.contains (.type "NameError")=false){R:dP->af->Prop}(hC:h.get? C=some (gf nm q C N bs bm hdct sn sub ab col dd k0 k1 k2 k3 k5 newId))(hq:R (.ok (.ret (.ref (h.objs.size+1)))) ⟨(h.push {cls:=.type "tuple",data:=.seq rest.toArray}).push
   {cls:=.ref C,data:=.fields #[.ref h.objs.size,.none,.none,.none,.bool false,.none]},g,d,t,os⟩)(Ug:rest.length<=bM):
  fH (b8 prog w) A (.builtin newId ⟨.ref C::rest,[]⟩) R ⟨h,g,d,t,os⟩:=by
 have hends:=F.ends
 have hcB:(cI C::bm).contains (.type B)=true:=by rw[bS,hB,dX]
 have hcA:(cI C::bm).contains (.type "AttributeError")=false:=by rw[bS,hA];rfl
 have hcN:(cI C::bm).contains (.type "NameError")=false:=by rw[bS,hN];rfl
 refine codeAny_builtinAt F.entry ?_;unfold fY.«BaseException.__new__»;refine iW ?_;show k7 _ _ _ (stack >>= _) _ _ _;refine iW (PySem.wpAt_stack λp below=>fg ?_)
 wp_walk
 refine fg ?_;rw[F.owner]
 repeat (first | with_reducible refine wpAny_madeHere_exc F.canon hC ?_ | with_reducible refine cG hC ?_ | (with_reducible refine dj hC ?_;first | rw[hcB] | rw[hcA] | rw[hcN]) | wp_step)
 show R _ _;rw[ct];exact hq
theorem GA(X:K.In h)(F:fA B newId SV R8)(hB:bm.contains (.type B)=true)(hA:bm.contains (.type "AttributeError")=false)(hN:bm.contains (.type "NameError")=false){fI:al}(hC:h.get? C=some (gf nm q C N bs bm hdct sn sub ab col dd k0 k1 k2 k3 k5 newId))(hi:dQ K (.ref C) "__init__" = some (some (.ref fI)))(hf:jH K (.ref fI)=some (.type "function"))(Ug:rest.length<=bM)(hq:∀h' e,k6 h h' e (.ref C) rest->
   aM (b8 prog w) (A.under (.builtin "type.__call__" ⟨.ref C::rest,[]⟩)) (call (.ref fI) (.ref e::rest)) (λr s'=>r=.none/\Q (.ref e) s') E ⟨h',g,d,t,os⟩):
  aM (b8 prog w) A (call (.ref C) rest) Q E ⟨h,g,d,t,os⟩:=by
 have f1:=tc_lookup;have f2:=tc_bind (.ref C);have hT:(⟨h,g,d,t,os⟩:af).TypeIs (.ref C) "type" := ⟨_,hC,rfl⟩;refine fX (codeAny_of_tree ?_);show aM _ _ (callAny (.ref C) _) _ _ _
 repeat (any_goals (first | assumption | with_reducible refine cG hC ?_ | wp_step))
 refine⟨rfl,?_⟩;refine codeAny_call_builtin_at (gG _ (by decide +kernel)) entry_typeCall (wpAny_check_type_call_sub hC ?_);unfold fY.«type.__call__»
 repeat (first | with_reducible refine cG hC ?_ | with_reducible refine kn hC ?_ | wp_step)
 refine codeAny_call_builtin_code (gG _ F.quiet) (w9 F hB hC ?_);refine yw F hB hA hN hC ?_ Ug;show aM _ _ _ _ _ _
 have up:∀b o,h.get? b=some o->((h.push {cls:=.type "tuple",data:=.seq rest.toArray}).push
   {cls:=.ref C,data:=.fields #[.ref h.objs.size,.none,.none,.none,.bool false,.none]}).get? b=some o:=λb o e=>av _ (av _ e)
 have hC₁:=up _ _ hC
 have hget:((h.push {cls:=.type "tuple",data:=.seq rest.toArray}).push
   {cls:=.ref C,data:=.fields #[.ref h.objs.size,.none,.none,.none,.bool false,.none]}).get? (h.objs.size+1)=some
   {cls:=.ref C,data:=.fields #[.ref h.objs.size,.none,.none,.none,.bool false,.none]}:=by heap_get
 have hcC:(cI C::bm).contains (.ref C)=true:=by simp
 unfold iP
 repeat (first | with_reducible refine cG hget ?_ | (with_reducible refine dj hC₁ ?_;rw[hcC]) | wp_step)
 have m:k6 h _ (h.objs.size+1) (.ref C) rest:=⟨up,eM (dU _),h.objs.size,hget,eM (aN _),av _ (jN rfl rfl)⟩
 have I:InstAt ((h.push {cls:=.type "tuple",data:=.seq rest.toArray}).push
   {cls:=.ref C,data:=.fields #[.ref h.objs.size,.none,.none,.none,.bool false,.none]}) (h.objs.size+1) _ C none:=⟨hget,rfl,rfl,trivial⟩
 refine dj hC₁ ?_;rw[hcC];refine ai (bn (special_fn (s:=⟨_,g,d,t,os⟩) (dw.In.keeps X up) I hi hf (b0 (hq _ (h.objs.size+1) m) (λr s' hr=>?_) λZ Z x=>x)));refine nt hr λVZ hQ=>?_;subst VZ
 wp_walk
 exact hQ
end
section
variable {g:Array jM}{d:Drawn}{t:Nat}{os:kR}{C x:al}{cd:j1}{mA:a9->Option ae}{name:a9}{v:ae}
theorem yx{M:gQ}{dx:al}{m:a9->Option ae}{ns:List a9}{t0:Tok}{s:af}{Q:PySem.Fin->af->Prop}(Su:s.heap.Ns1 dx m)(hw:Within m ns)(hsz:ns.length<=1000)(hq:∀h' tk,h'.Ns1 dx (λy=>if y=name then some v else m y)->bX dx s.heap h'->Q (.done (.ret .none)) {s with heap:=h',toks:=tk}):aM M A (storeInDict dx (.str name t0) name v) Q E s:=by
 unfold storeInDict newKeyGuard;refine ai (aO (ai (wpAny_nsSet1 Su λh' Sy RQ=>?_)));obtain ⟨oD,esD,epD,hoD,hdD,hcD⟩:=Sy.count (Within.cons name v hw);refine ai (km hoD (by rw[hdD];exact kj (ac hcD (ac (bL hsz) (by rw[dq];decide)))) ?_);exact aO (hq h' _ Sy RQ)
theorem Lh{d:Option al}(h:o.isFreed=false):({cls:=o.cls,dict:=d,data:=o.data,slots:=o.slots}:fq).isFreed=false:=by
 obtain ⟨_,_,c,_⟩:=o
 cases c<;>first | rfl | exact h
theorem Rj{M:gQ}{Q:β->af->Prop}{s:af}{d:kD}{a b:jV β}(h:∀c,d≠.cls c)(k:aM M A b Q E s):aM M A (match (generalizing:=false) d with
  |.cls _=>a
  |_=>b) Q E s:=
 kD.casesOn (motive:=λd=>(∀c,d≠.cls c)->aM M A (match (generalizing:=false) d with
  |.cls _=>a
  |_=>b) Q E s) d (λZ=>k) (λZ Z=>k) (λZ Z Z=>k) (λZ Z Z=>k) (λZ Z Z Z=>k) (λZ Z Z=>k) (λZ Z=>k) (λZ Z=>k) (λc h=>absurd rfl (h c)) (λZ Z=>k) (λZ=>k) h
set_option tactic.hygienic true in
theorem Jo{Q:Unit->af->Prop}{ns:List a9}(X:K.In h)(hs:dQ K (.ref C) "__setattr__" = some (some (.builtin "object.__setattr__")))(hcl:lV K C=some cd)(TH:cd.hasDict=true)(Tw:∀self,lh self "__setattr__" cd.mro=pure ())(Ww:iX K C (.type "object")=some true)(ht:fJ K C name=some none)(I:h.Inst x C mA)(hq:∀h' UP,h'.Inst x C (λy=>if y=name then some v else mA y)->
   (∀b o,b≠x->(∀Sh dx,h.get? x=some Sh->Sh.dict=some dx->b≠dx)->h.get? b=some o->h'.get? b=some o)->
   (∀Sh,h.get? x=some Sh->∃Sr,h'.get? x=some Sr/\Sr.cls=Sh.cls/\Sr.data=Sh.data/\∀dx,Sr.dict=some dx->Sh.dict=some dx\/h.get? dx=none)->Q () ⟨h',g,d,UP,os⟩)(hw:Within mA ns)(hsz:ns.length<=1000):
  aM (b8 prog w) A (setAttr (.ref x) name v) Q E ⟨h,g,d,t,os⟩:=by
 refine qv I λo hx hc hnc hd=>?_
 have hno:notCls o=true:=by
  unfold notCls
  cases e:o.data with
  |cls c=>exact absurd e (hnc c)
  |_=>rfl
 have I':∃od,InstAt h x o C od:=by
  rcases hd with ⟨T4,_⟩ | ⟨dx,hdx,hne,Su⟩
  .exact⟨none,hx,hc,hno,by rw[T4];trivial⟩
  .refine nU Su λod es ep e1 r=>?_;exact⟨some od,hx,hc,hno,by rw[hdx];exact e1⟩
 refine mF I' λod I'=>?_;have SF:=PySem.F.store_object;refine l8 (Option.bind_eq_some_iff.mp ht) λattr ha hr=>?_;have hm:kt (b8 prog w) h (mroOf (.ref C)) cd.mro:=(ii X hcl).andThen .now
 have L3:kt (b8 prog w) h (storeTaker? attr) none:=by
  cases attr with
  |none=>exact .now
  |some a=>
   refine l8 (Option.map_eq_some_iff.mp hr) λb hb e=>?_
   cases b with
   |true=>cases e
   |false=>exact (looks_takesIn X hb).andThen .now
 have sub:kt (b8 prog w) h (iP (.ref x) (.type "object")) true:=I'.type.andThen (kz X Ww);refine set_plain (s:=⟨h,g,d,t,os⟩) X I' hs ?_;refine codeAny_call_builtin SF.slot.plain SF.entry (@check_slot (b8 prog w) _ _ ⟨h,g,d,t+1,os⟩ "object.__setattr__" "object" "__setattr__" (.ref x) [.str name t,v] [] _ SF.kind SF.split sub (SF.args (.ref x) (.str name t) v) ?_);rw[osa_eq,refuse_eq];refine ai (ai (I'.type.here (s:=⟨h,g,d,t+1,os⟩) (ai (hm.here (s:=⟨h,g,d,t+1,os⟩) ?_))));rw[Tw];refine aO (ai (I'.type.here (s:=⟨h,g,d,t+1,os⟩) (ai ((looks_findIn X ha).here (s:=⟨h,g,d,t+1,os⟩) (ai (L3.here (s:=⟨h,g,d,t+1,os⟩) ?_))))));show aM _ _ (storeInOwnDict (.ref x) (.ref C) (.str name t) name v attr.isSome) _ _ _;refine ai (aO (ai (ai (jl hx ?_))));rw[hc];refine ai ((ii X hcl).here (s:=⟨h,g,d,t+1,os⟩) ?_);rw[TH]
 rcases hd with ⟨T4,hmA⟩ | ⟨dx,hdx,hne,Su⟩
 .rw[T4,if_neg (show ¬(!true)=true from bR)];dsimp only;rw[if_neg (by simp [typeHasDict])];refine Rj hnc ?_;have hx₁:(h.push {cls:=.type "dict",data:=.dict #[]}).get? x=some o:=av _ hx;have Wf:x≠h.objs.size:=aP (ch hx);refine ai (wpAny_alloc' (ai (wpAny_update' hx₁ (aO ?_))));have X4:((h.push {cls:=.type "dict",data:=.dict #[]}).update x λo=>{cls:=o.cls,dict:=some h.objs.size,data:=o.data,slots:=o.slots}).get? h.objs.size
    = some {cls:=.type "dict",data:=.dict #[]}:=
   (jt _ _ _ _ Wf.symm).trans (jN rfl rfl)
  have hnd:((h.push {cls:=.type "dict",data:=.dict #[]}).update x λo=>{cls:=o.cls,dict:=some h.objs.size,data:=o.data,slots:=o.slots}).Ns h.objs.size (λZ=>none):=
   ⟨_,#[],_,X4,rfl,λe he=>absurd he (by simp),λZ=>rfl⟩
  refine yx (s:=⟨_,g,d,t+1,os⟩) (aQ.Ns1.of_empty hnd) Within.nil (ce _) λh' UP Sy RQ=>?_
  have W6:h'.get? x=some {cls:=o.cls,dict:=some h.objs.size,data:=o.data,slots:=o.slots}:=by
   exact (RQ.2 x Wf).trans (bP _ hx₁ (Lh (aQ.get?_some_iff.mp hx).2))
  refine (hq h' _ ⟨{cls:=o.cls,dict:=some h.objs.size,data:=o.data,slots:=o.slots},W6,hc,hnc,.inr ⟨h.objs.size,rfl,Wf.symm,?_⟩⟩ (λb ob UW Z hb=>?_)
   (λSh Ro=>⟨_,W6,(congrArg fq.cls (am (hx.symm.trans Ro)):o.cls=_),(congrArg fq.data (am (hx.symm.trans Ro)):o.data=_),λdx e=>.inr (am e▸mG h)⟩))
  .refine mR Sy λo' es ep e1 e2 e3 eu e4=>?_;exact⟨o',es,ep,e1,e2,e3,eu,λy=>by rw[e4 y];by_cases hy:y=name<;>simp [hy,hmA]⟩
  .exact (RQ.2 b (aP (ch hb))).trans ((jt _ _ _ _ UW).trans (av _ hb))
 .rw[hdx];refine aO ?_;refine yx (s:=⟨_,g,d,t+1,os⟩) Su hw hsz λh' UP Sy RQ=>?_
  refine (hq h' _ ⟨o,(RQ.2 x hne.symm).trans hx,hc,hnc,.inr ⟨dx,hdx,hne,Sy⟩⟩ (λb ob Z Yc hb=>?_)
   (λSh Ro=>⟨Sh,(RQ.2 x hne.symm).trans Ro,rfl,rfl,λZ e=>.inl e⟩))
  exact (RQ.2 b (Yc o dx hx hdx)).trans hb
end
end
section
open PySem.Builtin PySem.Builtin.ObjectAttr
theorem Kg(x C:al):∃f:jV Unit,fY.«wrapper_descriptor.__get__» ⟨[.builtin "Exception.__init__",.ref x,.ref C],[]⟩ =
  ((iP (.ref x) (.type "Exception") >>= λb=>if (!b)=true then f else pure ()) >>= λZ=>(lJ "method-wrapper" [.builtin "Exception.__init__",.ref x] >>= λv=>ret v)):=by
 refine⟨?f,?h⟩
 case h=>with_unfolding_all exact rfl
theorem BF:Slot "wrapper_descriptor" "__get__" "wrapper_descriptor.__get__" := .of (owner:="wrapper_descriptor") (n:="__get__") (by rw[typeLookup_type,builtinLookup_eq_fast];kernel_rfl) (by decide +kernel) (by decide +kernel) (by decide +kernel)
 (by first | exact .inl (by decide +kernel) | exact .inr (by decide +kernel)) (by rw[isSubtype_type];kernel_rfl)
theorem FN:entryFor table "wrapper_descriptor.__get__" = some fY.«wrapper_descriptor.__get__» := entryFor_of_tree (by kernel_rfl)
theorem HA(a b c:ae):argsOk "wrapper_descriptor.__get__" ⟨[a,b,c],[]⟩:=by unfold argsOk;kernel_rfl
theorem BG:typeOf (.builtin "Exception.__init__")=pure (.type "wrapper_descriptor"):=by kernel_rfl
theorem CW{s:af}:s.TypeIs (.builtin "Exception.__init__") "wrapper_descriptor" := by first | exact BG | (show _=_;kernel_rfl) | (simp [af.TypeIs];done)
section
variable {g:Array jM}{d:Drawn}{t:Nat}{os:kR}
theorem yz{so x C:al}{l₀ l:List ae}{name:a9}{tk:Tok}{Q:PySem.Fin->af->Prop}(hso:h.get? so=some {cls:=.type "super",dict:=none,data:=.fields #[.ref D,.ref x,.ref C],slots:=#[]})(hno:kt (b8 prog w) h (kg (.ref C)) none)(hC:kt (b8 prog w) h (mroOf (.ref C)) l₀)(hl:(l₀.dropWhile (· != .ref D)).drop 1=l)(X:K.In h)(hf:alongIn K name l=some (some (.builtin "Exception.__init__")))(Wh:x≠C)(hn:(name==("__class__" : a9))=false)(hi:kt (b8 prog w) h (iP (.ref x) (.type "Exception")) true)(hq:Q (.done (.ret (.ref h.objs.size))) ⟨h.push {cls:=.type "method-wrapper",data:=.fields #[.builtin "Exception.__init__",.ref x]},g,d,t,os⟩):
  aM (b8 prog w) A (fY.«super.__getattribute__» ⟨[.ref so,.str name tk],[]⟩) Q E ⟨h,g,d,t,os⟩:=by
 have hlk:=BF.lookup
 have hne:(cI x==cI C)=false:=by simp [Wh]
 have hdt:({cls:=.type "super",dict:=none,data:=.fields #[.ref D,.ref x,.ref C],slots:=#[]}:fq).data=.fields #[.ref D,.ref x,.ref C]:=rfl;have f0:(#[.ref D,.ref x,.ref C]:Array ae)[0]?=some (.ref D):=rfl;have f1:(#[.ref D,.ref x,.ref C]:Array ae)[1]?=some (.ref x):=rfl;have f2:(#[.ref D,.ref x,.ref C]:Array ae)[2]?=some (.ref C):=rfl;refine mF (Kg x C) λff XH=>?_;unfold fY.«super.__getattribute__»
 repeat (first
  |(with_reducible refine bY hso hdt f0 ?_) | (with_reducible refine bY hso hdt f1 ?_) | (with_reducible refine bY hso hdt f2 ?_)
  |(with_reducible refine ks_wpAny_notOpaque hno ?_)
  |(with_reducible refine kt.at hC ?_;rw[hl])
  |(refine ks_forIn_along X (λZ Z=>rfl) rfl ?_ hf)
  |(rw[BG])
  |(rw[hne,if_neg bR])
  |(with_reducible refine c7 BF CW FN ?_ (HA _ _ _);rw[XH])
  |(with_reducible refine kt.at hi ?_)
  |(with_reducible refine⟨_,rfl,?_⟩)
  |(with_reducible refine Q7 ?hz ?_;(case hz=>simp only[hn,hne,dm,gE,lq,not_false_eq_true]))
  |wp_step
  |dsimp only)
 all_goals exact hq
theorem xa{so x C:al}{l₀ l:List ae}{name:a9}{Q:ae×List ae->af->Prop}(hso:h.get? so=some {cls:=.type "super",dict:=none,data:=.fields #[.ref D,.ref x,.ref C],slots:=#[]})(hno:kt (b8 prog w) h (kg (.ref C)) none)(hC:kt (b8 prog w) h (mroOf (.ref C)) l₀)(hl:(l₀.dropWhile (· != .ref D)).drop 1=l)(X:K.In h)(hf:alongIn K name l=some (some (.builtin "Exception.__init__")))(Wh:x≠C)(hn:(name==("__class__" : a9))=false)(hi:kt (b8 prog w) h (iP (.ref x) (.type "Exception")) true)(hq:Q (.ref h.objs.size,[]) ⟨h.push {cls:=.type "method-wrapper",data:=.fields #[.builtin "Exception.__init__",.ref x]},g,d,t+1,os⟩):
  aM (b8 prog w) A (eV (.ref so) name pl) Q E ⟨h,g,d,t,os⟩:=by
 have hlk:=gH.lookup;have hcan:=F.ks_canon_super_ga;have hT:∀t',(⟨h,g,d,t',os⟩:af).TypeIs (.ref so) "super" := λZ=>⟨_,hso,rfl⟩;unfold eV;refine ai (wpAny_specialOf (hT _) hlk ?_);show aM _ _ (if (Manifest.canonical "super.__getattribute__" != "object.__getattribute__")=true then _ else _) _ _ _;rw[if_pos hcan];unfold getAttr getAttrBy;refine ai (ai (wpAny_mkText (bn (ai (wpAny_typeOf (hT _) (ai (gj hlk ?_)))))));show aM _ _ (getAttrByItsOwn (.ref so) (.str name t) (.type "super") (.builtin "super.__getattribute__") true false) _ _ _;unfold getAttrByItsOwn hookBefore callGetattribute boundAndCalled;refine ai (gj (show (if onTheHeap (.type "super") then typeLookup (.type "super") "__getattr__" else pure none)=pure none from rfl) ?_);refine ai (ix (bn ?_));show aM _ _ (bindSpecial (.builtin "super.__getattribute__") (.ref so) >>= _) _ _ _;refine ai (gj (gH.bind _) ?_);refine b0 (Q:=λv s'=>v=.ref h.objs.size/\s'=⟨h.push {cls:=.type "method-wrapper",data:=.fields #[.builtin "Exception.__init__",.ref x]},g,d,t+1,os⟩) (E:=λZ Z=>False)
  (c7 gH (hT _) F.ks_entry_super_ga (yz hso hno hC hl X hf Wh hn hi ⟨_,rfl,rfl,rfl⟩) (F.ks_gaArgs_super _ _)) (λv s' hv=>?_) λZ Z z=>z.elim
 refine nt hv λVZ RA=>?_;subst VZ;subst RA;exact aO (aO hq)
end
end
section
open PySem.Builtin PySem.Builtin.ObjectAttr
noncomputable abbrev Bk(x:al):fq:={cls:=.type "method-wrapper",dict:=none,data:=.fields #[.builtin "Exception.__init__",.ref x],slots:=#[]}
section
variable {g:Array jM}{d:Drawn}{t:Nat}{os:kR}{newId:String}
variable {nm qn:a9}{C N:al}{bs bm R8:List ae}{hdct:Bool}{sn:List a9}{sub:List ae}{ab:Bool}{col:Option Bool}{dd:Option al}{k0 k1 k2 k3 k5:Option ae}{Tn:String}
theorem vW(F:fA "Exception" newId "Exception.__init__" R8){M:gQ}{e:al}{oe:fq}{Q:Unit->af->Prop}(hB:bm.contains (.type "Exception")=true)(hC:h.get? C=some (gf nm qn C N bs bm hdct sn sub ab col dd k0 k1 k2 k3 k5 Tn))(he:h.get? e=some oe)(UG:oe.cls=.ref C)(hq:Q () ⟨h,g,d,t,os⟩):
  aM M A (ji "Exception.__init__" ⟨.ref e::rest,[]⟩) Q E ⟨h,g,d,t,os⟩:=by
 have hcB:(cI C::bm).contains (.type "Exception")=true:=by rw[bS,hB,dX]
 have hshort:=F.noStar;delta ji;rw[F.initKind,F.initRow];dsimp only
 repeat (first
 |(with_reducible refine cG he ?_;rw[UG]) | with_reducible refine cG hC ?_ | (with_reducible refine dj hC ?_;rw[hcB]) | wp_step)
 refine iy ?_
 rw[show ∀(a b:String) (n:Nat),Bind.check ⟨.positional, "*", "Exception",.self,[⟨"args",.varPos,false⟩]⟩ a b n (List.map (λx=>x.fst) ({pos:=cI e::rest}:Args).kw)=pure () from
  λa b n=>check_star_args _ _ _ _ _ _]
 exact aO hq
theorem Gz(F:fA "Exception" newId "Exception.__init__" R8)(hB:bm.contains (.type "Exception")=true)(hC:h.get? C=some (gf nm qn C N bs bm hdct sn sub ab col dd k0 k1 k2 k3 k5 Tn)){q x:al}{ox:fq}{tt:al}{v:ae}(hq:h.get? q=some (Bk x))(hx:h.get? x=some ox)(UG:ox.cls=.ref C)(hd:ox.data=.fields vs)(h0:vs[0]?=some (.ref tt))(hQ:∀h' o' vs' a0,(∀b o,b≠x->h.get? b=some o->h'.get? b=some o)->h'.get? x=some o'->o'.cls=ox.cls->o'.dict=ox.dict->o'.data=.fields vs'->vs'[0]?=some a0->(∀i,i≠0->vs'[i]?=vs[i]?)->Q .none ⟨h',g,d,t,os⟩):aM (b8 prog w) A (call (.ref q) [v]) Q E ⟨h,g,d,t,os⟩:=by
 refine fX (codeAny_of_tree ?_);show aM _ _ (callAny (.ref q) _) _ _ _;unfold callAny;refine ai (lj hq ?_);show aM _ _ (do ji "Exception.__init__" ⟨[.ref x,v],[]⟩;again (.builtin "Exception.__init__" ⟨[.ref x,v],[]⟩)) _ _ _;refine ai (vW F hB hC hx UG (aO ⟨gG _ (by decide +kernel),codeAny_builtin F.initEntry ?_⟩));have hsz:0 < vs.size:=(cP.mp h0).1;have hx₁:(h.push {cls:=.type "tuple",data:=.seq #[v]}).get? x=some ox:=av _ hx
 have goal:∀h',h'=(h.push {cls:=.type "tuple",data:=.seq #[v]}).update x (lA (·.setIfInBounds 0 (.ref h.objs.size)))->Q .none ⟨h',g,d,t,os⟩:=by
  rintro h' rfl
  refine hQ _ _ _ (.ref h.objs.size) (λb o hb e=>?_) (bP _ hx₁ (cX (cm hd _))) (ie _ _) ?_ (cm hd _) (by simp [hsz]) (λi hi=>by rw[fN (bJ hi)])
  .exact (cg _ _ (bJ hb)).trans (av _ e)
  .obtain ⟨oc,od,V7,osl⟩:=ox;cases V7<;>rfl
 unfold fY.«BaseException.__init__»
 repeat (first | with_reducible refine bY hx₁ hd h0 ?_ | with_reducible refine fM hx₁ hd hsz ?_ | wp_step)
 exact goal _ rfl
end
end
section
open PySem.Builtin PySem.Builtin.ObjectAttr
structure Ko where
 o:fq
 fd:fk
 p1:cV
 p2:cV
 p3:cV
 p4:cV
 p5:cV
 p6:cV
 p7:cV
 p8:cV
 p9:cV
 p10:cV
 cc:al
 cda:al
 oc:fq
 vs:Array ae
 file:a9
 tf:Tok
 ar:Arg
structure IG(prog:cw)(base:aQ)(f D:al)(attr:a9)(params:List a9)(d:Ko):Prop where
 hf:base.get? f=some d.o
 hfd:d.o.data=.func d.fd
 hfc:d.o.cls=.type "function"
 body:d.fd.body=.stmts [.Expr (.Call (.Attribute (.Call (.Name "super" d.p1) [] [] d.p2) "__init__" d.p3) [.Name "what" d.p4] [] d.p5) d.p6,.Assign [.Attribute (.Name "self" d.p7) attr d.p8] (.Name attr d.p9) d.p10]
 line:(d.p3.endLine==d.p5.line)=true
 kind:d.fd.scope.kind=.function
 co:d.fd.scope.isCoroutine=false
 gen:d.fd.scope.isGenerator=false
 cell:∀x∈d.fd.scope.names,x.2≠.cell
 pl:∀x∈params,d.fd.scope.names.lookup x=some .local
 ks:d.fd.scope.names.lookup ("super" : a9)=some .globalImplicit
 kc:d.fd.scope.names.lookup ("__class__" : a9)=some .free
 clo:d.fd.closure.lookup ("__class__" : a9)=some d.cc
 hcc:base.IsCell d.cc (some (.ref D))
 gl:d.fd.globals=cO
 bu:d.fd.builtins=d9
 cr:base.CodeRec d.fd.code d.fd.qualname
 code:d.fd.code=.ref d.cda
 hcda:base.get? d.cda=some d.oc
 hoc:d.oc.data=.fields d.vs
 vs2:d.vs[2]?=some (.str d.file d.tf)
 hfile:(prog.main.file==d.file)=true
 har:(d.fd.params.posonlyargs++d.fd.params.args).head?=some d.ar
 hara:d.ar.arg = "self"
 bind:∀Rp:List ae,Rp.length=params.length->bindArgs d.fd ⟨Rp,[]⟩=pure (params.zip Rp)
structure sL(prog:cw)(base:aQ)(f D:al)(attr:a9)(params:List a9):Prop where
 ex:∃d,IG prog base f D attr params d
 nodup:params.Nodup
 self:("self" : a9)∈params
 what:("what" : a9)∈params
 attr:attr∈params
 nodbg:∀x∈params,(x==("__debug__" : a9))=false
 cls:∃oD Xr,base.get? D=some oD/\oD.data=.cls Xr
structure pU(prog:cw)(w:dW)(base:aQ)(K:dw)(C:al)(mg mb:a9->Option ae):Prop where
 kin:K.In base
 nolimit:base.NoLimit
 g:base.Ns cO mg
 b:base.Ns d9 mb
 sup:mg "super" = none/\mb "super" = some (.type "super")
 top:(prog.main.scope.names.lookup ("super" : a9)).isSome=false
 opq:nsIn K cStatics "thirdparty.any" = some none
 cls:∃p,base.get? C=some (xX.obj p C "Exception.__new__")/\p.bm.contains (.type "BaseException")=true/\p.bm.contains (.type "Exception")=true/\p.bm.contains (.type "AttributeError")=false/\p.bm.contains (.type "NameError")=false
 exc:∃R8,fA "Exception" "Exception.__new__" "Exception.__init__" R8
 sa:dQ K (.ref C) "__setattr__" = some (some (.builtin "object.__setattr__"))
 cd:∃cd,lV K C=some cd/\cd.hasDict=true/\∀self,lh self "__setattr__" cd.mro=pure ()
 isObj:iX K C (.type "object")=some true
 isExc:iX K C (.type "Exception")=some true
structure HL(h h':aQ)(x C:al)(o:fq)(vs:Array ae)(a0:ae):Prop where
 at':h'.get? x=some o
 cls:o.cls=.ref C
 data:o.data=.fields vs
 v0:vs[0]?=some a0
 v1:vs[1]?=some .none
 dict:∀dx,o.dict=some dx->h.get? dx=none
structure Made(h h':aQ)(x C:al)(n:Nat):Prop where
 keep:∀b o,b≠x->h.get? b=some o->h'.get? b=some o
 inst:∃mA ns,h'.Inst x C mA/\PySem.Within mA ns/\ns.length<=n
 obj:∃o vs a0,HL h h' x C o vs a0
theorem ye{cc:Code}{s:af}{o:aa}{nm:a9}{args:List aa}(hs:args.all mT=true)(hlen:args.length < 30)(Sf:(apos.endLine==pos.line)=true)(h:k7 (b8 prog w) A cc (ej o nm env (eval o env)) (λov Rn=>aM (b8 prog w) A (eV ov nm (do return (<-jj o env).getD true)) (λp Rr=>aM (b8 prog w) A (fG pos p.1 p.2 (mW args env) []) Q E Rr) E Rn) E s):
  k7 (b8 prog w) A cc (eval (.Call (.Attribute o nm apos) args [] pos) env) Q E s:=by
 rw[arm_eval_Call,pc _ _ hs];refine iW (PySem.wpAt_mono h (λov Rn Rq=>fg ?_) λZ Z e=>e);refine ai (bQ ?_)
 have hform:gV (args.length+([]:List jR).length) (mW args env) (backToKw pos (ku [] env))=true:=by
  unfold gV
  have h1:(mW args env).all (λx=>!x.1)=true:=by
   rw[bh];intro x hx;refine l8 (aW.mp hx) λe Z Rz=>?_;subst Rz;rfl
  have h2:decide (args.length+([]:List jR).length+(if (backToKw pos (ku [] env)).isEmpty=true then 0 else 1) < 30)=true:=by
   rw[decide_eq_true_iff];show args.length+0+(if (true:Bool)=true then 0 else 1) < 30;simp;exact hlen
  rw[h1,h2];rfl
 have hpos:iw true o env apos pos=pure pos:=by unfold iw;simp [Sf]
 unfold methodCall;rw[hform];refine ai (bn ?_);show aM (b8 prog w) A (eV ov nm (do return (<-jj o env).getD true)) _ E Rn;refine b0 Rq (λp Rr RC=>?_) λZ Z e=>e;exact ai (gj hpos RC)
section
variable {g:Array jM}{d:Drawn}{t:Nat}{os:kR}{base:aQ}{C:al}
theorem Made.trans{RC:aQ}{x:al}(m:Made Rq RC x C n)(k:∀b o,h.get? b=some o->Rq.get? b=some o):Made h RC x C n:=by
 refine xo m.obj λo vs a0 y=>?_;refine⟨λb o hb e=>m.keep _ _ hb (k _ _ e),m.inst,o,vs,a0,y.at',y.cls,y.data,y.v0,y.v1,λdx e=>?_⟩
 cases q:h.get? dx with
 |none=>rfl
 |some o'=>exact mr ((y.dict dx e).symm.trans (k _ _ q))
theorem Ef(kf:pU prog w base K C mg mb)(hb:base.StaysIn h){x:al}(hn:n<=900)(Td:base.get? x=none){u:ae}(ht:fJ K C attr=some none)(m:Made h h' x C n){Q:Unit->af->Prop}(hq:∀h₄ Tj,Made h h₄ x C (n+1)->Q () ⟨h₄,g,d,Tj,os⟩):aM (b8 prog w) A (setAttr (.ref x) attr u) Q E ⟨h',g,d,t,os⟩:=by
 refine mI m.inst λmA ns I hw VN=>?_;refine mM kf.cd λcd hcl TH Tw=>?_;refine xo m.obj λo vs a0 y=>?_;have X:K.In h':=λb o e=>m.keep _ _ (λq=>mr (Td.symm.trans (q▸kf.kin b o e))) (hb _ _ (kf.kin b o e));refine Jo X kf.sa hcl TH Tw kf.isObj ht I (λh₄ Tj W2 Wa V6=>hq h₄ Tj ?_) hw (ac VN (ac hn (by decide)));refine qv (V6 o y.at') λV5 e5 c5 d5 YD=>?_;refine⟨λb o' UW e=>Wa _ _ UW (λSh dx e0 ed q=>?_) (m.keep _ _ UW e),⟨_,_,W2,PySem.Within.cons attr u hw,bL VN⟩,V5,vs,a0,e5,c5.trans y.cls,d5.trans y.data,y.v0,y.v1,λdx e=>?_⟩
 .have e0:=am (y.at'.symm.trans e0);exact mr ((y.dict dx (e0▸ed)).symm.trans (q▸e))
 .rcases YD dx e with e | e
  .exact y.dict dx e
  .cases q:h.get? dx with
   |none=>rfl
   |some o'=>
    by_cases hdx:dx=x
    .exact mr (e.symm.trans (hdx▸y.at'))
    .exact mr (e.symm.trans (m.keep _ _ hdx q))
theorem yy(kf:pU prog w base K C mg mb){f:al}(fn:sL prog base f D attr params)(S7:iX K C (.ref D)=some true)(hb:base.StaysIn h)(SG:A.depth < dR){x:al}{v u:ae}(hn:n<=900)(hl:Rp.length=params.length)(Uc:(params.zip Rp).reverse.lookup ("self" : a9)=some (.ref x))(Vf:(params.zip Rp).reverse.lookup ("what" : a9)=some v)(Vu:(params.zip Rp).reverse.lookup attr=some u)(hx:h.get? x=some o)(Td:base.get? x=none)(hc:o.cls=.ref C)(hd:o.data=.fields vs){R:dP->af->Prop}(Wl:∀(A':bc) (Q:ae->af->Prop) (E:ae->af->Prop) (Rq:aQ) (Uv:Nat) (so:al) (pl:jV Bool) (env:eA) (p p4:cV),A'.depth=A.depth+1->(∀b o,h.get? b=some o->Rq.get? b=some o)->
    Rq.get? so=some {cls:=.type "super",dict:=none,data:=.fields #[.ref D,.ref x,.ref C],slots:=#[]}->(∀(E:ae->af->Prop) (Q:ae->af->Prop) (s:af),(∀b o,Rq.get? b=some o->s.heap.get? b=some o)->Q v s->aM (b8 prog w) A' (eval (.Name "what" p4) env) Q E s)->
    (∀RC TU,Made Rq RC x C n->Q .none ⟨RC,g,d,TU,os⟩)->
    aM (b8 prog w) A' (eV (.ref so) "__init__" pl) (λfx Rr=>aM (b8 prog w) A' (fG p fx.1 fx.2 (mW [.Name "what" p4] env) []) Q E Rr) E ⟨Rq,g,d,Uv,os⟩)(ht:fJ K C attr=some none)(hq:∀h' tk,Made h h' x C (n+1)->R (.ok (.ret .none)) ⟨h',g,d,tk,os⟩):fH (b8 prog w) A (.call (.ref f) ⟨Rp,[]⟩) R ⟨h,g,d,t,os⟩:=by
 refine mF fn.ex λi I=>?_;refine mJ fn.cls λoD Xr hD Xk=>?_;have hbs:∀b o,base.get? b=some o->h.get? b=some o:=λb o e=>hb b o e;refine ks_codeAny_call_defAt (s:=⟨h,g,d,t,os⟩) (o:=i.o) (fd:=i.fd) (binds:=params.zip Rp) SG (hbs _ _ I.hf) I.hfd (kf.nolimit.keeps hbs) (I.cr.keeps hbs) I.body (BindsTo.of_eq (I.bind Rp hl)) I.cell (λy hy=>I.pl _ (List.of_mem_zip hy).1) (λRq Su Sv=>?_) I.co I.gen I.kind;dsimp only at Su Sv ⊢;generalize hL:h.objs.size=L at Su
 have hLn:h.get? L=none:=by rw[<-hL];exact mG h
 have hkL:(kT i.fd L f).scope.kind=.function:=I.kind;have b₁:∀b o,base.get? b=some o->Rq.get? b=some o:=λb o e=>Sv _ _ (hbs _ _ e);have name:∀{A':bc} {y:a9} {z:ae} {s:af} {Q:ae->af->Prop} {E:ae->af->Prop},y∈params->(params.zip Rp).reverse.lookup y=some z->(∀o,Rq.get? L=some o->s.heap.get? L=some o)->Q z s->
   aM (b8 prog w) A' (lf (kT i.fd L f) y) Q E s:=λhy hz k hQ=>Su.elim λoL x=>x.elim λes x=>x.elim λep x=>gh hkL (I.pl _ hy) ⟨oL,es,ep,k _ x.1,x.2⟩ hz hQ
 refine ks_wpAt_execs_cons (ks_wpAt_Expr_any (ye rfl (by show 1 < 30;decide) I.line ?_) (se hkL) rfl);refine ks_wpAt_super_base (env:=kT i.fd L f) I.ks I.kc (by decide) rfl (b₁ _ _ I.hf) I.hfd I.har I.code (b₁ _ _ I.hcda) I.hoc I.vs2 I.hfile kf.top ?_;refine ks_loadName_global hkL I.ks ?_;unfold lb;rw[show (kT i.fd L f).globals=cO from I.gl,show (kT i.fd L f).builtins=d9 from I.bu];refine ai (ik (StaysIn.ns b₁ kf.g) ?_);rw[kf.sup.1];refine ai (ik (StaysIn.ns b₁ kf.b) ?_);rw[kf.sup.2];refine aO ⟨rfl,?_⟩;refine gy hkL I.kc I.clo (I.hcc.elim λo' x=>⟨o',b₁ _ _ x.1,x.2⟩) ?_;rw[I.hara];refine name fn.self Uc (λo e=>e) ?_;refine ks_wpAny_isType_cls (b₁ _ _ hD) Xk ⟨rfl,?_⟩;have hx₁:=Sv _ _ hx;refine ks_wpAny_call_super (b₁ _ _ hD) Xk hx₁ hc (λc e=>nomatch hd.symm.trans e) (kz (kf.kin.keeps b₁) S7) λRC hso S6=>?_;have hxL:x≠L:=λe=>mr ((e▸hLn).symm.trans hx);refine Wl _ _ _ _ _ _ _ _ _ _ rfl (λb o e=>S6 _ _ (Sv _ _ e)) hso (λE Q s k hQ=>dH (name fn.what Vf (λo e=>k _ _ (S6 _ _ e)) hQ) (by decide)) λRT Xy m=>?_;refine fg (kl ?_);have kL:∀o,Rq.get? L=some o->RT.get? L=some o:=λo e=>m.keep _ _ (bJ hxL) (S6 _ _ e);refine plainObj_wpAny_Assign_Attribute (dH (name fn.attr Vu kL (dH (name fn.self Uc kL ?_) (by decide))) (fn.nodbg _ fn.attr)) rfl;refine Ef kf hb hn Td ht (m.trans λb o e=>S6 _ _ (Sv _ _ e)) λh₄ Tj md=>eh (hq h₄ Tj md)
theorem uz{M:gQ}{s:af}{f:ae}{e:aa}{Q:Args->af->Prop}(h:aM M A (eval e env) (λv s'=>Q ⟨[v],[]⟩ s') E s):aM M A (evalArgs f true (mW [e] env) []) Q E s:=
 pt (gF (b0 h (λv Rn Rq=>jK Rq) λZ Z e=>e))
theorem pU.notC(kf:pU prog w base K C mg mb){x:al}(Td:base.get? x=none):x≠C:=λe=>by
 refine l8 kf.cls λp hC Z=>?_;exact mr (Td.symm.trans (e▸hC))
theorem pU.along(kf:pU prog w base K C mg mb){name:a9}{r:Option ae}(h:eO K C D name=some r):∃cd,lV K C=some cd/\alongIn K name ((cd.mro.dropWhile (· != .ref D)).drop 1)=some r:=by
 refine l8 kf.cd λcd hcl Z=>?_;unfold eO at h;rw[hcl,cN] at h;exact⟨cd,hcl,h⟩
theorem D7(kf:pU prog w base K C mg mb){f:al}(fn:sL prog base f D attr ["self", "what"])(ha:attr = "what")(S7:iX K C (.ref D)=some true)(Wp:eO K C D "__init__" = some (some (.builtin "Exception.__init__")))(hb:base.StaysIn h)(SG:A.depth < dR){x:al}{v:ae}{tt:al}(hx:h.get? x=some o)(Td:base.get? x=none)(hc:o.cls=.ref C)(T4:o.dict=none)(hd:o.data=.fields vs)(h0:vs[0]?=some (.ref tt))(h1:vs[1]?=some .none){R:dP->af->Prop}(ht:fJ K C attr=some none)(hq:∀h' tk,Made h h' x C 1->R (.ok (.ret .none)) ⟨h',g,d,tk,os⟩):fH (b8 prog w) A (.call (.ref f) ⟨[.ref x,v],[]⟩) R ⟨h,g,d,t,os⟩:=by
 subst ha;refine yy kf fn S7 hb SG (n:=0) (ce _) rfl (by rfl) (v:=v) (by rfl) (u:=v) (by rfl) hx Td hc hd (λA' Q E Rq Uv so pl env p p4 hA Sv hso TA hQ=>?_) ht hq;have b₁:∀b o,base.get? b=some o->Rq.get? b=some o:=λb o e=>Sv _ _ (hb _ _ e);have X₁:K.In Rq:=kf.kin.keeps b₁;refine l8 (kf.along Wp) λcd hcl hal=>?_;have hx₁:=Sv _ _ hx;have I:InstAt Rq x o C none:=⟨hx₁,hc,by unfold notCls;rw[hd],by rw[T4];trivial⟩;refine xa hso (looks_opaque X₁ kf.opq) (l₀:=cd.mro) ((ii X₁ hcl).andThen .now) rfl X₁ hal (kf.notC Td) (by decide) (I.type.andThen (kz X₁ kf.isExc)) ?_;have hmw:(Rq.push (Bk x)).get? Rq.objs.size=some (Bk x):=aU _ rfl;refine callWith_of (P:=λh=>h.get? Rq.objs.size=some (Bk x)/\h.get? x=some o) (by rw[oX];rfl) (λh' hP=>⟨.machine,.inr (.inl rfl),(kt.ld (part:=none) hP.1).andThen .now⟩) ?_;refine uz (TA _ _ _ (λb o e=>av _ e) ⟨⟨hmw,av _ hx₁⟩,?_⟩);refine qv kf.cls λcp hC WK WJ Z=>?_;refine mF kf.exc λR8 F=>?_;refine Gz F WJ (av _ (b₁ _ _ hC)) hmw (av _ hx₁) hc hd h0 λRC U6 UY a0 S6 RM VE Uq UM v0 vi=>?_
 exact hQ RC _ ⟨λb o UW e=>S6 _ _ UW (av _ e),⟨λZ=>none,[],⟨U6,RM,VE.trans hc,(λc e=>nomatch UM.symm.trans e),.inl ⟨Uq.trans T4,λZ=>rfl⟩⟩,PySem.Within.nil,aN _⟩,
  U6,UY,a0,RM,VE.trans hc,UM,v0,(vi 1 (by decide)).trans h1,λdx e=>mr ((Uq.trans T4).symm.trans e)⟩
theorem D8(kf:pU prog w base K C mg mb){f f0 D0:al}(fn:sL prog base f D attr ["self", "what", "spot"])(ha:attr = "spot")(S7:iX K C (.ref D)=some true)(Wp:eO K C D "__init__" = some (some (.ref f0)))(WF:fnIn K f0=true)(fn0:sL prog base f0 D0 "what" ["self", "what"])(Vh:iX K C (.ref D0)=some true)(Wo:eO K C D0 "__init__" = some (some (.builtin "Exception.__init__")))(hb:base.StaysIn h)(SG:A.depth+1 < dR){x:al}{v u:ae}{tt:al}(hx:h.get? x=some o)(Td:base.get? x=none)(hc:o.cls=.ref C)(T4:o.dict=none)(hd:o.data=.fields vs)(h0:vs[0]?=some (.ref tt))(h1:vs[1]?=some .none){R:dP->af->Prop}(ht:fJ K C attr=some none)(XM:fJ K C "what" = some none)(hq:∀h' tk,Made h h' x C 2->R (.ok (.ret .none)) ⟨h',g,d,tk,os⟩):fH (b8 prog w) A (.call (.ref f) ⟨[.ref x,v,u],[]⟩) R ⟨h,g,d,t,os⟩:=by
 subst ha;refine yy kf fn S7 hb (Nat.lt_of_succ_lt SG) (n:=1) (by decide) rfl (by rfl) (v:=v) (by rfl) (u:=u) (by rfl) hx Td hc hd (λA' Q E Rq Uv so pl env p p4 hA Sv hso TA hQ=>?_) ht hq;have b₁:∀b o,base.get? b=some o->Rq.get? b=some o:=λb o e=>Sv _ _ (hb _ _ e);have X₁:K.In Rq:=kf.kin.keeps b₁;refine l8 (kf.along Wp) λcd hcl hal=>?_;have hx₁:=Sv _ _ hx;refine mF fn0.ex λi0 I0=>?_;refine ks_wpAny_getMethod_super hso (looks_opaque X₁ kf.opq) (l₀:=cd.mro) ((ii X₁ hcl).andThen .now) rfl X₁ hal (b₁ _ _ I0.hf) I0.hfc (kf.notC Td) (by decide) ?_;have hm:(Rq.push (lI (.ref f0) (.ref x))).get? Rq.objs.size=some (lI (.ref f0) (.ref x)):=aU _ rfl;have up:∀b o,Rq.get? b=some o->(Rq.push (lI (.ref f0) (.ref x))).get? b=some o:=λb o e=>av _ e;refine callWith_of (P:=MethP K Rq.objs.size f0 (.ref x)) (by rw[oX];rfl) (keeps_M WF) ?_;refine uz (TA _ _ _ up ⟨⟨hm,X₁.keeps up⟩,?_⟩);refine fX (method_call hm ?_);exact D7 kf fn0 rfl Vh Wo (λb o e=>up _ _ (b₁ _ _ e)) (show A'.depth < dR from hA▸SG) (up _ _ hx₁) Td hc T4 hd h0 h1 XM λRC TU m=>hQ RC TU (m.trans up)
end
end
section
open PySem.Builtin PySem.Builtin.ObjectAttr
section
variable {M:gQ}{A:bc}{E:ae->af->Prop}{env:eA}{p:xX}{C:al}{newId:String}
structure IP(p:xX)(C:al)(newId:String)(E:ae->af->Prop)(v:ae)(s:af)(e:al)(o:fq)(vs:Array ae):Prop where
 val:v=.ref e
 at':s.heap.get? e=some o
 cls:o.cls=.ref C
 data:o.data=.fields vs
 v1:vs[1]?=some .none
 hC:s.heap.get? C=some (p.obj C newId)
 ok:E (.ref e) s
theorem xb{s:af}{x:jV ae}{Q:fQ->af->Prop}(TJ:p.bm.contains (.type "BaseException")=true)(hh:A.handled=none)(h:aM M A x (λv Rn=>∃e o vs,IP p C newId E v Rn e o vs) E s):
  aM M A (raiseStmt env (some x) none) Q E s:=by
 have hcB:(cI C::p.bm).contains (.type "BaseException")=true:=by rw[bS,TJ,dX]
 unfold raiseStmt;refine ai (b0 h (λv Rn Rq=>?_) λZ Z x=>x);refine xo Rq λe o vs T=>?_;rw[T.val];have hC:=T.hC;have he:=T.at';have hcl:=T.cls;have hd:=T.data;have hv1:=T.v1;have hE:=T.ok
 clear T
 obtain ⟨hp,g,d,tk,os⟩:=Rn
 repeat (first | (with_reducible refine cG he ?_;rw[hcl]) | with_reducible refine cG hC ?_ | (with_reducible refine dj hC ?_;rw[hcB]) | (with_reducible refine bY he hd hv1 ?_) | wp_step)
 all_goals exact wpAny_raiseNew_none hh hE
end
structure QT where
 f1:al
 f0:al
 D1:al
 D0:al
structure PA(W:Wd)(K:dw)(d:QT):Prop where
 i1:sL W.prog W.base d.f1 d.D1 "spot" ["self", "what", "spot"]
 i0:sL W.prog W.base d.f0 d.D0 "what" ["self", "what"]
 m1:iX K W.exc (.ref d.D1)=some true
 m0:iX K W.exc (.ref d.D0)=some true
 s1:eO K W.exc d.D1 "__init__" = some (some (.ref d.f0))
 fn0:fnIn K d.f0=true
 s0:eO K W.exc d.D0 "__init__" = some (some (.builtin "Exception.__init__"))
 t1:fJ K W.exc "spot" = some none
 t0:fJ K W.exc "what" = some none
 hi:dQ K (.ref W.exc) "__init__" = some (some (.ref d.f1))
 hf:jH K (.ref d.f1)=some (.type "function")
structure Kf(W:Wd)(K:dw)(mg mb:a9->Option ae):Prop where
 facts:pU W.prog W.w W.base K W.exc mg mb
 ex:∃d,PA W K d
section
variable {c:Cx}{s:af}{q:Bool}{P:Pg}{CC:Bool->Call}
theorem AK(kf:Kf W K mg mb)(ar:n0 A c q d)(H:mB W c ρ φ σ s){u:ae}(h:∀e s' o vs a0,Good W [] φ s σ φ s'->HL s.heap s'.heap e W.exc o vs a0->s.heap.get? e=none->Q (.ref e) s'):
  aM W.M A (call (.ref W.exc) [y,u]) Q E s:=by
 refine mF kf.ex λkd I=>?_;refine EE kf.facts.cls λcp hC WK WJ Ye Yd=>?_;refine mF kf.facts.exc λR8 F=>?_;obtain ⟨hh,g,dr,t,os⟩:=s;have hb:=H.inv.base;refine GA (kf.facts.kin.keeps hb) F WJ Ye Yd (hb _ _ hC) I.hi I.hf (by show 2<=bM;decide) λRq e m=>?_;refine mM m.there λtt he Z Z=>?_;have hen:W.base.get? e=none:=sB hb m.new;refine fX (D8 kf.facts I.i1 rfl I.m1 I.s1 I.fn0 I.i0 I.m0 I.s0 (λb o e'=>m.keeps _ _ (hb _ _ e')) ?_ he hen rfl rfl rfl rfl rfl I.t1 I.t0 λRC TU md=>⟨rfl,?_⟩)
 .show A.depth+(cR "type.__call__" ⟨.ref W.exc::[y,u],[]⟩).weight+1 < dR;exact PN (wC [y,u] [] W.exc) ar.depth
 .have md:=md.trans m.keeps;refine xo md.obj λo vs a0 x=>?_;exact h e _ o vs a0 (Good.keeps (s:=⟨hh,g,dr,t,os⟩) H.inv λb o e'=>md.keep _ _ (λq=>mr (m.new.symm.trans (q▸e'))) e') x m.new
theorem zR{C:al}{p:xX}{newId:String}{es:List aa}(h:aM W.M A (fZ (mW es c.env)) (λvs s'=>s'.heap.get? C=some (p.obj C newId)/\aM W.M A (call (.ref C) vs) Q E s') E s):aM W.M A (fG pos (.ref C) [] (mW es c.env) []) Q E s:=by
 unfold fG;refine ai (bn (pt (b0 h (λvs Rn Rq=>?_) λZ Z x=>x)));refine ai (bQ ?_);refine nt Rq λhC Rq=>?_;obtain ⟨hp,g,dr,tk,os⟩:=Rn;rw[oX];refine ai (wpAny_keeperOf_exc hC ?_);exact ai (b0 Rq (λr Rr hr=>ai (bn (jm (aO hr)))) λZ Z x=>x)
theorem Hb(gl:oS G W mg mb)(kf:Kf W K mg mb){a b:MX}{x z:aa}{np VF:cV}(ar:n0 A c q d)(hc:nv c.ck "KindFault" = true)(hs:mT x=true)(RQ:mT z=true)(ha:mz P W c q A (CC q) a x)(hb:mz P W c q A (CC q) b z):n9 P W c q A CC (.raise a b) (.Raise (some (.Call (.Name "KindFault" np) [x,z] [] VF)) none pos):=by
 intro ρ φ σ s Q E H h;have h:=mq.gd h;refine mM kf.facts.cls λcp hC WK Z=>?_;rw[arm_exec_Raise];refine ai (bQ (xb (C:=W.exc) (p:=cp) (newId:="Exception.__new__") WK (ar.handled h.1) ?_));refine ai (wpAny_Call_ofName (wJ gl hc H ?_));rw[pc _ _ (by rw[lw,lw,hs,RQ];rfl)];refine zR (C:=W.exc) (p:=cp) (newId:="Exception.__new__") ?_;refine gF (ha H (mi.ofS H h.2 λUu Rx Ru V1 Rn Z g₁ U3 H₁ Rq=>?_));refine gF (hb H₁ (mi.ofS H₁ Rq λTT RK RE Ut Rr Z RH U2 Rw RC=>?_));refine jK ⟨Rw.inv.base _ _ hC,?_⟩;refine AK kf ar Rw λe RG o vs a0 RD m hn=>?_;exact ai (bQ (aO ⟨e,o,vs,rfl,m.at',m.cls,m.data,m.v1,RD.inv.base _ _ hC,(mq.gd RC).2 RE e RG RD.up (.inl ⟨hn,o,vs,a0,m.at',m.cls,m.data,m.v0,m.v1⟩) (Rw.good RD)⟩))
end
end
section
variable {c:Cx}{s:af}{q:Bool}{P:Pg}{C:Bool->Call}
theorem x9{b:V}:∀{l:List (Nat×V)} {ts:List Bool},u0 σ b l=some ts->ts.length=l.length/\∀(i:Nat) (p:Nat×V),l[i]?=some p->∃t,ts[i]?=some t/\pS σ .isin (.sym p.1) b=some t
 |[],ts,h=>by rw[<-am h];exact⟨rfl,λi p e=>mr (hG.symm.trans e)⟩
 |p::l,ts,h=>by
  refine l8 (bs h) λt e h=>?_;refine l8 (ms h) λT7 e' h=>?_;have ih:=x9 e';rw[<-h];refine⟨congrArg (·+1) ih.1,λi q hq=>?_⟩
  cases i with
  |zero=>rw[<-am hq];exact⟨t,rfl,e⟩
  |succ i=>exact ih.2 i q hq
theorem nq.at{h:aQ}:∀{l:List (Nat×V)} {kvs:List (a9×ae)},nq W φ h l kvs->∀(i:Nat) (e:a9×ae),kvs[i]?=some e->∃p,l[i]?=some p/\W.S[p.1]?=some e.1
 |[],_,r,i,e,h=>by rw[show _=[] from r] at h;exact mr (hG.symm.trans h)
 |(k,v)::l,_,r,i,e,h=>by
  obtain ⟨s,x,r',rfl,hS,rx,rr⟩:=r
  cases i with
  |zero=>exact⟨(k,v),rfl,by rw[<-am h];exact hS⟩
  |succ i=>exact nq.at rr i e h
theorem zJ{k:Ck}{x:a9}(hc:qe k names [(x,j)] []=true):((ny k names).lookup x=some .free\/(ny k names).lookup x=some .cell)/\(x,c9)∈names/\k.vars.lookup x=some j:=by
 have h:=(b2 (b2 (b2 (b2 hc).1).1).1).2;have h:=bh.mp h (x,j) ax
 rcases eY.mp h with q | q
 .exact ma (b2 q).2
 .have q:=b2 q;have q':=b2 q.1;exact⟨(eY.mp q'.1).imp eq_of_beq eq_of_beq,bx.mp q'.2,eq_of_beq q.2⟩
theorem vJ{h:aQ}:∀ts:List Bool,my W φ h (ts.map V.bool) (ts.map iL)
 |[]=>rfl
 |t::ts=>⟨_,_,rfl,rfl,vJ ts⟩
theorem DF(ok:nO W P)(ar:n0 A c q d){one left:a9}{iter:aa}{p1 p2 p3 p4:cV}(hn:uv iter=true)(hk:scope.kind=.function)(hc:qe c.ck scope.names [(left,j)] []=true)(h1:(ny c.ck scope.names).lookup one=some .local)(b1:(!pC.contains one)=true)(bl:(!pC.contains left)=true)(a:mz P W c q A (C q) Rt iter):
  mz P W c q A (C q) (.inEach Rt j) (.ListComp (.Compare (.Name one p1) [.In] [.Name left p2] p3) [⟨.Name one p4,iter,[],0⟩] scope pos):=by
 intro ρ φ σ s Q E H h;have h:=mi.gd h;have hh:=ar.handled h.1;have fr:=λ{n:a9}=>rS (n:=n) H.ok hc;rw[eval_ListComp];refine rJ (use:=none) (cl:=pD c.env scope.names []) rfl (λx=>tV hn _ x) (sI λn hn=>(fr hn).2.2) hk (q9 hc).1 (q9 hc).2 (a H (mi.bind h.2 λv σ' Rm y s' Z g rv hk'=>?_));refine l8 (mi.opt hk') λn e1 hk'=>?_;refine l8 (mi.opt hk') λl e2 hk'=>?_;refine l8 (mi.opt hk') λb eb hk'=>?_;refine l8 (mi.opt hk') λts Yw hk'=>?_;have hlen:=(mi.gd hk').1;have hk':=(mi.gd hk').2;rw[oK e1] at rv;refine l8 rv λad Xh Rz=>?_;subst Rz;refine l8 (g.inv.rep n _ ad (qN e2) Xh) λkvs hd rd=>?_;obtain ⟨o,es,ep,d1,d2,d3,d4,d5,d6⟩:=hd
 have hsys:(ad==ef)=false:=by
  rw[beq_eq_false_iff_ne]
  rintro rfl
  refine mF ok.sys λo' e'=>?_;rw[g.inv.new _ (bq Xh)] at e';cases e'
 have Hs:=H.good g;have hone:=zJ hc;have hfr:=fr hone.2.1;refine mF hfr.2.2 λcc hcc=>?_;refine nJ (Hs.ok.cell left cc hcc) λZ Z Z u hu hv=>?_;refine l8 (hv j hone.2.2 (hfr.2.1) b eb) λz zr rz=>?_;subst zr;have hts:=x9 Yw;have hkl:kvs.length=l.length:=rd.length;refine wpAny_pyIter_dict (knd:=bw W.prog W.w) hsys (⟨o,es,d1,d2,d3,d4,d5,d6⟩:s'.heap.DictAt (bw W.prog W.w) ad kvs ep) λh' Su TS hget=>?_;generalize hI:s'.heap.objs.size=I at Su TS hget ⊢;generalize hH:s'.heap.push {cls:=.type "dict_keyiterator",data:=.fields #[.ref ad,.int 0 0,.int kvs.length 0,.int ep 0]}=H1 at Su TS hget ⊢
 have hz:H1.objs.size=I+1:=by rw[<-hH,<-hI];exact ct ..
 rw[hz] at Su hget ⊢
 have k1:∀b o,s'.heap.get? b=some o->H1.get? b=some o:=λb o e=>by rw[<-hH];exact av _ e
 have lt:∀b o,s'.heap.get? b=some o->b < I:=λb o e=>by rw[<-hI];exact ch e
 have hit:h'.IsKeyIter I ad 0 kvs.length ep:=⟨_,TS _ _ (by rw[<-hH,<-hI];exact aU _ rfl),rfl,rfl⟩
 have hk1:eJ (db scope (pD c.env scope.names []) (I+1+1) c.env) one=some .local:=by
  show (jp scope c.env).names.lookup one=_;rw[pJ (vars:=c.vars) H.ok.kind];exact h1
 have hkL:eJ (db scope (pD c.env scope.names []) (I+1+1) c.env) left=some .free\/eJ (db scope (pD c.env scope.names []) (I+1+1) c.env) left=some .cell:=by
  show (jp scope c.env).names.lookup left=_\/(jp scope c.env).names.lookup left=_;rw[pJ (vars:=c.vars) H.ok.kind];exact hone.1
 refine mF (pF (rR (cs:=[]) hone.2.1 hcc)) λWZ hcl=>?_;have hcl':WZ=cc:=am ((qK (λZ Z hm=>absurd hm (by simp)) left WZ (mem_of_lookup hcl)).symm.trans hcc);subst hcl';have neL:I+1+1≠I:=aY (aS (bO I));have nI:∀b o,s'.heap.get? b=some o->b≠I:=λb o e=>aP (lt b o e);have nD:∀b o,s'.heap.get? b=some o->b≠I+1:=λb o e=>aP (aS (lt b o e));have nL:∀b o,s'.heap.get? b=some o->b≠I+1+1:=λb o e=>aP (aS (aS (lt b o e)))
 have hDn:s'.heap.get? (I+1)=none:=by
  cases q:s'.heap.get? (I+1) with
  |none=>rfl
  |some o=>exact absurd (lt _ _ q) (dD.mpr (dU I))
 have loop:fH W.M A (.compLoop (.ListComp (.Compare (.Name one p1) [.In] [.Name left p2] p3) [⟨.Name one p4,iter,[],0⟩] scope pos) 0 (.ref I) (.ref (I+1)) (db scope (pD c.env scope.names []) (I+1+1) c.env))
   (qL W.M A E none Q (db scope (pD c.env scope.names []) (I+1+1) c.env) (.ref (I+1))) {s' with heap:=h'}:=by
  refine o6 (λk st=>∃i hp tk m n1,i+k=kvs.length/\st={s' with heap:=hp,toks:=tk}/\hp.IsKeyIter I ad i kvs.length ep/\hp.get? (I+1)=some (pp ((ts.take i).map iL) n1)/\hp.Ns (I+1+1) m/\
   ∀b o,s'.heap.get? b=some o->hp.get? b=some o) ?_ kvs.length ⟨0,h',s'.toks,_,0,dz _,rfl,hit,hget,Su,λb o e=>TS _ _ (k1 _ _ e)⟩
  rintro k st ⟨i,hp,tk,m,n1,hik,rfl,hit,hD,hL,kk⟩
  have Xe:hp.DictAt (bw W.prog W.w) ad kvs ep:=⟨o,es,kk _ _ d1,d2,d3,d4,d5,d6⟩
  cases hx:kvs[i]? with
  |none=>
   refine wpAny_pyNext_dict_end (knd:=bw W.prog W.w) hh hit Xe hx λRC he=>?_;refine nU hL λoL VB VC eL rL=>?_;refine⟨_,⟨oL,VB,VC,he _ _ neL eL,rL⟩,λRT hs=>?_⟩;have k3:∀b o,b≠I->b≠I+1+1->hp.get? b=some o->RT.get? b=some o:=λb o hb hb' e=>hs.extBut b o hb' (he b o hb e);have XF:∀b o,s'.heap.get? b=some o->RT.get? b=some o:=λb o e=>k3 b o (nI b o e) (nL b o e) (kk _ _ e)
   have hi:ts.length<=i:=by rw[hts.1,<-hkl];exact dy.mp hx
   rw[iI hi] at hD;refine hk' Rm (.ref (I+1)) _ (Good.keeps g.inv XF) ?_;refine⟨I+1,_,n1,rfl,⟨(g.inv.fresh hDn).1,λhm=>?_⟩,by rw[ay,hts.1];exact mY (bK hlen),k3 _ _ (j9 I) (aP (bO _)) hD,vJ ts⟩;refine mF (g.inv.hid _ hm) λo e=>?_;rw[hDn] at e;cases e
  |some kv=>
   refine wpAny_pyNext_dict_item (knd:=bw W.prog W.w) (k:=kv.1) (v:=kv.2) hit Xe hx λkey RC TD TE RX=>?_;refine mF (ve TD) λt zr=>?_;subst zr;refine mM (id TE) λoi ei ci Z=>?_;show aM _ _ (gr _ (.ref I) (.str kv.1 t)) _ _ _;refine rY (s:={s' with heap:=RC,toks:=tk}) ei ci (by decide) ?_;rw[fE];refine ai (bQ (ai (bn (jm (ai ?_)))));rw[storeName_local hk1 (by rw[show (db scope (pD c.env scope.names []) (I+1+1) c.env).scope.kind=.function from hk];rfl)]
   have Vw:RC.Ns (I+1+1) m:=by
    refine nU hL λoL VB VC eL rL=>?_;exact⟨oL,VB,VC,RX.extBut _ _ neL eL,rL⟩
   refine BE (s:={s' with heap:=RC,toks:=tk}) Vw λRT Uh RW Z=>jm ?_;have k3:∀b o,b≠I->b≠I+1+1->hp.get? b=some o->RT.get? b=some o:=λb o hb hb' e=>RW.extBut b o hb' (RX.extBut b o hb e);have To:∀b o,s'.heap.get? b=some o->RT.get? b=some o:=λb o e=>k3 b o (nI b o e) (nL b o e) (kk b o e);show aM _ _ (pure true) _ _ _;refine aO ?_;rw[if_pos rfl];refine wpAny_Compare1 (dH (gh hk hk1 Uh (if_pos rfl) (dH ?_ (pv bl).1)) (pv b1).1) rfl;have Ua:RT.IsCell WZ (some z):=let ⟨o,e,c⟩:=hu;⟨o,To _ _ e,c⟩;refine (λX=>hkL.elim (λq=>gy hk q hcl Ua X (pv bl).2) λq=>jw hk q hcl Ua X) ?_;obtain ⟨p,hp1,hpS⟩:=rd.at i kv hx;obtain ⟨tt,htt,hcmp⟩:=hts.2 i p hp1;have RD:Good W [] Rm s' σ' Rm {s' with heap:=RT,toks:=tk+1}:=Good.keeps g.inv To;refine FA (s:={s' with heap:=RT,toks:=tk+1}) ok RD.inv ar.u64 (op:=.isin) (a:=.sym p.1) ⟨kv.1,_,hpS,rfl⟩ (RD.rep rz) hcmp λUP=>?_
   refine iE (s:={s' with heap:=RT,toks:=UP}) (items:=((ts.take i).map iL).toArray) ⟨n1,k3 _ _ (j9 I) (aP (bO _)) hD⟩ (λRR TB R1=>?_) (by
    rw[bF,ay]
    exact ac (ge _ _) (by rw[hts.1];exact mY (bK hlen)))
   refine mF TB λn5 e5=>?_
   cases k with
   |zero=>exact absurd (aq.mp hx).1 (dD.mpr (bB hik.symm))
   |succ k'=>
    refine⟨k',bO _,i+1,RR,UP,(λx=>if x=one then some (.str kv.1 t) else m x),n5,by rw[be];exact hik,rfl,?_,?_,?_,λb o e=>R1.extBut b o (nD b o e) (To b o e)⟩
    .refine mM TE λoi ei ci di=>?_;exact⟨oi,R1.extBut _ _ (aP (bO _)) (RW.extBut _ _ (bJ neL) ei),ci,di⟩
    .rw[e5,hJ,List.take_add_one,htt,bf];rfl
    .refine nU Uh λoL VB VC eL rL=>?_;exact⟨oL,VB,VC,R1.extBut _ _ (aY (bO _)) eL,rL⟩
 exact iO loop (wpAny_pyIter_keyiter hit loop)
end
noncomputable def Bs(vars:List (a9×Nat)):Nat->List a9->Bool
 |_,[]=>true
 |j,p::r=>vars.lookup p==some j&&Bs vars (j+1) r
noncomputable def E9(kinds:List (a9×b9))(x:a9):Bool:=kinds.lookup x==some .local||(kinds.lookup x==some .cell&&kinds.contains (x,.cell))
noncomputable def DO(kinds:List (a9×b9))(vars:List (a9×Nat))(params:List a9)(F:AV):Bool:=
 decide (vars.map (·.2)).Nodup&&(decide (params.length=F.params)&&(decide (F.params<=F.slots)&&(Bs vars 0 params&&vars.all λp=>E9 kinds p.1)))
structure Q9(kinds:List (a9×b9))(vars:List (a9×Nat))(params:List a9)(F:AV):Prop where
 inj:(vars.map (·.2)).Nodup
 len:params.length=F.params
 le:F.params<=F.slots
 par:Bs vars 0 params=true
 has:∀p∈vars,E9 kinds p.1=true
theorem wa{kinds:List (a9×b9)}{F:AV}(h:DO kinds vars params F=true):Q9 kinds vars params F:=
 have h1:=b2 h;have h2:=b2 h1.2;have h3:=b2 h2.2;have h4:=b2 h3.2
 ⟨of_decide_eq_true h1.1,of_decide_eq_true h2.1,of_decide_eq_true h3.1,h4.1,bh.mp h4.2⟩
theorem BU{x:a9}:∀{n:Nat} {acc:List (a9×al)},(∃c,acc.lookup x=some c)->∃c,(kb n names acc).lookup x=some c:=by
 induction names with
 |nil=>exact λh=>h
 |cons p r ih=>
  intro n acc h;unfold kb
  split
  .refine mF h λc h=>?_;refine ih ?_;rw[c0]
   by_cases e:(x==p.1)=true
   .rw[e];exact⟨_,rfl⟩
   .rw[cQ.mpr e];exact⟨c,h⟩
  .exact ih h
theorem BV{x:a9}:∀{n:Nat} {acc:List (a9×al)},(x,jy)∈names->∃c,(kb n names acc).lookup x=some c:=by
 induction names with
 |nil=>exact λh=>nomatch h
 |cons p r ih=>
  intro n acc h;unfold kb
  rcases bd.mp h with e | h
  .rw[<-e];exact BU ⟨n,by rw[c0,beq_self_eq_true]⟩
  .split
   .exact ih h
   .exact ih h
structure QS where
 o:fq
 fd:fk
 params:List a9
structure Kn(W:Wd)(fn:al)(F:AV)(kinds:List (a9×b9))(vars:List (a9×Nat))(stmts:List Stmt)(d:QS):Prop where
 hf:W.base.get? fn=some d.o
 hd:d.o.data=.func d.fd
 body:d.fd.body=.stmts stmts
 names:d.fd.scope.names=kinds
 kind:d.fd.scope.kind=.function
 co:d.fd.scope.isCoroutine=false
 gen:d.fd.scope.isGenerator=false
 clo:d.fd.closure=[]
 gl:d.fd.globals=cO
 bu:d.fd.builtins=d9
 cr:W.base.CodeRec d.fd.code d.fd.qualname
 bind:∀Rp:List ae,Rp.length=d.params.length->bindArgs d.fd ⟨Rp,[]⟩=pure (d.params.zip Rp)
 chk:DO kinds vars d.params F=true
structure FW(W:Wd)(fn:al)(F:AV)(kinds:List (a9×b9))(vars:List (a9×Nat))(stmts:List Stmt):Prop where
 ex:∃d,Kn W fn F kinds vars stmts d
 nolimit:W.base.NoLimit
noncomputable def sv:Nat->List V->mc->mc
 |_,[],ρ=>ρ
 |j,v::l,ρ=>sv (j+1) l (ρ.set j (some v))
theorem Ap:∀{pre:mc} {n:Nat},l.length<=n->sv pre.length l (pre++b7 n none)=pre++(l.map some++b7 (n - l.length) none):=by
 induction l with
 |nil=>exact λZ=>rfl
 |cons v l ih=>
  intro pre n h
  cases n with
  |zero=>exact absurd h (Nat.not_succ_le_zero _)
  |succ n=>
   have e:(pre++b7 (n+1) none).set pre.length (some v)=(pre++[some v])++b7 n none:=by
    rw[i5 _ _ (aN _),bC,ba];rfl
   have:=ih (pre:=pre++[some v]) (n:=n) (Nat.le_of_succ_le_succ h);rw[ah] at this;show sv (pre.length+1) l _=_;rw[e,cM,Nat.succ_sub_succ];exact this.trans (by rw[ba];rfl)
section
variable {c:Cx}{s:af}{q:Bool}{P:Pg}{C:Bool->Call}
theorem FJ(f:a9×ae->PUnit->jV (ForInStep PUnit))(hf:∀n v u,f (n,v) u=(do fV c.env n v;pure (.yield ⟨⟩))):∀{j:Nat} {l:List V} {Rp:List ae} {ρ:mc} {s:af} {Q:PUnit->af->Prop},
  Bs c.vars j params=true->l.length=params.length->mB W c ρ φ σ s->my W φ s.heap l Rp->j+l.length<=ρ.length->
  (∀s',Good W (ownOf c.env) φ s σ φ s'->mB W c (sv j l ρ) φ σ s'->Q ⟨⟩ s')->aM W.M A (forIn (params.zip Rp) ⟨⟩ f) Q E s:=by
 induction params with
 |nil=>
  intro j l Rp ρ s Q hp hl H r hj h;rw[List.eq_nil_of_length_eq_zero hl] at h;rw[List.zip_nil_left,List.forIn_nil];exact aO (h s (.refl H.inv) H)
 |cons p params ih=>
  intro j l Rp ρ s Q hp hl H r hj h
  cases l with
  |nil=>exact nomatch hl
  |cons v l=>
   refine mI r.uncons λy ys e rv rl=>?_;have hp:=b2 hp;have X0:j < ρ.length:=ao (bg (eT _)) hj;rw[e,gP,kM,hf]
   exact ai (ai (pM (loc:=false) H (eq_of_beq hp.1) X0 rv (λq=>ma q) λRn g₁ H₁=>aO
    (ih hp.2 (fD hl) H₁ (rl.evo (X:=φ++ownOf c.env) g₁.evo (own_apart H) g₁.grows) (by rw[aV,be];exact hj) λRr RH Rw=>h Rr (g₁.trans RH) Rw)))
theorem rD.gd[Decidable p]{r:R Unit V}(h:rD W φ s (Mine.Internal.gd p r) R'):p/\rD W φ s r R':=by
 unfold Mine.Internal.gd at h
 by_cases hp:p
 .rw[if_pos hp] at h;exact⟨hp,h⟩
 .rw[if_neg hp] at h;exact h.elim
theorem Ev{fn:al}{F:AV}{kinds:List (a9×b9)}{stmts:List Stmt}{fd:QS}{l:List eA}(I:Kn W fn F kinds vars stmts fd)(frs:rN W φ s.heap l)(g₁:Good W [] φ s σ φ {s with heap:=Rq})(hL:∀b,L<=b->s.heap.get? b=none)(hFr:Rq.get? L=some {cls:=.type "frame",data:=.dict #[]})(okc:CellsOk Rq (L+1) (cT fd.fd L fn).cells)(inv:Inv W φ σ s.heap):
  mB W ⟨cT fd.fd L fn,cT fd.fd L fn,l,vars⟩ (b7 F.slots none) φ σ {s with heap:=Rq}/\∀b∈ownOf (cT fd.fd L fn),s.heap.get? b=none:=by
 have K:=wa I.chk;have cell_new:∀n a,(cT fd.fd L fn).cells.lookup n=some a->Rq.IsCell a none/\L+1<=a:=λn a e=>okc.empty n a (mem_of_lookup e)
 have own_new:∀b∈ownOf (cT fd.fd L fn),s.heap.get? b=none:=λb hb=>by
  rcases nV hb with q | ⟨n,hn⟩
  .rw[q];exact hL _ (aN _)
  .exact hL b (ia (cell_new n b hn).2)
 have nm:(cT fd.fd L fn).scope.kind≠.module:=by rw[show (cT fd.fd L fn).scope.kind=.function from I.kind];decide
 have blank:∀{i:Nat} {u:Option ae},qH W φ Rq (b7 F.slots none) i u:=λ{i u} v e=>by
  rw[List.getElem?_replicate] at e
  split at e<;>exact mr e
 refine⟨⟨g₁.inv,⟨I.kind,I.gl,I.bu,K.inj,λx y a ex ey=>name_of_addr okc.apart (mem_of_lookup ex) (mem_of_lookup ey),inv.fresh (hL _ (aN _)),⟨_,⟨_,#[],_,hFr,rfl,λe he=>absurd he (by simp),λZ=>rfl⟩,λx i Z Z=>blank⟩,λx a ha=>?_,λx i hx=>?_⟩,
  ⟨nm,⟨L,rfl,(inv.fresh (hL _ (aN _))).1,(inv.fresh (hL _ (aN _))).2,_,_,_,hFr,rfl,rfl⟩,frs.evo g₁.evo g₁.grows λb hb=>.inl (by simpa using (frs.mem hb).1)⟩,λb hb hm=>?_⟩,own_new⟩
 .refine nt (cell_new x a ha) λhc Vl=>?_;have hfr:=inv.fresh (hL a (ia Vl));exact⟨hfr.1,hfr.2,aY Vl,none,hc,λi Z Z=>blank⟩
 .have e:∀y,(cT fd.fd L fn).kindOf y=kinds.lookup y:=λy=>congrArg (List.lookup y) I.names
  rcases yi (K.has (x,i) (mem_of_lookup hx)) with q | q
  .exact .inl ((e x).trans (eq_of_beq q))
  .have q:=b2 q;exact .inr ⟨.inl ((e x).trans (eq_of_beq q.1)),BV (by rw[I.names];exact bx.mp q.2)⟩
 .refine wj (frs.mem hm) λZ Z o' Z Z e' Z=>?_;exact mr ((own_new b hb).symm.trans e')
theorem J4{fn:al}{F:AV}{kinds:List (a9×b9)}{stmts:List Stmt}{l:List eA}{args:List V}{R:dP->af->Prop}(ok:FW W fn F kinds vars stmts)(pre:uL A l q (d+1))(frs:rN W φ s.heap l)(inv:Inv W φ σ s.heap)(r:my W φ s.heap args Rp)(hb:∀{c:Cx} {A:bc},c.ck=⟨kinds,vars⟩->c.env.scope.kind=.function->n0 A c q d->qd P W c q A C F.body stmts)(h:rD W φ s (gd (args.length=F.params) (ended (dS P C q F.body (vc F args) σ))) R):fH W.M A (.call (.ref fn) ⟨Rp,[]⟩) R s:=by
 refine mF ok.ex λfd I=>?_;have K:=wa I.chk;refine nt (rD.gd h) λhlen h=>?_;have hb':=inv.base;refine codeAny_call_function (PM pre.depth) (hb' _ _ I.hf) I.hd I.co I.gen I.body (I.cr.keeps hb') ?_;rw[I.bind Rp (by rw[r.length,hlen,K.len]),I.clo];refine aO ?_;simp only[newFunctionEnv,Option.isSome_none,gE,if_false];refine ai (wpAny_alloc ?_);refine ai (wpAny_layCells _ (λname kind cells=>by cases kind==jy<;>simp) _ _ _ _ ?_);have okc:=cellsFrom_ok fd.fd.scope.names (s.heap.push {cls:=.type "frame",data:=.dict #[]}) (s.heap.objs.size+1) [] ⟨λZ Z hm=>(nomatch hm),l5⟩ (by rw[ct];exact aN _);rw[ct] at okc;rw[show ({s with heap:=s.heap.push {cls:=.type "frame",data:=.dict #[]}}:af).heap.objs.size=s.heap.objs.size+1 from ct ..];have hnew:∀b,s.heap.objs.size<=b->s.heap.get? b=none:=λb hb=>eM hb;have kp:∀b o,s.heap.get? b=some o->(lK (s.heap.push {cls:=.type "frame",data:=.dict #[]}) fd.fd.scope.names).get? b=some o:=λb o e=>pushCells_keeps _ _ b o (av _ e);have hFr:(lK (s.heap.push {cls:=.type "frame",data:=.dict #[]}) fd.fd.scope.names).get? s.heap.objs.size=some {cls:=.type "frame",data:=.dict #[]}:=pushCells_keeps _ _ _ _ (aU _ rfl);generalize s.heap.objs.size=L at okc hnew hFr ⊢;generalize lK (s.heap.push {cls:=.type "frame",data:=.dict #[]}) fd.fd.scope.names=Rq at okc kp hFr ⊢;have g₁:Good W [] φ s σ φ {s with heap:=Rq}:=Good.keeps inv kp;refine nt (Ev I frs g₁ hnew hFr okc inv) λH₁ own_new=>?_;refine ai (FJ (c:=⟨cT fd.fd L fn,cT fd.fd L fn,l,vars⟩) _ (λZ Z Z=>rfl) K.par (hlen.trans K.len.symm) H₁ (g₁.repL r) (by rw[dz,List.length_replicate,hlen];exact K.le) λRr RH Rw=>?_);refine aO ⟨ok.nolimit.keeps Rw.inv.base,codeAny_func ?_⟩;have e:sv 0 args (b7 F.slots none)=vc F args:=(Ap (pre:=[]) (by rw[hlen];exact K.le)).trans (by rw[hlen];rfl);rw[e] at Rw;have g₂':Good W [] φ s σ φ Rr:=g₁.fresh (F:=ownOf (cT fd.fd L fn)) own_new RH
 have ar:n0 (A.deeper (cT fd.fd L fn)) ⟨cT fd.fd L fn,cT fd.fd L fn,l,vars⟩ q d:=by
  refine⟨congrArg (Option.map (_::·)) pre.frames,rfl,?_,?_,pre.handled⟩
  .exact PH pre.depth
  .exact PJ pre.units
 refine hb (c:=⟨cT fd.fd L fn,cT fd.fd L fn,l,vars⟩) (A:=A.deeper (cT fd.fd L fn)) (congrArg (Ck.mk · vars) I.names) I.kind ar Rw ?_;have back:∀{So:St} {R7:List al} {RG:af},Good W (ownOf (cT fd.fd L fn)) φ Rr So R7 RG->Good W [] φ s So R7 RG:=λg=>g₂'.fresh (F:=ownOf (cT fd.fd L fn)) own_new g
 revert h
 generalize dS P C q F.body (vc F args) σ=rr;intro h
 cases rr with
 |bad=>exact h.elim
 |ok p So=>
  obtain ⟨fl,ρ₃⟩:=p;intro R7 f RG RD rf RU
  cases fl with
  |next=>rw[show f=.next from rf];exact h R7 .none RG (back RD) rfl
  |ret v=>refine l8 rf λy e ry=>?_;rw[e];exact h R7 y RG (back RD) ry
 |exc ρ₃ So=>
  intro R7 ex RG RD x₃ RU;refine CQ ar.frames RU.frs rfl rfl (λb hb=>(back RD).evo.fresh hb) (x₃.born λb hb=>g₂'.evo.fresh hb) λh' hop fl=>?_;exact h R7 ex _ ((back RD).hop (t:=RG.toks) inv.base hop RU.frs.at) fl
end
structure xW where
 E:Ck->aa->Bool
 T:Ck->aa->Bool
 L:Ck->List aa->Bool
 LT:Ck->List aa->Bool
 I:Ck->aa->aa->Bool
 isNil:Bool
noncomputable def xW.no:xW:=⟨λZ Z=>false,λZ Z=>false,λZ Z=>false,λZ Z=>false,λZ Z Z=>false,false⟩
noncomputable def xW.ofET(f g:Ck->aa->Bool):xW:={xW.no with E:=f,T:=g,I:=λk Z x=>f k x}
noncomputable def xW.ofI(f:Ck->aa->aa->Bool):xW:={xW.no with I:=f}
noncomputable def xW.ofE(f:Ck->aa->Bool):xW:=.ofET f λZ Z=>false
noncomputable def xW.ofV(f:Ck->aa->Bool):xW:=.ofET f λk x=>ug x&&f k x
noncomputable def BI.nm:BI->a9
 |.len=>"len" |.any=>"any" |.sorted _=>"sorted" |.list _=>"list" |.tuple=>"tuple" |.dict=>"dict" |.str=>"str"
theorem A4(b:BI):gA b.nm=some b.py/\b.nm∈o5:=by
 cases b with
 |sorted m=>exact⟨by kernel_rfl,(by decide:("sorted" : a9)∈o5)⟩
 |list m=>exact⟨by kernel_rfl,(by decide:("list" : a9)∈o5)⟩
 |_=>exact⟨by kernel_rfl,by decide⟩
theorem pY{o:Option α}(h:o.isNone=true):o=none:=by
 cases o with
 |none=>rfl
 |some _=>exact ma h
noncomputable def HP:kZ->Bool
 |.none=>true
 |_=>false
theorem Do{c:kZ}:HP c=true->c=.none:=by cases c<;>first | exact ma | exact λZ=>rfl
noncomputable def HO:kZ->Option Bool
 |.bool b=>some b
 |_=>none
theorem Dn{c:kZ}{b:Bool}:HO c=some b->c=.bool b:=by cases c<;>first | exact mr | exact λh=>congrArg kZ.bool (am h)
noncomputable def IX:kZ->Option Int
 |.int b=>some b
 |_=>none
theorem A5{c:kZ}{b:Int}:IX c=some b->c=.int b:=by cases c<;>first | exact mr | exact λh=>congrArg kZ.int (am h)
noncomputable def rn(x:aa)(f:a9->List aa->Bool):Bool:=ue x λg xs ks Z=>ks.isEmpty&&oq g λn=>f n xs
theorem qb{x:aa}{f:a9->List aa->Bool}{P:aa->Prop}(h:rn x f=true)(k:∀n p xs pos,f n xs=true->P (.Call (.Name n p) xs [] pos)):P x:=
 tE h λg xs ks pos h=>pQ h λh1 h=>sd (P:=λks=>P (.Call g xs ks pos)) h1 (nx (P:=λg=>P (.Call g xs [] pos)) h λn p h=>k n p xs pos h)
noncomputable def xr(x:aa)(f:aa->a9->List aa->Bool):Bool:=ue x λg xs ks p=>ks.isEmpty&&sR g λy n ap=>ap.endLine==p.line&&(om y&&(xs.all mT&&(decide (xs.length < 30)&&f y n xs)))
theorem wm{x:aa}{f:aa->a9->List aa->Bool}{P:aa->Prop}(h:xr x f=true)(k:∀y n ap xs pos,(ap.endLine==pos.line)=true->om y=true->xs.all mT=true->xs.length < 30->f y n xs=true->P (.Call (.Attribute y n ap) xs [] pos)):P x:=
 tE h λg xs ks pos h=>pQ h λh1 h=>sd (P:=λks=>P (.Call g xs ks pos)) h1 (sj (P:=λg=>P (.Call g xs [] pos)) h λy n ap h=>KF h λh1 h2 h3 h4 h=>k y n ap xs pos h1 h2 h3 (of_decide_eq_true h4) h)
noncomputable def D5(S:List a9):List Nat->List (Option aa)->Bool
 |[],es=>es.isEmpty
 |k::ks,es=>nX es λo es=>o.any (λx=>onStr x λs=>S[k]?==some s)&&D5 S ks es
theorem B7:∀{es:List (Option aa)},D5 S ks es=true->KeysAre S ks es:=by
 induction ks with
 |nil=>exact λh=>sd h .nil
 |cons k ks ih=>exact λh=>oh h λo r h=>pQ h λh1 h=>ya (P:=λo=>KeysAre S (k::ks) (o::r)) h1 λx h1=>xy (P:=λx=>KeysAre S (k::ks) (some x::r)) h1 λs kd p h1=>.cons (eq_of_beq h1) (ih h)
noncomputable def xF:List aa->(List aa->Nat->Bool)->Bool
 |[],k=>k [] 0
 |x::r,k=>(onStr x λs=>xF r λvs n=>k vs (n+s.length))||Ab x λv i sp=>decide (i=-1)&&(sp.isNone&&xF r λvs n=>k (v::vs) n)
theorem Al{l:List aa}{P:Prop}:∀{k:List aa->Nat->Bool},xF l k=true->(∀vs n,n4 l vs n->k vs n=true->P)->P:=by
 induction l with
 |nil=>exact λh k=>k [] 0 .nil h
 |cons x r ih=>
  intro k h;refine (yi h).elim (λh=>?_) λh=>?_
  .exact xy (P:=λx=>(∀vs n,n4 (x::r) vs n->k vs n=true->P)->P) h λs kd p h k=>ih h λvs n a b=>k vs _ (.str a) b
  .exact EN (P:=λx=>(∀vs n,n4 (x::r) vs n->k vs n=true->P)->P) h λv i sp p h=>u4 h λh1 h2 h=>rU (P:=λi=>(∀vs n,n4 (.FormattedValue v i sp p::r) vs n->k vs n=true->P)->P) h1
    (xk (P:=λsp=>(∀vs n,n4 (.FormattedValue v (-1) sp p::r) vs n->k vs n=true->P)->P) h2 λk=>ih h λvs n a b=>k _ n (.val a) b)
noncomputable def Ep:aa->List a9
 |.Name n _=>[n]
 |_=>[]
noncomputable def qW:aa->List a9
 |.Tuple xs _ _=>xs.flatMap Ep
 |x=>Ep x
noncomputable def ta(k:Ck)(names:List (a9×b9))(lv:List (a9×Nat)):List (a9×Nat):=
 lv++names.filterMap λp=>if p.2==.free then (k.vars.lookup p.1).map λi=>(p.1,i) else none
noncomputable def Lv(k:Ck)(names:List (a9×b9))(lv vs:List (a9×Nat)):Bool:=
 lv.all λp=>vs.lookup p.1==some p.2&&(ny k names).lookup p.1==some .local
theorem GH{k:Ck}{vs:List (a9×Nat)}(h:Lv k names lv vs=true):∀x i,lv.lookup x=some i->vs.lookup x=some i/\(ny k names).lookup x=some .local:=λx i e=>
 have h:=b2 (bh.mp h (x,i) (mem_of_lookup e))
 ⟨eq_of_beq h.1,eq_of_beq h.2⟩
noncomputable def Lu(S:List a9)(v:V)(x:aa):Bool:=
 ((sP v).isSome&&ro x HP)||(((pe v).any λb=>ro x λc=>HO c==some b)||(((nu v).any λi=>(ro x λc=>IX c==some i)||ET x λo y=>decide (o=.USub)&&ro y λc=>IX c==some (-i))||
  (sK v).any λk=>onStr x λs=>S[k]?==some s))
structure Lg where
 G:Gl
 S:List a9
 attrs:List a9
structure zu extends Lg where
 K:dw
 mg:a9->Option ae
 mb:a9->Option ae
section
variable (p:Lg)
noncomputable def mL:MX->xW
 |.nil=>{xW.no with L:=λZ xs=>xs.isEmpty,LT:=λZ xs=>xs.isEmpty,isNil:=true}
 |.cons e es=>{xW.no with
   L:=λk xs=>nX xs λx xs=>(mL e).E k x&&(mL es).L k xs
   LT:=λk xs=>nX xs λx xs=>(mL e).T k x&&(mL es).LT k xs}
 |.lit v=>.ofV λZ x=>Lu p.S v x
 |.glob g=>.ofE λk x=>oq x λn=>p.G.nm.cn[g]?==some n&&nv k n
 |.var i=>.ofV λk x=>oq x (isVar k i)
 |.tup es=>.ofE λk x=>rq x λxs=>xs.all mT&&(mL es).L k xs
 |.lst _ es=>.ofE λk x=>Ad x λxs=>xs.all mT&&(mL es).L k xs
 |.dict ks es=>.ofE λk x=>z9 x λkeys xs=>decide (ks.length=xs.length)&&(decide (keys.length<=15)&&(D5 p.S ks keys&&(mL es).L k xs))
 |.attr e n=>.ofV λk x=>sR x λy nm Z=>om y&&(p.S[n]?==some nm&&(p.attrs.contains nm&&(mL e).E k y))
 |.idx e i=>.ofV λk x=>yR x λy z=>tA z&&((mL e).E k y&&(mL i).E k z)
 |.upto e i=>.ofE λk x=>yR x λy z=>xw z λlo up st=>lo.isNone&&(st.isNone&&up.any λz=>(mL e).E k y&&(mL i).E k z)
 |.bin op e i=>.ofE λk x=>EH x λy o z=>decide (o=op.py)&&((mL e).E k y&&(mL i).E k z)
 |.cmp op e i=>.ofET (λk x=>yN x λy os zs=>decide (os=[op.py])&&qi zs λz=>vu z&&((mL e).E k y&&(mL i).E k z)) λk x=>yN x λy os zs=>decide (os=[op.py])&&qi zs λz=>vu z&&((mL e).E k y&&(mL i).E k z)
 |.not e=>.ofET (λk x=>ET x λo y=>decide (o=.Not)&&(mL e).E k y) λk x=>ET x λo y=>decide (o=.Not)&&(mL e).T k y
 |.and es=>.ofET (λk x=>ud x λo xs=>decide (o=.And)&&(mL es).L k xs) λk x=>ud x λo xs=>decide (o=.And)&&(mL es).LT k xs
 |.or es=>.ofET (λk x=>ud x λo xs=>decide (o=.Or)&&(mL es).L k xs) λk x=>ud x λo xs=>decide (o=.Or)&&(mL es).LT k xs
 |.ite t e i=>.ofET (λk x=>GU x λy z w=>(mL t).T k y&&((mL e).E k z&&(mL i).E k w)) λk x=>GU x λy z w=>(mL t).T k y&&((mL e).T k z&&(mL i).T k w)
 |.call f es=>.ofV λk x=>rn x λn xs=>p.G.nm.fnm[f]?==some (some n)&&(nv k n&&(xs.all mT&&(mL es).L k xs))
 |.meth e m es=>.ofV λk x=>xr x λy nm xs=>p.S[m]?==some nm&&((mL e).E k y&&(mL es).L k xs)
 |.bi b e=>.ofV λk x=>rn x λn xs=>n==b.nm&&(nv k n&&qi xs λy=>mT y&&(mL e).E k y)
 |.bm m e es=>.ofE λk x=>xr x λy nm xs=>nm==m.name&&((mL e).E k y&&(mL es).L k xs)
 |.new cl=>.ofE λk x=>rn x λn xs=>xs.isEmpty&&(p.G.nm.cnm[cl]?==some n&&(nv k n&&(p.G.P.init cl).isSome))
 |.fstr n es=>.ofE λk x=>vD x λparts=>decide (2<=parts.length)&&(decide (n<=10000)&&xF parts λRp n'=>decide (n=n')&&(decide (Rp.length<=50)&&(mL es).L k Rp))
 |.inEach Rt j=>.ofE λk x=>xu x λy gs sc=>qi gs λg=>decide (g.is_async=0)&&(g.ifs.isEmpty&&(uv g.iter&&(decide (sc.kind=.function)&&((mL Rt).E k g.iter&&
   yN y λu os zs=>decide (os=[.In])&&qi zs λz=>oq u λone=>oq z λleft=>oq g.target λU8=>decide (U8=one)&&(qe k sc.names [(left,j)] []&&(decide ((ny k sc.names).lookup one=some .local)&&(!pC.contains one&&!pC.contains left)))))))
 |.comp t Rt cond RF=>.ofE λk x=>xu x λy gs sc=>qi gs λg=>
   decide (g.is_async=0)&&(uv g.iter&&(decide (sc.kind=.function)&&(qe k sc.names (ta k sc.names ((qW g.target).zip (nZ t))) (nZ t)&&
    (Lv k sc.names ((qW g.target).zip (nZ t)) (ta k sc.names ((qW g.target).zip (nZ t)))&&(wS ((qW g.target).zip (nZ t)) t g.target&&((mL Rt).I k g.target g.iter&&
    (((g.ifs.isEmpty&&(mL cond).isNil)||qi g.ifs λz=>(mL cond).T ⟨ny k sc.names,ta k sc.names ((qW g.target).zip (nZ t))⟩ z)&&
     (mL RF).E ⟨ny k sc.names,ta k sc.names ((qW g.target).zip (nZ t))⟩ y)))))))
 |.rng es=>.ofI λk Z x=>rn x λn xs=>n=="range" && (nv k n&&(xs.all mT&&(mL es).L k xs))
 |.zip e i=>.ofI λk t x=>rq t λZ=>rn x λn xs=>n=="zip" && (nv k n&&wq xs λy z=>mT y&&(mT z&&((mL e).E k y&&(mL i).E k z)))
end
structure Kl(p:zu)(W:Wd):Prop where
 gl:oS p.G W p.mg p.mb
 ok:nO W p.G.P
 sS:W.S=p.S
 hK:p.K.In W.base
 cf:∀c,pw p.K (W.cls c) p.attrs
 fnAt:∀f x,p.G.nm.fnm[f]?=some (some x)->∃o fd,W.base.get? (p.G.fnA f)=some o/\o.data=.func fd
 meth:∀k nm cl f,W.S[k]?=some nm->p.G.P.meth cl k=some f->(dQ p.K (.ref (W.cls cl)) nm=some (some (.ref (p.G.fnA f)))/\jH p.K (.ref (p.G.fnA f))=some (.type "function"))/\∃o fd,W.base.get? (p.G.fnA f)=some o/\o.data=.func fd
 init:∀cl f,p.G.P.init cl=some f->makesIn p.K (W.cls cl)=true/\dQ p.K (.ref (W.cls cl)) "__init__" = some (some (.ref (p.G.fnA f)))/\jH p.K (.ref (p.G.fnA f))=some (.type "function")
 kf:Kf W p.K p.mg p.mb
structure ID(p:zu)(W:Wd)(d:Nat)(C:Bool->Call):Prop extends Kl p W where
 ck:sZ p.G.fnA W d C
def zz(p:zu)(W:Wd)(d:Nat)(C:Bool->Call):Prop:=∀ws:List al,(∀a∈ws,W.base.get? a=none)->ID p (W.hides ws) d C
section
variable {p:zu}{W:Wd}{d:Nat}{C:Bool->Call}{c:Cx}{q:Bool}{A:bc}
theorem zz.now(h:zz p W d C):ID p W d C:=h [] λZ hm=>nomatch hm
theorem yu(W:Wd)(ws vs:List al):(W.hides ws).hides vs=W.hides (vs++ws):=
 congrArg (λl=>{W with hid:=l}) (ba vs ws W.hid).symm
theorem zz.hides(h:zz p W d C)(hw:∀a∈ws,W.base.get? a=none):zz p (W.hides ws) d C:=λvs hv=>by
 rw[yu];exact h _ λa ha=>(aH.mp ha).elim (hv a) (hw a)
structure uC(p:zu)(d:Nat)(C:Bool->Call)(W:Wd)(c:Cx)(q:Bool)(A:bc):Prop where
 env:zz p W d C
 ar:n0 A c q d
 kind:c.env.scope.kind=.function
theorem uC.now(a:uC p d C W c q A):ID p W d C:=a.env.now
theorem A8{c:Cx}{vs:List (a9×Nat)}(hk:c.env.scope.kind=.function):(c.comp scope vs L).ck=⟨ny c.ck scope.names,vs⟩:=
 congrArg (Ck.mk · vs) (pJ (vars:=c.vars) hk)
theorem uC.comp(a:uC p d C W c q A){vs:List (a9×Nat)}(hw:∀a∈ws,W.base.get? a=none)(hk:scope.kind=.function):uC p d C (W.hides ws) (c.comp scope vs L) q A:=⟨a.env.hides hw,a.ar.comp,hk⟩
section
variable (p:zu)(d:Nat)(C:Bool->Call)
def F0(e:MX)(f:Ck->aa->Bool):Prop:=∀{W:Wd} {c:Cx} {q:Bool} {A:bc},uC p d C W c q A->∀{y:aa},f c.ck y=true->mz p.G.P W c q A (C q) e y
def Kw(e:MX)(f:Ck->aa->Bool):Prop:=∀{W:Wd} {c:Cx} {q:Bool} {A:bc},uC p d C W c q A->∀{y:aa},f c.ck y=true->oI p.G.P W c q A (C q) e y
def PB(e:MX)(f:Ck->List aa->Bool):Prop:=∀{W:Wd} {c:Cx} {q:Bool} {A:bc},uC p d C W c q A->∀{y:List aa},f c.ck y=true->nz p.G.P W c q A (C q) e y
def Kv(e:MX)(f:Ck->List aa->Bool):Prop:=∀{W:Wd} {c:Cx} {q:Bool} {A:bc},uC p d C W c q A->∀{y:List aa},f c.ck y=true->pA p.G.P W c q A (C q) e y
def Ku(e:MX)(f:Ck->aa->aa->Bool):Prop:=∀{W:Wd} {c:Cx} {q:Bool} {A:bc},uC p d C W c q A->q=false->∀{t y:aa},f c.ck t y=true->uX p.G.P W c q A (C q) t e y
structure BJ(e:MX)(x:xW):Prop where
 E:F0 p d C e x.E
 T:Kw p d C e x.T
 L:PB p d C e x.L
 LT:Kv p d C e x.LT
 I:Ku p d C e x.I
 nil:x.isNil=true->e=.nil
end
theorem BJ.ofET{f g:Ck->aa->Bool}(hp:∀q ρ σ,dI p.G.P q (C q) e ρ σ=(dE p.G.P q (C q) e ρ σ).bind uD)(h:F0 p d C e f)(k:Kw p d C e g):BJ p d C e (.ofET f g):=
 ⟨h,k,λZ Z=>ma,λZ Z=>ma,λa hq Z Z x=>Gw (a.ar.handled hq) (hp _) (h a x),ma⟩
theorem BJ.ofE{f:Ck->aa->Bool}(hp:∀q ρ σ,dI p.G.P q (C q) e ρ σ=(dE p.G.P q (C q) e ρ σ).bind uD)(h:F0 p d C e f):BJ p d C e (.ofE f):=.ofET hp h λZ Z=>ma
theorem BJ.ofV{f:Ck->aa->Bool}(hp:∀q ρ σ,dI p.G.P q (C q) e ρ σ=(dE p.G.P q (C q) e ρ σ).bind uD)(hv:∀q ρ σ,dT p.G.P q (C q) e ρ σ=(dE p.G.P q (C q) e ρ σ).bind λv σ=>R.of (pe v) σ)(h:F0 p d C e f):
  BJ p d C e (.ofV f):=.ofET hp h λa Z x=>Pe (b2 x).1 (h a (b2 x).2) (hv _)
theorem BJ.ofI{f:Ck->aa->aa->Bool}(h:Ku p d C e f):BJ p d C e (.ofI f):=⟨λZ Z=>ma,λZ Z=>ma,λZ Z=>ma,λZ Z=>ma,h,ma⟩
end
section
variable {p:zu}{d:Nat}{C:Bool->Call}
theorem Ec{P:Pg}{c:Cx}{q:Bool}{Cq:Call}{v:V}{x:aa}(h:Lu W.S v x=true):mz P W c q A Cq (.lit v) x:=by
 refine (yi h).elim (λh=>?_) λh=>(yi h).elim (λh=>?_) λh=>(yi h).elim (λh=>?_) λh=>?_
 .refine pQ h λh1 h=>qS h λcc k p h=>?_;refine mF (bT.mp h1) λu e1=>?_;rw[ua e1,Do h];exact Ja
 .refine l8 (oU h) λb e1 h=>?_;rw[pL e1];refine qS h λcc k p h=>?_;rw[Dn (eq_of_beq h)];exact I4
 .refine l8 (oU h) λi e1 h=>?_;rw[m6 e1];refine (yi h).elim (λh=>qS h λcc k p h=>?_) λh=>Ag h λo y p h=>pQ h λh1 h=>?_
  .rw[A5 (eq_of_beq h)];exact K0
  .rw[of_decide_eq_true h1];apply qS h;intro cc k p' h';rw[A5 (eq_of_beq h')];have:=K8 (P:=P) (W:=W) (c:=c) (q:=q) (A:=A) (C:=Cq) (i:=-i) (k:=k) (p:=p') (pos:=p);rw[Int.neg_neg] at this;exact this
 .refine l8 (oU h) λk e1 h=>?_;rw[qm e1];exact xy h λs kd p h=>Lb (eq_of_beq h)
theorem Ds{g:fj}(h:g.is_async=0):g=⟨g.target,g.iter,g.ifs,0⟩:=by
 obtain ⟨t,i,f,a⟩:=g;exact congrArg (l6 t i f) h
theorem CF{x:xW}(s:BJ p d C cond x){c:Cx}{q:Bool}(a:uC p d C W c q A){k:Ck}(hk:c.ck=k)(h:((ifs.isEmpty&&x.isNil)||qi ifs λz=>x.T k z)=true):qt p.G.P W c q A (C q) cond ifs:=
 (yi h).elim (λh=>pQ h λh1 h2=>sd h1 (s.nil h2▸.nil)) λh=>oR h λz h=>.one (s.T a (hk▸h))
structure Px(p:zu)(d:Nat)(C:Bool->Call)(W:Wd)(c:Cx)(q:Bool)(A:bc)(t Rt cond RF:MX)(x y:aa)(g:fj)(sc:fP)(pos:cV):Prop where
 eq:x=.ListComp y [⟨g.target,g.iter,g.ifs,0⟩] sc pos
 ok:q=false->wK p.G.P W c A C t Rt cond RF g.target g.iter y g.ifs sc
theorem A9(s1:BJ p d C Rt (mL p.toLg Rt))(s2:BJ p d C cond (mL p.toLg cond))(s3:BJ p d C RF (mL p.toLg RF)){c:Cx}{q:Bool}(a:uC p d C W c q A){P:aa->Prop}{x:aa}(h:(mL p.toLg (.comp t Rt cond RF)).E c.ck x=true)(k:∀y t' it ifs sc pos,(q=false->wK p.G.P W c A C t Rt cond RF t' it y ifs sc)->P (.ListComp y [⟨t',it,ifs,0⟩] sc pos)):P x:=
 yO h λy gs sc pos h=>oR (P:=λgs=>P (.ListComp y gs sc pos)) h λ⟨t',it,ifs,as⟩ h=>KF h λh1 h2 h3 h4 h=>Dh h λh5 h6 h7 h=>pQ h λh8 h9=>
  rU (P:=λas=>P (.ListComp y [⟨t',it,ifs,as⟩] sc pos)) h1 (k y t' it ifs sc pos λhq=>by
   subst hq;have hk:sc.kind=.function:=of_decide_eq_true h3
   exact⟨h2,hk,⟨_,_,h4,GH h5,h6,λws L hw=>CF s2 (a.comp hw hk) (A8 a.kind) h8,λws L hw=>s3.E (a.comp hw hk) (by rw[A8 a.kind];exact h9)⟩,s1.I a rfl h7⟩)
theorem snd:∀e:MX,BJ p d C e (mL p.toLg e):=by
 intro e
 induction e with
 |nil=>exact⟨λZ Z=>ma,λZ Z=>ma,λZ Z h=>sd h .nil,λZ Z h=>sd h .nil,λZ Z Z Z=>ma,λZ=>rfl⟩
 |cons e es ih1 ih2=>
  exact⟨λZ Z=>ma,λZ Z=>ma,λa Z h=>oh h λx xs h=>pQ h λh1 h2=>.cons (ih1.E a h1) (ih2.L a h2),λa Z h=>oh h λx xs h=>pQ h λh1 h2=>.cons (ih1.T a h1) (ih2.LT a h2),λZ Z Z Z=>ma,ma⟩
 |lit v=>exact .ofV (λZ Z Z=>rfl) (λZ Z Z=>rfl) λa Z h=>Ec (a.now.sS▸h)
 |glob g=>exact .ofE (λZ Z Z=>rfl) λa y h=>nx h λn p h=>pQ h λh1 h2=>I8 a.now.gl (eq_of_beq h1) h2
 |var i=>exact .ofV (λZ Z Z=>rfl) (λZ Z Z=>rfl) λa y h=>nx h λn p h=>Ld h
 |tup es ih=>exact .ofE (λZ Z Z=>rfl) λa y h=>qT h λxs k p h=>pQ h λh1 h2=>Lc h1 (ih.L a h2)
 |lst m es ih=>exact .ofE (λZ Z Z=>rfl) λa y h=>EQ h λxs p h=>pQ h λh1 h2=>K7 h1 (ih.L a h2)
 |dict ks es ih=>
  exact .ofE (λZ Z Z=>rfl) λa y h=>EK h λkeys xs p h=>Dh h λh1 h2 h3 h4=>I6 a.now.ok (ih.L a h4) (of_decide_eq_true h1) (of_decide_eq_true h2) (a.now.sS▸B7 h3)
 |attr e n ih=>
  exact .ofV (λZ Z Z=>rfl) (λZ Z Z=>rfl) λa y h=>sj h λy nm p h=>Dh h λh1 h2 h3 h4=>I3 a.now.ok a.now.hK a.now.cf h1 (a.now.sS▸eq_of_beq h2) (bx.mp h3) (ih.E a h4)
 |idx e i ih1 ih2=>
  exact .ofV (λZ Z Z=>rfl) (λZ Z Z=>rfl) λa y h=>xz h λy z p h=>u4 h λh1 h2 h3=>KZ a.now.ok h1 (ih1.E a h2) (ih2.E a h3)
 |upto e i ih1 ih2=>
  exact .ofE (λZ Z Z=>rfl) λa y h=>xz h λy z p h=>Co (P:=λz=>mz _ _ _ _ _ _ _ (.Subscript y z p)) h λlo up st p' h=>u4 h λh1 h2 h3=>xk (P:=λlo=>mz _ _ _ _ _ _ _ (.Subscript y (.Slice lo up st p') p)) h1
   (xk (P:=λst=>mz _ _ _ _ _ _ _ (.Subscript y (.Slice none up st p') p)) h2 (ya (P:=λup=>mz _ _ _ _ _ _ _ (.Subscript y (.Slice none up none p') p)) h3 λw h=>pQ h λh1 h2=>Jb _ _ (ih1.E a h1) (ih2.E a h2)))
 |bin op e i ih1 ih2=>
  exact .ofE (λZ Z Z=>rfl) λa y h=>GQ h λy o z p h=>u4 h λh1 h2 h3=>rU (P:=λo=>mz _ _ _ _ _ _ _ (.BinOp y o z p)) h1 (KW a.now.ok (ih1.E a h2) (ih2.E a h3))
 |cmp op e i ih1 ih2=>
  exact .ofET (λZ Z Z=>rfl) (λa y h=>xt h λy os zs p h=>pQ h λh1 h=>oR (P:=λzs=>mz _ _ _ _ _ _ _ (.Compare y os zs p)) h λz h=>u4 h λh2 h3 h4=>rU (P:=λos=>mz _ _ _ _ _ _ _ (.Compare y os [z] p)) h1 (KY a.now.ok a.ar h2 (ih1.E a h3) (ih2.E a h4)))
   λa y h=>xt h λy os zs p h=>pQ h λh1 h=>oR (P:=λzs=>oI _ _ _ _ _ _ _ (.Compare y os zs p)) h λz h=>u4 h λh2 h3 h4=>rU (P:=λos=>oI _ _ _ _ _ _ _ (.Compare y os [z] p)) h1 (Pa a.now.ok a.ar h2 (ih1.E a h3) (ih2.E a h4))
 |not e ih=>
  exact .ofET (λZ Z Z=>rfl) (λa y h=>Ag h λo y p h=>pQ h λh1 h2=>rU (P:=λo=>mz _ _ _ _ _ _ _ (.UnaryOp o y p)) h1 (La (ih.E a h2)))
   λa y h=>Ag h λo y p h=>pQ h λh1 h2=>rU (P:=λo=>oI _ _ _ _ _ _ _ (.UnaryOp o y p)) h1 (Pc (ih.T a h2))
 |and es ih=>
  exact .ofET (λZ Z Z=>rfl) (λa y h=>tD h λo xs p h=>pQ h λh1 h2=>rU (P:=λo=>mz _ _ _ _ _ _ _ (.BoolOp o xs p)) h1 (KV (ih.L a h2)))
   λa y h=>tD h λo xs p h=>pQ h λh1 h2=>rU (P:=λo=>oI _ _ _ _ _ _ _ (.BoolOp o xs p)) h1 (O8 (ih.LT a h2))
 |or es ih=>
  exact .ofET (λZ Z Z=>rfl) (λa y h=>tD h λo xs p h=>pQ h λh1 h2=>rU (P:=λo=>mz _ _ _ _ _ _ _ (.BoolOp o xs p)) h1 (PQ (ih.L a h2)))
   λa y h=>tD h λo xs p h=>pQ h λh1 h2=>rU (P:=λo=>oI _ _ _ _ _ _ _ (.BoolOp o xs p)) h1 (QO (ih.LT a h2))
 |ite t e i ih0 ih1 ih2=>
  exact .ofET (λZ Z Z=>rfl) (λa y h=>EP h λy z w p h=>u4 h λh1 h2 h3=>K6 (ih0.T a h1) (ih1.E a h2) (ih2.E a h3))
   λa y h=>EP h λy z w p h=>u4 h λh1 h2 h3=>Pb (ih0.T a h1) (ih1.T a h2) (ih2.T a h3)
 |call f es ih=>
  exact .ofV (λZ Z Z=>rfl) (λZ Z Z=>rfl) λa y h=>qb h λn p xs pos h=>Dh h λh1 h2 h3 h4=>I5 a.now.gl a.now.ck a.ar (eq_of_beq h1) h2 (a.now.fnAt _ _ (eq_of_beq h1)) h3 (ih.L a h4)
 |meth e m es ih1 ih2=>
  refine .ofV (λZ Z Z=>rfl) (λZ Z Z=>rfl) λa y h=>wm h λy nm ap xs pos l pb ns len h=>u4 h λh1 h2 h3=>?_;have hS:=a.now.sS▸eq_of_beq h1;exact I9 (C:=C) (fnA:=p.G.fnA) a.now.ok a.now.hK a.now.cf a.now.ck a.ar hS (λcl f hm=>a.now.meth m _ cl f hS hm) pb ns len l (ih1.E a h2) (ih2.L a h3)
 |bi bb e ih=>
  refine .ofV (λZ Z Z=>rfl) (λZ Z Z=>rfl) λa y h=>qb h λn p xs pos h=>u4 h λh1 h2 h=>?_;rw[eq_of_beq h1] at h2 ⊢;apply oR h;exact λy h=>pQ h λh3 h4=>PO a.now.gl a.now.ok a.ar (A4 bb).2 (A4 bb).1 h2 h3 (ih.E a h4)
 |bm m e es ih1 ih2=>
  refine .ofE (λZ Z Z=>rfl) λa y h=>wm h λy nm ap xs pos l pb ns len h=>u4 h λh1 h2 h3=>?_;rw[eq_of_beq h1];exact PP a.now.ok pb ns len l (ih1.E a h2) (ih2.L a h3)
 |new cl=>
  refine .ofE (λZ Z Z=>rfl) λa y h=>qb h λn p' xs pos h=>Dh h λh1 h2 h3 h4=>?_;refine mF (bT.mp h4) λf hf=>?_;have m:=a.now.init cl f hf;rw[mP h1];exact K9 (C:=C) (fnA:=p.G.fnA) a.now.gl a.now.hK a.now.ck a.ar (eq_of_beq h2) h3 hf m.1 m.2.1 m.2.2
 |fstr n es ih=>
  exact .ofE (λZ Z Z=>rfl) λa y h=>Ac h λparts p h=>u4 h λh1 h2 h=>Al h λRp n' pa h=>u4 h λh3 h4 h5=>I7 a.now.ok (of_decide_eq_true h3▸pa) (of_decide_eq_true h1) (of_decide_eq_true h2) (of_decide_eq_true h4) (ih.L a h5)
 |inEach Rt j ih=>
  refine .ofE (λZ Z Z=>rfl) λa y h=>yO h λy gs sc pos h=>?_;apply oR h;refine λg h=>KF h λh1 h2 h3 h4 h=>pQ h λh5 h=>?_;rw[Ds (of_decide_eq_true h1),mP h2];apply xt h;refine λu os zs p3 h=>pQ h λh6 h=>?_;rw[of_decide_eq_true h6];apply oR h;intro z h;apply nx h;intro one p1 h;apply nx h;intro left p2 h;refine nx (P:=λt=>mz _ _ _ _ _ _ _ (.ListComp _ [⟨t,g.iter,[],0⟩] sc pos)) h λU8 p4 h=>KF h λh7 h8 h9 Yt Ys=>?_;rw[of_decide_eq_true h7];exact DF a.now.ok a.ar h3 (of_decide_eq_true h4) h8 (of_decide_eq_true h9) Yt Ys (ih.E a h5)
 |comp t Rt cond RF ih0 ih1 ih2 ih3=>
  exact .ofE (λZ Z Z=>rfl) λa y h=>A9 ih1 ih2 ih3 a h λy t' it ifs sc pos k=>DE a.ar k
 |rng es ih=>
  refine .ofI λa hq t y h=>qb h λn p xs pos h=>Dh h λh1 h2 h3 h4=>?_;rw[eq_of_beq h1] at h2 ⊢;exact Lm (a.ar.handled hq) a.now.gl h2 h3 (ih.L a h4)
 |zip e i ih1 ih2=>
  refine .ofI λa hq t y h=>?_;apply qT h;refine λts k tp h=>qb h λn p xs pos h=>u4 h λh1 h2 h=>?_;rw[eq_of_beq h1] at h2 ⊢;apply xB h;exact λy z h=>Dh h λh3 h4 h5 h6=>Ln (a.ar.handled hq) a.now.gl h2 h3 h4 (ih1.E a h5) (ih2.E a h6)
end
noncomputable def A1:MX->Option (MX×Nat)
 |.attr e m=>some (e,m)
 |_=>none
theorem zE{r:MX×Nat}:A1 t=some r->t=.attr r.1 r.2:=by cases t<;>first | exact mr | exact λh=>congrArg (λr:MX×Nat=>MX.attr r.1 r.2) (am h)
noncomputable def DS:MX->Option (MX×MX)
 |.idx e m=>some (e,m)
 |_=>none
theorem B1{r:MX×MX}:DS t=some r->t=.idx r.1 r.2:=by cases t<;>first | exact mr | exact λh=>congrArg (λr:MX×MX=>MX.idx r.1 r.2) (am h)
noncomputable def A6:MX->Bool
 |.comp ..=>true
 |_=>false
theorem zI:A6 t=true->∃a b c e,t=.comp a b c e:=by cases t<;>first | exact ma | exact λZ=>⟨_,_,_,_,rfl⟩
noncomputable def Be:MX->Bool
 |.lit v=>(sP v).isSome
 |_=>false
theorem zP:Be t=true->t=.lit .none:=by cases t<;>first | exact ma | exact λh=>congrArg MX.lit ((bT.mp h).elim λZ h=>ua h)
section
variable (p:Lg)
noncomputable def IZ(k:Ck)(t:MX)(x:aa):Bool:=
 ((A1 t).any λr=>sR x λy nm Z=>p.S[r.2]?==some nm&&(p.attrs.contains nm&&(mL p r.1).E k y))||(DS t).any λr=>yR x λy z=>(mL p r.1).E k y&&(mL p r.2).E k z
noncomputable def KN(k:Ck)(t:MX)(x:aa):Bool:=((zg t).any λi=>oq x λn=>k.vars.lookup n==some i)||IZ p k t x
noncomputable def yk(k:Ck):List MX->List aa->Bool
 |[],xs=>xs.isEmpty
 |t::ts,xs=>nX xs λx xs=>KN p k t x&&yk k ts xs
noncomputable def sV:MX->Option (List MX)
 |.nil=>some []
 |.cons t ts=>(sV ts).map (t::·)
 |_=>none
noncomputable def JX(k:Ck)(tt:MX)(ns:List a9):Bool:=(rA tt).any λis=>decide (is.map some=ns.map λn=>k.vars.lookup n)&&decide is.Nodup
noncomputable def HN(k:Ck)(t e:MX)(z x:aa):Bool:=
 (mL p e).E k x&&(((zg t).any λi=>oq z λn=>k.vars.lookup n==some i&&(xj x||A6 e))||(((AC t).any λtt=>rq z λxs=>
  (Ez x&&(sV tt).any λts=>yk p k ts xs)||rq x λvs=>(Ir k.kinds xs vs).any λo=>(o.isNone&&(sV tt).any λts=>yk p k ts xs)||o.any λns=>JX k tt ns)||IZ p k t z))
structure FT where
 X:Ck->Stmt->Bool
 S:Ck->List Stmt->Bool
noncomputable def FT.ofX(f:Ck->Stmt->Bool):FT:=⟨f,λZ Z=>false⟩
noncomputable def wo(h:ExceptHandler)(f:Option aa->Option a9->List Stmt->Bool):Bool:=lQ (motive_4:=λZ=>Bool) h λt n b Z=>f t n b
theorem yQ{h:ExceptHandler}{f:Option aa->Option a9->List Stmt->Bool}{P:ExceptHandler->Prop}(e:wo h f=true)(k:∀t n b p,f t n b=true->P (.ExceptHandler t n b p)):P h:=by
 cases h with
 |ExceptHandler t n b p=>exact k t n b p e
noncomputable def s9:MS->FT
 |.hole=>⟨λZ Z=>true,λZ Z=>true⟩
 |.skip=>⟨λZ st=>Ae st λZ=>true,λZ l=>l.isEmpty⟩
 |.seq a b=>⟨λZ Z=>false,λk l=>nX l λst r=>(s9 a).X k st&&(s9 b).S k r⟩
 |.expr e=>.ofX λk st=>xv st λx=>xj x&&(mL p e).E k x
 |.asg t e=>.ofX λk st=>tC st λzs x=>qi zs λz=>HN p k t e z x
 |.aug i e=>.ofX λk st=>EG st λz o x=>decide (o=.Add)&&oq z λn=>isVar k i n&&(mL p e).E k x
 |.ret e=>.ofX λk st=>vE st λo=>(o.any λx=>(mL p e).E k x)||(o.isNone&&Be e)
 |.iff c a b=>.ofX λk st=>EO st λz l r=>(mL p c).T k z&&((s9 a).S k l&&(s9 b).S k r)
 |.whl c b=>.ofX λk st=>xC st λz l r=>r.isEmpty&&((mL p c).T k z&&(s9 b).S k l)
 |.for t it b=>.ofX λk st=>EM st λtarget iter l r=>r.isEmpty&&(uv iter&&(wS k.vars t target&&((mL p it).I k target iter&&(s9 b).S k l)))
 |.raise a b=>.ofX λk st=>onRaise st λo c=>c.isNone&&o.any λx=>rn x λn xs=>n=="KindFault" && (nv k n&&wq xs λx z=>mT x&&(mT z&&((mL p a).E k x&&(mL p b).E k z)))
 |.tryf a b=>.ofX λk st=>Bq st λl hs o f=>hs.isEmpty&&(o.isEmpty&&((s9 a).S k l&&(nX f λZ Z=>true)&&(s9 b).S k f))
 |.tryx a b=>.ofX λk st=>Bq st λl hs o f=>o.isEmpty&&(f.isEmpty&&((s9 a).S k l&&qi hs λh=>wo h λt n g=>n.isNone&&((nX g λZ Z=>true)&&((s9 b).S k g&&t.any λx=>oq x λm=>m=="KindFault" && nv k m))))
end
section
variable {p:zu}{d:Nat}{C:Bool->Call}{W:Wd}{c:Cx}{q:Bool}{A:bc}
theorem Kf.ok(x:Kf W K mg mb):Kq W:=x.facts.cls.elim λcp y=>⟨cp,_,y.1,y.2.1⟩
structure Ra(p:zu)(d:Nat)(C:Bool->Call)(W:Wd)(c:Cx)(q:Bool)(A:bc)(t:MX)(z:aa):Prop where
 spec:uo p.G.P W c q A (C q) t z
 plain:wM z
 swaps:∀x l,ez x (some z) l c.env=pure false
 stores:∀x,eo [z] x c.env=pure none
theorem JW(a:uC p d C W c q A){z:aa}(h:IZ p.toLg c.ck t z=true):Ra p d C W c q A t z:=by
 refine (yi h).elim (λh=>?_) λh=>?_
 .refine l8 (oU h) λr e h=>?_;rw[zE e];exact sj h λy nm pos h=>u4 h λh1 h2 h3=>⟨IQ a.now.ok a.now.hK a.now.cf (a.now.sS▸eq_of_beq h1) (bx.mp h2) ((snd _).E a h3),λZ Z=>rfl,λZ l=>Ay l _,λZ=>rfl⟩
 .refine l8 (oU h) λr e h=>?_;rw[B1 e];exact xz h λy z pos h=>pQ h λh1 h2=>⟨KB a.now.ok ((snd _).E a h1) ((snd _).E a h2),λZ Z=>rfl,λZ l=>CI l _,λZ=>rfl⟩
theorem O2(a:uC p d C W c q A){z:aa}(h:KN p.toLg c.ck t z=true):uo p.G.P W c q A (C q) t z/\wM z:=by
 refine (yi h).elim (λh=>?_) λh=>⟨(JW a h).spec,(JW a h).plain⟩;refine l8 (oU h) λi e h=>?_;rw[tN e];apply nx h;exact λn pos h=>⟨KD (eq_of_beq h),λZ Z=>rfl⟩
theorem vH{tt:MX}{ts:List MX}:sV tt=some ts->(tt=.nil/\ts=[])\/∃e es r,tt=.cons e es/\ts=e::r/\sV es=some r:=by
 cases tt with
 |nil=>exact λh=>.inl ⟨rfl,(am h).symm⟩
 |cons e es=>exact λh=>(ms h).elim λr h=>.inr ⟨e,es,r,rfl,h.2.symm,h.1⟩
 |_=>exact mr
theorem O3(a:uC p d C W c q A){ts:List MX}:∀{tt:MX} {xs:List aa},sV tt=some ts->yk p.toLg c.ck ts xs=true->qE p.G.P W c q A (C q) tt xs:=by
 induction ts with
 |nil=>
  intro tt xs e h;refine (vH e).elim (λe=>?_) λ⟨_,_,_,_,e,_⟩=>nomatch e;rw[e.1];exact sd h .nil
 |cons t ts ih=>
  intro tt xs e h
  rcases vH e with ⟨_,e⟩ | ⟨e1,es,r,e2,e3,e4⟩
  .exact nomatch e
  .have e5:=dp e3;rw[e2,<-e5.1];exact oh h λx xs' h=>pQ h λh1 h2=>.cons (O2 a h1).2 (O2 a h1).1 (ih (e4.trans (congrArg some e5.2.symm)) h2)
theorem He(a:uC p d C W c q A){z x:aa}(h:HN p.toLg c.ck t e z x=true):n9 p.G.P W c q A C (.asg t e) (.Assign [z] x pos):=by
 refine pQ h λhe h=>?_;have hE:mz p.G.P W c q A (C q) e x:=(snd _).E a he;refine (yi h).elim (λh=>?_) λh=>(yi h).elim (λh=>?_) λh=>?_
 .refine l8 (oU h) λi e1 h=>?_;rw[tN e1];apply nx h;refine λn pn h=>pQ h λh1 h2=>(yi h2).elim (λhc=>ww (eq_of_beq h1) (vM hc ..) hE) λhc=>?_;refine GO (zI hc) λt Rt cond RF e3=>?_;rw[e3] at he ⊢;apply A9 (snd _) (snd _) (snd _) a he;exact λy t' it ifs sc TW k=>Cz a.ar (eq_of_beq h1) k
 .refine l8 (oU h) λtt e1 h=>?_;rw[wE e1];apply qT h;intro xs k pz h;have plain:∀{ts},sV tt=some ts->yk p.toLg c.ck ts xs=true->eo [.Tuple xs k pz] x c.env=pure none->n9 p.G.P W c q A C (.asg (.tup tt) e) (.Assign [.Tuple xs k pz] x pos):=λe3 h3 hw=>
   Io (wB _ _) (λZ Z=>rfl) hw (KC a.ar.handled (O3 a e3 h3)) hE
  refine (yi h).elim (λh=>pQ h λh1 h=>(oU h).elim λts h3=>plain h3.1 h3.2 (Ax h1)) λh=>?_;have hs:swapsWithSole [.Tuple xs k pz] x pos.line c.env=pure false:=wB (k:=k) (p:=pz) (ts:=xs) pos.line c.env
  revert hE plain hs
  apply qT h;intro vs k' px h hE plain hs;refine l8 (oU h) λo e5 h=>?_;refine (yi h).elim (λh=>pQ h λh1 h=>(oU h).elim λts h3=>plain h3.1 h3.2 (y4 a.kind (pY h1▸e5))) λh=>?_;refine l8 (oU h) λns e6 h=>?_;refine l8 (oU h) λis e7 h=>?_;rw[e6] at e5;exact pQ h λh1 h2=>JS a.ar.handled e7 (of_decide_eq_true h1) (of_decide_eq_true h2) hs (y4 a.kind e5) hE
 .have T:=JW a h;exact Io (T.swaps _ _) T.plain (T.stores _) T.spec hE
structure IN(p:zu)(d:Nat)(C:Bool->Call)(b:MS)(x:FT):Prop where
 X:∀{W:Wd} {c:Cx} {q:Bool} {A:bc},uC p d C W c q A->∀{st:Stmt},x.X c.ck st=true->n9 p.G.P W c q A C b st
 S:∀{W:Wd} {c:Cx} {q:Bool} {A:bc},uC p d C W c q A->∀{l:List Stmt},x.S c.ck l=true->qd p.G.P W c q A C b l
theorem IN.ofX{b:MS}{f:Ck->Stmt->Bool}(h:∀{W:Wd} {c:Cx} {q:Bool} {A:bc},uC p d C W c q A->∀{st:Stmt},f c.ck st=true->n9 p.G.P W c q A C b st):IN p d C b (.ofX f):=⟨h,λZ Z=>ma⟩
theorem uC.hides(a:uC p d C W c q A)(hw:∀a∈ws,W.base.get? a=none):uC p d C (W.hides ws) c q A:=⟨a.env.hides hw,a.ar,a.kind⟩
theorem uC.mark(a:uC p d C W c q A)(e:ae):uC p d C W c true (A.mark (some e)):=⟨a.env,a.ar.mark e,a.kind⟩
theorem QN:∀b:MS,IN p d C b (s9 p.toLg b):=by
 intro b
 induction b with
 |hole=>exact⟨λa st h ρ φ σ s Q E H h=>h.elim,λa l h ρ φ σ s Q E H h=>h.elim⟩
 |skip=>exact⟨λa st h=>ER h λpos Z=>JQ,λa l h=>sd h JR⟩
 |seq x y ih1 ih2=>exact⟨λZ Z=>ma,λa l h=>oh h λst r h=>pQ h λh1 h2=>O0 (ih1.X a h1) (ih2.S a h2)⟩
 |expr e=>exact .ofX λa st h=>yP h λx pos h=>pQ h λh1 h2=>JP h1 ((snd _).E a h2)
 |asg t e=>exact .ofX λa st h=>vB h λzs x pos h=>oR (P:=λzs=>n9 _ _ _ _ _ _ _ (.Assign zs x pos)) h λz h=>He a h
 |aug i e=>
  refine .ofX λa st h=>GP h λz o x pos h=>pQ h λh1 h=>?_;rw[of_decide_eq_true h1];apply nx h;exact λn pn h=>pQ h λh1 h2=>OX h1 ((snd _).E a h2)
 |ret e=>
  refine .ofX λa st h=>Af h λo pos h=>(yi h).elim (λh=>ya (P:=λo=>n9 _ _ _ _ _ _ _ (.Return o pos)) h λx h=>OZ ((snd _).E a h)) λh=>pQ h λh1 h2=>xk (P:=λo=>n9 _ _ _ _ _ _ _ (.Return o pos)) h1 ?_;rw[zP h2];exact CA
 |iff c x y ih1 ih2=>exact .ofX λa st h=>GV h λz l r pos h=>u4 h λh1 h2 h3=>QM ((snd _).T a h1) (ih1.S a h2) (ih2.S a h3)
 |whl c y ih=>exact .ofX λa st h=>Cr h λz l r pos h=>u4 h λh1 h2 h3=>sd (P:=λr=>n9 _ _ _ _ _ _ _ (.While z l r pos)) h1 (Hd a.ar (λZ=>(snd _).T a h2) λZ=>ih.S a h3)
 | «for» t it y ih=>
  exact .ofX λa st h=>GS h λtarget iter l r pos h=>KF h λh1 h2 h3 h4 h5=>sd (P:=λr=>n9 _ _ _ _ _ _ _ (.For target iter l r pos)) h1 (OY a.ar h2 h3 (λhq=>(snd _).I a hq h4) λws hw=>ih.S (a.hides hw) h5)
 |raise x y=>
  refine .ofX λa st h=>Cm h λo c pos h=>pQ h λh1 h=>?_;rw[pY h1];apply ya h;intro x h;apply qb h;refine λn pn xs VF h=>u4 h λh2 h3 h=>?_;rw[eq_of_beq h2] at h3 ⊢;apply xB h;exact λu v h=>Dh h λh4 h5 h6 h7=>Hb a.now.gl a.now.kf a.ar h3 h4 h5 ((snd _).E a h6) ((snd _).E a h7)
 |tryf x y ih1 ih2=>
  refine .ofX λa st h=>Br h λl hs o f pos h=>u4 h λh1 h2 h=>pQ h λh h5=>pQ h λh3 h4=>?_;rw[mP h1,mP h2]
  revert h5
  apply oh h4;exact λf0 fs Z h5=>JT a.ar (λZ=>ih1.S a h3) (λZ=>ih2.S a h5) λe=>ih2.S (a.mark e) h5
 |tryx x y ih1 ih2=>
  refine .ofX λa st h=>Br h λl hs o f pos h=>Dh h λh1 h2 h3 h=>?_;rw[mP h1,mP h2];apply oR h;intro hd h;apply yQ h;refine λt n g ph h=>Dh h λh4 h5 h6 h=>?_;rw[pY h4]
  revert h6
  apply oh h5;intro g0 gs _ h6;apply ya h;intro u h;apply nx h;refine λm pm h=>pQ h λh7 h8=>?_;rw[eq_of_beq h7] at h8 ⊢;exact JU a.now.gl a.now.kf.ok a.ar h8 (λZ=>ih1.S a h3) λe=>ih2.S (a.mark e) h6
end
def C7(p:zu)(W:Wd):Prop:=∀f F,p.G.P.fn f=some F->∃kinds vars stmts,FW W (p.G.fnA f) F kinds vars stmts/\(s9 p.toLg F.body).S ⟨kinds,vars⟩ stmts=true
def HJ(p:zu)(W:Wd):Prop:=∀ws:List al,(∀a∈ws,W.base.get? a=none)->Kl p (W.hides ws)
theorem rD.opt{s:af}{o:Option α}{f:α->R Unit V}(h:rD W φ s (R.opt o f) R'):∃a,o=some a/\rD W φ s (f a) R':=by
 cases o with
 |none=>exact h.elim
 |some a=>exact⟨a,rfl,h⟩
theorem Gb{p:zu}(h:HJ p W)(hp:C7 p W):∀d:Nat,zz p W d (mu p.G.P d):=by
 intro d
 induction d with
 |zero=>exact λws hw=>⟨h ws hw,λZ Z Z Z hr=>hr.elim⟩
 |succ d ih=>
  refine λws hw=>⟨h ws hw,λpre frs inv r hr=>?_⟩;refine l8 (rD.opt hr) λF hf hr=>?_;refine nU (hp _ F hf) λkinds vars stmts Xp hc=>?_;have WU:FW (W.hides ws) (p.G.fnA _) F kinds vars stmts:=⟨Xp.ex.elim λd I=>⟨d,I.hf,I.hd,I.body,I.names,I.kind,I.co,I.gen,I.clo,I.gl,I.bu,I.cr,I.bind,I.chk⟩,Xp.nolimit⟩;exact J4 (W:=W.hides ws) (P:=p.G.P) (C:=mu p.G.P d) (d:=d) WU pre frs inv r (λ{c A} hck hk ar=>(QN F.body).S ⟨ih.hides hw,ar,hk⟩ (by rw[hck];exact hc)) hr
noncomputable def JY:List String:=["", "!=", "*", "+", "++", ", ", "-", "->", "..", "/\\", "<", "<-", "<->", "<=", "=", "==", ">", ">=", "\\/", "^", "a", "abs", "all_different", "alldifferent", "an array is no element", "append", "array", "array1d", "array2", "array2d", "array_intersect", "array_union", "asked", "asked_within", "asks", "assert", "assign", "assigned", "at_least", "at_most", "b", "bin", "bool", "bool2int", "call", "called", "calls", "card", "cells", "chain", "check", "check_item", "check_predicate", "chosen", "circuit", "comp", "compared", "concat", "constraint", "count", "cumulative", "d", "d0", "d1", "d2", "d3", "d4", "d5", "decl", "declared", "decreasing", "diff", "disjunctive", "div", "domain", "element", "else", "exactly", "exists", "extend", "extreme", "fix", "forall", "gathered", "gen", "generated", "get", "global_cardinality", "global_cardinality_low_up", "goes_through", "i", "if", "if without else", "iffall", "in", "increasing", "index", "index range", "index_set", "index_set_1of2", "index_set_2of2", "indexed", "insert", "int", "int_any", "intersect", "inverse", "is_shown", "j", "join", "joined", "kind", "kind_of", "known_set", "length", "let", "lex_greater", "lex_greatereq", "lex_less", "lex_lesseq", "listing_call", "m", "max", "maximum", "min", "minimize", "minimum", "mod", "name", "names", "none", "note_assigned", "note_predicate", "nothing", "nvalue", "of_all", "open_call", "ordered", "output", "p", "p0", "p1", "p2", "par", "place", "plain_kind", "pop", "pow", "predicate", "predicates", "product", "push", "put", "put_names", "put_together", "r", "range", "regular", "reverse", "rows of unlike lengths", "s", "satisfy", "scopes", "set", "set2array", "show", "solve", "sort", "sorts", "source", "str", "subset", "sum", "superset", "symdiff", "t", "table", "there are two solve items", "ts", "turned", "type_kind", "un", "union", "update", "v", "value_precede", "var", "var ", "w", "want_each", "where", "within", "x", "xor", "xorall", "y", "yb"]
noncomputable abbrev MX.i(n:Int):MX:=.lit (.int n)
noncomputable abbrev MX.s(n:Nat):MX:=.lit (.sym n)
noncomputable abbrev MX.v(n:Nat):MX:=.var n
noncomputable abbrev MX.c1(a:MX):MX:=.cons a .nil
noncomputable abbrev MX.c2(a b:MX):MX:=.cons a (.cons b .nil)
noncomputable abbrev MX.c3(a b c:MX):MX:=.cons a (.cons b (.cons c .nil))
noncomputable abbrev MX.c4(a b c d:MX):MX:=.cons a (.cons b (.cons c (.cons d .nil)))
noncomputable abbrev MX.x(a:MX)(n:Int):MX:=.idx a (.lit (.int n))
noncomputable abbrev MX.u(k:Nat)(a:MX):MX:=.meth (.var 0) k a
noncomputable abbrev MS.r(a:MX):MS:=.seq (.ret a) .skip
noncomputable abbrev MS.f(a:MX)(b c:MS):MS:=.seq (.iff a b .skip) c
noncomputable abbrev MS.a(a b:MX)(c:MS):MS:=.seq (.asg a b) c
noncomputable abbrev MS.z(a b:MX):MS:=.seq (.raise a b) .skip
noncomputable abbrev MS.q(a b:MS):MS:=.seq a b
namespace L1
noncomputable abbrev Lj:V:=.tup [.sym 103,.bool true,.int 0]
noncomputable abbrev Je:V:=.tup [.sym 42,.bool true,.int 0]
noncomputable abbrev Jf:V:=.tup [.sym 103,.bool true,.int 1]
noncomputable abbrev Gq:V:=.tup [.sym 42,.bool true,.int 1]
noncomputable abbrev Gr:V:=.tup [.sym 103,.bool false,.int 0]
noncomputable abbrev DP:V:=.tup [.sym 103,.bool false,.int 1]
noncomputable abbrev Jg:V:=.tup [.sym 103,.bool false,.int 2]
noncomputable abbrev Lk:V:=.tup [.sym 163,.bool false,.int 0]
noncomputable abbrev Ji:V:=.tup [.sym 170,.bool false,.int 0]
noncomputable abbrev Gs:V:=.tup [.sym 170,.bool false,.int 1]
noncomputable abbrev Jh:V:=.tup [.sym 163,.bool false,.int 1]
noncomputable abbrev DQ:V:=.tup [.sym 42,.bool false,.int 1]
noncomputable abbrev g_CALLS:V:=.dct [(21,.tup [.tup [.tup [.sym 103,.bool true,.int 0]],.sym 103]),(43,.tup [.tup [.tup [.sym 42,.bool true,.int 0]],.sym 103]),(147,.tup [.tup [.tup [.sym 103,.bool true,.int 0],.tup [.sym 103,.bool false,.int 0]],.sym 103]),(172,.tup [.tup [.tup [.sym 103,.bool true,.int 1]],.sym 103]),(150,.tup [.tup [.tup [.sym 103,.bool true,.int 1]],.sym 103]),(82,.tup [.tup [.tup [.sym 42,.bool true,.int 1]],.sym 42]),(78,.tup [.tup [.tup [.sym 42,.bool true,.int 1]],.sym 42]),(59,.tup [.tup [.tup [.sym 103,.bool true,.int 1],.tup [.sym 103,.bool true,.int 0]],.sym 103]),(47,.tup [.tup [.tup [.sym 163,.bool false,.int 0]],.sym 103]),(31,.tup [.tup [.tup [.sym 163,.bool false,.int 1]],.sym 163]),(30,.tup [.tup [.tup [.sym 163,.bool false,.int 1]],.sym 163]),(194,.tup [.tup [.tup [.sym 42,.bool false,.int 1]],.sym 42]),(93,.tup [.tup [.tup [.sym 42,.bool false,.int 1]],.sym 42]),(57,.tup [.tup [.tup [.sym 170,.bool false,.int 1]],.sym 170]),(109,.tup [.tup [.tup [.sym 170,.bool false,.int 0],.tup [.sym 170,.bool false,.int 1]],.sym 170]),(22,.tup [.tup [.tup [.sym 103,.bool true,.int 1]],.sym 42]),(23,.tup [.tup [.tup [.sym 103,.bool true,.int 1]],.sym 42]),(54,.tup [.tup [.tup [.sym 103,.bool true,.int 1]],.sym 42]),(95,.tup [.tup [.tup [.sym 103,.bool true,.int 1]],.sym 42]),(70,.tup [.tup [.tup [.sym 103,.bool true,.int 1]],.sym 42]),(106,.tup [.tup [.tup [.sym 103,.bool true,.int 1],.tup [.sym 103,.bool true,.int 1]],.sym 42]),(118,.tup [.tup [.tup [.sym 103,.bool true,.int 1],.tup [.sym 103,.bool true,.int 1]],.sym 42]),(119,.tup [.tup [.tup [.sym 103,.bool true,.int 1],.tup [.sym 103,.bool true,.int 1]],.sym 42]),(116,.tup [.tup [.tup [.sym 103,.bool true,.int 1],.tup [.sym 103,.bool true,.int 1]],.sym 42]),(117,.tup [.tup [.tup [.sym 103,.bool true,.int 1],.tup [.sym 103,.bool true,.int 1]],.sym 42]),(75,.tup [.tup [.tup [.sym 103,.bool true,.int 0],.tup [.sym 103,.bool true,.int 1],.tup [.sym 103,.bool true,.int 0]],.sym 42]),(176,.tup [.tup [.tup [.sym 103,.bool true,.int 1],.tup [.sym 103,.bool false,.int 2]],.sym 42]),(60,.tup [.tup [.tup [.sym 103,.bool true,.int 1],.tup [.sym 103,.bool false,.int 1],.tup [.sym 103,.bool false,.int 1],.tup [.sym 103,.bool false,.int 0]],.sym 42]),(72,.tup [.tup [.tup [.sym 103,.bool true,.int 1],.tup [.sym 103,.bool false,.int 1]],.sym 42]),(157,.tup [.tup [.tup [.sym 103,.bool true,.int 1],.tup [.sym 103,.bool false,.int 0],.tup [.sym 103,.bool false,.int 0],.tup [.sym 103,.bool false,.int 2],.tup [.sym 103,.bool false,.int 0],.tup [.sym 163,.bool false,.int 0]],.sym 42]),(185,.tup [.tup [.tup [.sym 103,.bool false,.int 0],.tup [.sym 103,.bool false,.int 0],.tup [.sym 103,.bool true,.int 1]],.sym 42]),(87,.tup [.tup [.tup [.sym 103,.bool true,.int 1],.tup [.sym 103,.bool false,.int 1],.tup [.sym 103,.bool true,.int 1]],.sym 42]),(88,.tup [.tup [.tup [.sym 103,.bool true,.int 1],.tup [.sym 103,.bool false,.int 1],.tup [.sym 103,.bool false,.int 1],.tup [.sym 103,.bool false,.int 1]],.sym 42]),(134,.tup [.tup [.tup [.sym 103,.bool true,.int 0],.tup [.sym 103,.bool true,.int 1]],.sym 42]),(38,.tup [.tup [.tup [.sym 103,.bool false,.int 0],.tup [.sym 103,.bool true,.int 1],.tup [.sym 103,.bool false,.int 0]],.sym 42]),(39,.tup [.tup [.tup [.sym 103,.bool false,.int 0],.tup [.sym 103,.bool true,.int 1],.tup [.sym 103,.bool false,.int 0]],.sym 42]),(77,.tup [.tup [.tup [.sym 103,.bool false,.int 0],.tup [.sym 103,.bool true,.int 1],.tup [.sym 103,.bool false,.int 0]],.sym 42]),(123,.tup [.tup [.tup [.sym 103,.bool true,.int 0],.tup [.sym 103,.bool true,.int 1]],.sym 42]),(126,.tup [.tup [.tup [.sym 103,.bool true,.int 0],.tup [.sym 103,.bool true,.int 1]],.sym 42])]
noncomputable abbrev w4:V:=.tup [.sym 124,.sym 122,.sym 165,.sym 81,.sym 114,.sym 98,.sym 99,.sym 100,.sym 27,.sym 29,.sym 164,.sym 158,.sym 167,.sym 35]
noncomputable def cnames:List String:=["INT", "BOOL", "INTS", "BOOLS", "KNOWN", "KNOWNS", "ROWS", "SET", "TEXT", "TEXTS", "SETS", "TRUTHS", "CALLS", "OPEN_CALLS"]
noncomputable def I1:List V:=[Lj,Je,Jf,Gq,Gr,DP,Jg,Lk,Ji,Gs,Jh,DQ,g_CALLS,w4]
noncomputable def yH:MS:=.hole
noncomputable def Jq:MS:=.f (.or (.c2 (.cmp .ne (.x (.v 0) 2) (.x (.v 1) 2)) (.and (.c2 (.x (.v 0) 1) (.not (.x (.v 1) 1)))))) .hole (.r (.or (.c2 (.cmp .isin (.x (.v 0) 0) (.tup (.c2 (.x (.v 1) 0) (.s 130)))) (.and (.c2 (.cmp .eq (.x (.v 1) 0) (.s 103)) (.cmp .eq (.x (.v 0) 0) (.s 42)))))))
noncomputable def Jr:MS:=.f (.not (.call 1 (.c2 (.v 0) (.v 1)))) .hole .skip
noncomputable def Ee:MS:=.a (.v 4) (.tup (.c2 (.x (.v 0) 0) (.x (.v 1) 0))) (.f (.or (.c2 (.cmp .ne (.x (.v 0) 2) (.x (.v 1) 2)) (.and (.c3 (.cmp .ne (.x (.v 0) 0) (.x (.v 1) 0)) (.cmp .notin (.s 130) (.v 4)) (.cmp .ne (.bi (.sorted false) (.v 4)) (.lst false (.c2 (.s 42) (.s 103)))))))) .hole (.a (.v 5) (.ite (.or (.c2 (.cmp .eq (.x (.v 0) 0) (.x (.v 1) 0)) (.cmp .eq (.x (.v 1) 0) (.s 130)))) (.x (.v 0) 0) (.ite (.cmp .eq (.x (.v 0) 0) (.s 130)) (.x (.v 1) 0) (.s 103))) (.r (.tup (.c3 (.v 5) (.or (.c2 (.x (.v 0) 1) (.x (.v 1) 1))) (.x (.v 0) 2))))))
noncomputable def t7:MS:=.a (.attr (.v 0) 162) (.lst true (.c1 (.dict [] .nil))) (.a (.attr (.v 0) 32) (.dict [] .nil) .skip)
noncomputable def xf:MS:=.q (.expr (.bm .append (.attr (.v 0) 162) (.c1 (.dict [] .nil)))) .skip
noncomputable def yD:MS:=.q (.expr (.bm .pop0 (.attr (.v 0) 162) .nil)) .skip
noncomputable def yE:MS:=.f (.cmp .isin (.v 1) (.idx (.attr (.v 0) 162) (.i (-1)))) .hole (.a (.idx (.idx (.attr (.v 0) 162) (.i (-1))) (.v 1)) (.v 2) .skip)
noncomputable def uG:MS:=.q (.for (.v 3) (.rng (.c3 (.bin .sub (.bi .len (.attr (.v 0) 162)) (.i 1)) (.i (-1)) (.i (-1)))) (.f (.cmp .isin (.v 1) (.idx (.attr (.v 0) 162) (.v 3))) (.f (.cmp .eq (.v 3) (.i 0)) (.a (.idx (.attr (.v 0) 32) (.v 1)) (.lit (.bool true)) .skip) (.r (.idx (.idx (.attr (.v 0) 162) (.v 3)) (.v 1)))) .skip)) .hole
noncomputable def tZ:MS:=.a (.attr (.v 0) 129) (.new 0) (.a (.attr (.v 0) 149) (.dict [] .nil) (.a (.attr (.v 0) 34) (.dict [] .nil) (.a (.attr (.v 0) 37) (.dict [] .nil) (.a (.attr (.v 0) 107) (.lit (.bool false)) (.a (.attr (.v 0) 45) (.dict [] .nil) .skip)))))
noncomputable def uE:MS:=.hole
noncomputable def xe:MS:=.a (.tup (.c2 (.v 2) (.v 3))) (.tup (.c2 (.x (.v 1) 0) (.x (.v 1) 1))) (.f (.cmp .isin (.v 2) (.tup (.c3 (.s 103) (.s 42) (.s 170)))) (.r (.tup (.c3 (.v 2) (.lit (.bool false)) (.i 0)))) (.f (.cmp .eq (.v 2) (.s 128)) (.r (.meth (.attr (.v 0) 129) 112 (.c2 (.x (.v 1) 2) (.v 3)))) (.f (.cmp .eq (.v 2) (.s 41)) (.r (.u 49 (.c1 (.v 1)))) (.f (.cmp .eq (.v 2) (.s 181)) .hole (.f (.cmp .eq (.v 2) (.s 96)) .hole (.f (.cmp .eq (.v 2) (.s 44)) (.r (.u 44 (.c3 (.x (.v 1) 2) (.comp (.v 4) (.x (.v 1) 3) .nil (.u 111 (.c1 (.v 4)))) (.v 3)))) (.f (.cmp .isin (.v 2) (.tup (.c4 (.s 26) (.s 28) (.s 163) (.s 156)))) (.r (.u 83 (.c2 (.v 2) (.v 1)))) .hole)))))))
noncomputable def tj:MS:=.q (.expr (.call 2 (.c4 (.u 111 (.c1 (.v 1))) (.glob 7) (.x (.v 1) 1) (.v 2)))) .skip
noncomputable def vX:MS:=.a (.v 2) (.lst true .nil) (.q (.whl (.cmp .eq (.x (.v 1) 0) (.s 41)) (.q (.expr (.bm .append (.v 2) (.c1 (.v 1)))) (.a (.v 1) (.x (.v 1) 3) .skip))) (.a (.v 3) (.u 111 (.c1 (.v 1))) (.q (.whl (.cmp .gt (.bi .len (.v 2)) (.i 0)) (.a (.v 1) (.bm .pop0 (.v 2) .nil) (.a (.v 3) (.u 110 (.c4 (.x (.v 1) 2) (.v 3) (.u 111 (.c1 (.x (.v 1) 4))) (.x (.v 1) 1))) .skip))) (.r (.v 3)))))
noncomputable def vn:MS:=.a (.v 5) (.or (.c2 (.x (.v 2) 1) (.x (.v 3) 1))) (.f (.cmp .isin (.v 1) (.tup (.cons (.s 3) (.c4 (.s 6) (.s 2) (.s 73) (.s 127))))) (.q (.expr (.call 2 (.c4 (.v 2) (.glob 0) (.v 4) (.v 1)))) (.q (.expr (.call 2 (.c4 (.v 3) (.glob 0) (.v 4) (.v 1)))) (.r (.tup (.c3 (.s 103) (.v 5) (.i 0)))))) (.f (.cmp .eq (.v 1) (.s 19)) .hole (.f (.cmp .isin (.v 1) (.tup (.cons (.s 9) (.cons (.s 18) (.c4 (.s 7) (.s 11) (.s 12) (.s 193)))))) (.q (.expr (.call 2 (.c4 (.v 2) (.glob 1) (.v 4) (.v 1)))) (.q (.expr (.call 2 (.c4 (.v 3) (.glob 1) (.v 4) (.v 1)))) (.r (.tup (.c3 (.s 42) (.v 5) (.i 0)))))) (.f (.cmp .isin (.v 1) (.tup (.cons (.s 182) (.cons (.s 71) (.c4 (.s 174) (.s 105) (.s 171) (.s 173)))))) .hole (.f (.cmp .eq (.v 1) (.s 94)) .hole (.f (.cmp .eq (.v 1) (.s 4)) .hole (.r (.u 56 (.c4 (.v 1) (.v 2) (.v 3) (.v 4))))))))))
noncomputable def sb:MS:=.hole
noncomputable def t4:MS:=.f (.cmp .notin (.v 1) (.tup (.cons (.s 10) (.cons (.s 13) (.cons (.s 16) (.c4 (.s 17) (.s 14) (.s 15) (.s 1))))))) .hole (.a (.v 5) (.call 3 (.c4 (.v 2) (.v 3) (.v 4) (.v 1))) (.f (.cmp .ne (.x (.v 5) 2) (.i 0)) .hole (.r (.tup (.c3 (.s 42) (.x (.v 5) 1) (.i 0))))))
noncomputable def vo:MS:=.hole
noncomputable def t6:MS:=.f (.cmp .eq (.v 1) (.s 156)) (.q (.expr (.call 2 (.c4 (.u 111 (.c1 (.x (.v 2) 2))) (.glob 4) (.x (.v 2) 1) (.s 8)))) (.q (.expr (.call 2 (.c4 (.u 111 (.c1 (.x (.v 2) 3))) (.glob 4) (.x (.v 2) 1) (.s 8)))) (.r (.glob 7)))) .hole
noncomputable def ti:MS:=.hole
noncomputable def vp:MS:=.hole
noncomputable def tq:MS:=.hole
noncomputable def vm:MS:=.hole
noncomputable def xd:MS:=.a (.v 4) (.cmp .gt (.bi .len (.comp (.v 7) (.v 2) (.x (.v 7) 1) (.v 7))) (.i 0)) (.f (.cmp .isin (.v 1) (.attr (.v 0) 149)) (.a (.idx (.attr (.v 0) 45) (.v 1)) (.lit (.bool true)) (.q (.expr (.u 189 (.c4 (.v 1) (.v 2) (.idx (.attr (.v 0) 149) (.v 1)) (.v 3)))) (.r (.tup (.c3 (.s 42) (.lit (.bool true)) (.i 0)))))) (.f (.cmp .isin (.v 1) (.glob 12)) .hole (.f (.and (.c2 (.cmp .isin (.v 1) (.glob 13)) (.cmp .gt (.bi .len (.v 2)) (.i 0)))) (.r (.u 136 (.c3 (.v 1) (.v 2) (.v 3)))) .hole)))
noncomputable def tu:MS:=.f (.cmp .ne (.bi .len (.v 2)) (.bi .len (.v 3))) .hole (.q (.for (.tup (.c2 (.v 5) (.v 6))) (.zip (.v 2) (.v 3)) (.q (.expr (.call 2 (.c4 (.v 5) (.v 6) (.v 4) (.v 1)))) .skip)) .skip)
noncomputable def tn:MS:=.a (.tup (.c2 (.v 4) (.v 5))) (.tup (.c2 (.x (.v 2) 0) (.bi .len (.v 2)))) (.f (.cmp .isin (.v 1) (.tup (.c2 (.s 124) (.s 122)))) .hole (.f (.and (.c3 (.cmp .eq (.v 1) (.s 165)) (.cmp .eq (.v 5) (.i 1)) (.or (.c2 (.attr (.v 0) 107) (.not (.x (.v 4) 1)))))) .hole (.f (.and (.c3 (.cmp .eq (.v 1) (.s 81)) (.cmp .eq (.v 5) (.i 1)) (.or (.c2 (.attr (.v 0) 107) (.not (.x (.v 4) 1)))))) .hole (.f (.and (.c3 (.cmp .eq (.v 1) (.s 114)) (.cmp .eq (.v 5) (.i 1)) (.cmp .eq (.x (.v 4) 2) (.i 1)))) (.r (.glob 4)) .hole))))
noncomputable def r9:MS:=.hole
noncomputable def tr:MS:=.a (.tup (.c4 (.v 3) (.v 4) (.v 5) (.v 6))) (.v 1) (.f (.and (.c2 (.v 4) (.cmp .isin (.v 3) (.tup (.c2 (.s 170) (.s 163)))))) .hole (.f (.cmp .isnt (.v 6) (.lit .none)) (.q (.expr (.u 113 (.c2 (.v 6) (.s 74)))) .skip) (.q (.for (.v 7) (.v 5) (.f (.cmp .ne (.x (.v 7) 0) (.s 104)) (.q (.expr (.u 113 (.c2 (.v 7) (.s 97)))) .skip) .skip)) (.r (.tup (.c3 (.v 3) (.v 4) (.bi .len (.v 5))))))))
noncomputable def t5:MS:=.a (.v 3) (.u 180 (.c2 (.x (.v 1) 2) (.x (.v 1) 1))) (.q (.iff (.cmp .isnt (.x (.v 1) 4) (.lit .none)) (.q (.expr (.call 2 (.c4 (.u 111 (.c1 (.x (.v 1) 4))) (.v 3) (.x (.v 1) 1) (.x (.v 1) 3)))) .skip) (.f (.cmp .gt (.bi .len (.comp (.v 4) (.x (.x (.v 1) 2) 2) (.cmp .eq (.x (.v 4) 0) (.s 104)) (.v 4))) (.i 0)) .hole .skip)) (.r (.v 3)))
noncomputable def vY:MS:=.q (.for (.v 2) (.v 1) (.q (.iff (.cmp .eq (.x (.v 2) 0) (.s 68)) (.q (.expr (.meth (.attr (.v 0) 129) 152 (.c3 (.x (.v 2) 3) (.u 145 (.c1 (.x (.v 2) 2))) (.x (.v 2) 1)))) .skip) (.q (.iff (.cmp .eq (.x (.v 2) 0) (.s 148)) (.q (.expr (.u 132 (.c1 (.v 2)))) .skip) (.f (.cmp .eq (.x (.v 2) 0) (.s 36)) (.q (.expr (.u 131 (.c1 (.v 2)))) .skip) .skip)) .skip)) .skip)) (.q (.for (.v 2) (.v 1) (.f (.and (.c3 (.cmp .eq (.x (.v 2) 0) (.s 68)) (.cmp .isnt (.x (.v 2) 4) (.lit .none)) (.cmp .isin (.x (.v 2) 3) (.attr (.v 0) 37)))) .hole .skip)) (.a (.v 3) (.u 137 (.c2 (.comp (.v 9) (.v 1) (.cmp .eq (.x (.v 9) 0) (.s 148)) (.v 9)) (.i 2))) (.a (.v 3) (.bin .add (.v 3) (.u 137 (.c2 (.comp (.v 8) (.v 1) (.cmp .eq (.x (.v 8) 0) (.s 68)) (.v 8)) (.i 3)))) (.a (.v 4) (.comp (.v 7) (.v 1) (.cmp .notin (.x (.v 7) 0) (.tup (.c2 (.s 148) (.s 68)))) (.v 7)) (.q (.for (.v 2) (.v 4) (.q (.expr (.u 51 (.c1 (.v 2)))) .skip)) (.a (.v 5) (.comp (.v 6) (.v 4) (.cmp .eq (.x (.v 6) 0) (.s 166)) (.v 6)) (.f (.cmp .gt (.bi .len (.v 5)) (.i 1)) .hole (.r (.bin .add (.v 3) (.v 4))))))))))
noncomputable def sO:MS:=.r (.tup (.c3 (.x (.v 1) 0) (.x (.v 1) 1) (.bi .len (.x (.v 1) 2))))
noncomputable def rj:MS:=.a (.v 2) (.x (.v 1) 2) (.f (.or (.c3 (.cmp .isin (.v 2) (.attr (.v 0) 149)) (.cmp .isin (.v 2) (.glob 12)) (.cmp .isin (.v 2) (.glob 13)))) .hole (.a (.idx (.attr (.v 0) 149) (.v 2)) (.bi .tuple (.comp (.tup (.c2 (.v 3) (.v 4))) (.x (.v 1) 3) .nil (.u 145 (.c1 (.v 3))))) .skip))
noncomputable def rM:MS:=.f (.cmp .isin (.x (.v 1) 2) (.attr (.v 0) 37)) .hole (.a (.idx (.attr (.v 0) 37) (.x (.v 1) 2)) (.v 1) .skip)
noncomputable def uF:MS:=.a (.v 3) (.dict [] .nil) (.q (.for (.v 4) (.v 1) (.a (.tup (.c2 (.attr (.attr (.v 0) 129) 32) (.attr (.v 0) 45))) (.tup (.c2 (.dict [] .nil) (.dict [] .nil))) (.q (.expr (.u 51 (.c1 (.v 4)))) (.f (.and (.c2 (.cmp .eq (.v 2) (.i 3)) (.cmp .isin (.x (.v 4) 3) (.attr (.v 0) 37)))) (.q (.expr (.u 111 (.c1 (.x (.idx (.attr (.v 0) 37) (.x (.v 4) 3)) 3)))) .skip) (.q (.iff (.cmp .eq (.v 2) (.i 2)) (.a (.idx (.attr (.v 0) 34) (.x (.v 4) 2)) (.tup (.c2 (.attr (.attr (.v 0) 129) 32) (.attr (.v 0) 45))) (.a (.idx (.v 3) (.x (.v 4) 2)) (.attr (.v 0) 45) .skip)) (.a (.idx (.v 3) (.x (.v 4) 3)) (.u 33 .nil) .skip)) .skip))))) (.a (.tup (.c2 (.v 5) (.v 6))) (.tup (.c2 (.lst true .nil) (.bi (.list true) (.v 1)))) (.q (.whl (.cmp .gt (.bi .len (.v 6)) (.i 0)) (.a (.v 7) (.dict [] .nil) (.q (.for (.v 4) (.v 6) (.a (.idx (.v 7) (.idx (.v 4) (.v 2))) (.lit (.bool true)) .skip)) (.a (.v 8) (.i 0) (.q (.whl (.and (.c2 (.cmp .lt (.v 8) (.bi .len (.v 6))) (.bi .any (.inEach (.idx (.v 3) (.idx (.idx (.v 6) (.v 8)) (.v 2))) 7)))) (.q (.aug 8 (.i 1)) .skip)) (.f (.cmp .eq (.v 8) (.bi .len (.v 6))) (.z (.fstr 13 (.c1 (.idx (.x (.v 6) 0) (.v 2)))) (.x (.x (.v 6) 0) 1)) (.q (.expr (.bm .append (.v 5) (.c1 (.bm .pop1 (.v 6) (.c1 (.v 8)))))) .skip))))))) (.r (.v 5)))))
noncomputable def r8:MS:=.a (.tup (.c3 (.v 1) (.v 2) (.v 3))) (.tup (.c3 (.bi .dict (.attr (.attr (.v 0) 129) 32)) (.bi (.sorted true) (.attr (.v 0) 45)) (.dict [] .nil))) (.q (.whl (.cmp .gt (.bi .len (.v 2)) (.i 0)) (.a (.v 4) (.bm .pop0 (.v 2) .nil) (.f (.cmp .notin (.v 4) (.v 3)) (.a (.idx (.v 3) (.v 4)) (.lit (.bool true)) (.q (.expr (.bm .update (.v 1) (.c1 (.x (.idx (.attr (.v 0) 34) (.v 4)) 0)))) (.q (.expr (.bm .extend (.v 2) (.c1 (.bi (.sorted false) (.x (.idx (.attr (.v 0) 34) (.v 4)) 1))))) .skip))) .skip))) (.r (.v 1)))
noncomputable def sN:MS:=.a (.tup (.c2 (.v 2) (.v 3))) (.tup (.c2 (.x (.v 1) 0) (.x (.v 1) 1))) (.q (.iff (.cmp .eq (.v 2) (.s 68)) (.q (.expr (.u 69 (.c2 (.v 1) (.cmp .isin (.x (.v 1) 3) (.attr (.v 0) 37))))) .skip) (.q (.iff (.cmp .eq (.v 2) (.s 148)) (.q (.expr (.u 52 (.c1 (.v 1)))) .skip) (.q (.iff (.cmp .eq (.v 2) (.s 58)) (.q (.expr (.call 2 (.c4 (.u 111 (.c1 (.x (.v 1) 2))) (.glob 1) (.v 3) (.v 2)))) .skip) (.q (.iff (.cmp .eq (.v 2) (.s 166)) (.f (.cmp .isnt (.x (.v 1) 3) (.lit .none)) (.q (.expr (.call 2 (.c4 (.u 111 (.c1 (.x (.v 1) 3))) (.glob 0) (.v 3) (.v 2)))) .skip) .skip) (.q (.iff (.cmp .eq (.v 2) (.s 138)) .hole (.q (.iff (.cmp .eq (.v 2) (.s 36)) (.q (.expr (.call 2 (.c4 (.u 111 (.c1 (.x (.v 1) 3))) (.meth (.attr (.v 0) 129) 112 (.c2 (.x (.v 1) 2) (.v 3))) (.v 3) (.x (.v 1) 2)))) .skip) .hole) .skip)) .skip)) .skip)) .skip)) .skip)) .skip)
noncomputable def qQ:MS:=.q (.expr (.meth (.attr (.v 0) 129) 151 .nil)) (.q (.tryf (.q (.for (.tup (.c2 (.v 2) (.v 3))) (.x (.v 1) 3) (.q (.expr (.meth (.attr (.v 0) 129) 152 (.c3 (.v 3) (.u 180 (.c2 (.v 2) (.x (.v 1) 1))) (.x (.v 1) 1)))) .skip)) (.q (.expr (.call 2 (.c4 (.u 111 (.c1 (.x (.v 1) 4))) (.glob 1) (.x (.v 1) 1) (.x (.v 1) 2)))) .skip)) (.q (.expr (.meth (.attr (.v 0) 129) 146 .nil)) .skip)) .skip)
noncomputable def zU:MS:=.a (.tup (.c2 (.v 2) (.v 3))) (.tup (.c2 (.idx (.v 0) (.s 48)) (.idx (.v 0) (.s 144)))) (.a (.idx (.v 0) (.s 144)) (.bin .add (.v 3) (.i 1)) (.f (.cmp .lt (.v 3) (.bi .len (.v 2))) (.r (.bin .mod (.idx (.v 2) (.v 3)) (.v 1))) (.r (.bin .mod (.bin .mod (.bin .add (.bin .add (.bin .add (.bin .mul (.bin .mul (.i 5) (.v 3)) (.v 3)) (.bin .mul (.i 11) (.v 3))) (.bin .mul (.i 3) (.bi .len (.v 2)))) (.i 4)) (.i 89)) (.v 1)))))
noncomputable def zW:MS:=.a (.v 4) (.ite (.cmp .eq (.call 37 (.c2 (.v 0) (.i 12))) (.i 11)) (.bi .len (.idx (.v 1) (.s 168))) (.v 2)) (.a (.v 5) (.comp (.v 8) (.rng (.c1 (.v 4))) (.or (.c2 (.cmp .ne (.idx (.idx (.v 1) (.s 168)) (.v 8)) (.s 186)) (.not (.v 3)))) (.v 8)) (.a (.v 6) (.call 37 (.c2 (.v 0) (.bin .add (.i 1) (.bi .len (.v 5))))) (.f (.cmp .eq (.v 6) (.i 0)) (.r (.tup (.c2 (.tup (.c3 (.s 103) (.i 3) (.i 2))) (.lst false .nil)))) (.a (.v 7) (.tup (.c3 (.s 128) (.i 6) (.bin .add (.s 61) (.bi .str (.idx (.v 5) (.bin .sub (.v 6) (.i 1))))))) (.f (.cmp .eq (.idx (.idx (.v 1) (.s 168)) (.idx (.v 5) (.bin .sub (.v 6) (.i 1)))) (.s 26)) (.r (.tup (.c2 (.tup (.c4 (.s 44) (.i 5) (.s 114) (.tup (.c1 (.v 7))))) (.lst false (.c1 (.idx (.v 5) (.bin .sub (.v 6) (.i 1)))))))) (.r (.tup (.c2 (.v 7) (.lst false (.c1 (.idx (.v 5) (.bin .sub (.v 6) (.i 1)))))))))))))
noncomputable def yF:MS:=.a (.tup (.c3 (.v 3) (.v 4) (.v 5))) (.tup (.c3 (.idx (.idx (.v 1) (.s 168)) (.v 2)) (.bin .add (.s 61) (.bi .str (.v 2))) (.call 37 (.c2 (.v 0) (.i 4))))) (.a (.v 6) (.or (.c2 (.cmp .eq (.v 3) (.s 26)) (.cmp .eq (.v 5) (.i 0)))) (.a (.tup (.c2 (.v 7) (.v 8))) (.call 38 (.c4 (.v 0) (.v 1) (.v 2) (.or (.c2 (.v 6) (.cmp .eq (.v 3) (.s 143)))))) (.f (.v 6) (.a (.v 9) (.tup (.c4 (.s 156) (.i 8) (.tup (.c3 (.s 103) (.i 8) (.i 1))) (.v 7))) (.a (.v 10) (.ite (.cmp .eq (.v 3) (.s 26)) (.tup (.c4 (.s 103) (.lit (.bool true)) (.tup (.c1 (.v 9))) (.lit .none))) (.tup (.c4 (.s 103) (.cmp .eq (.v 3) (.s 186)) (.tup .nil) (.v 9)))) (.r (.tup (.c4 (.tup (.cons (.s 68) (.c4 (.bin .add (.i 10) (.v 2)) (.v 10) (.v 4) (.ite (.cmp .eq (.v 3) (.s 143)) (.tup (.c3 (.s 103) (.i 9) (.i 1))) (.lit .none))))) (.lit .none) (.v 8) (.lst false .nil)))))) (.f (.and (.c4 (.cmp .eq (.v 5) (.i 1)) (.cmp .eq (.v 3) (.s 186)) (.cmp .gt (.v 2) (.i 1)) (.cmp .gt (.idx (.v 1) (.s 46)) (.i 0)))) (.a (.v 11) (.call 37 (.c2 (.v 0) (.idx (.v 1) (.s 46)))) (.a (.v 7) (.tup (.c4 (.s 44) (.i 7) (.bin .add (.s 139) (.bi .str (.v 11))) (.tup (.c1 (.v 7))))) (.r (.tup (.c4 (.tup (.cons (.s 68) (.c4 (.bin .add (.i 10) (.v 2)) (.tup (.c4 (.s 42) (.lit (.bool true)) (.tup .nil) (.lit .none))) (.v 4) (.v 7)))) (.lit .none) (.v 8) (.lst false (.c1 (.v 11)))))))) (.a (.tup (.c2 (.v 12) (.v 13))) (.call 38 (.c4 (.v 0) (.v 1) (.v 2) (.cmp .eq (.v 3) (.s 143)))) (.a (.tup (.c2 (.v 7) (.v 10))) (.tup (.c2 (.tup (.cons (.s 41) (.c4 (.i 4) (.s 3) (.v 7) (.v 12)))) (.tup (.c4 (.s 103) (.cmp .eq (.v 3) (.s 186)) (.tup .nil) (.lit .none))))) (.f (.cmp .eq (.v 5) (.i 3)) (.r (.tup (.c4 (.tup (.cons (.s 68) (.c4 (.bin .add (.i 10) (.v 2)) (.v 10) (.v 4) (.lit .none)))) (.tup (.c4 (.s 36) (.bin .add (.i 30) (.v 2)) (.v 4) (.v 7))) (.bin .add (.v 8) (.v 13)) (.lst false .nil)))) (.r (.tup (.c4 (.tup (.cons (.s 68) (.c4 (.bin .add (.i 10) (.v 2)) (.v 10) (.v 4) (.v 7)))) (.lit .none) (.bin .add (.v 8) (.v 13)) (.lst false .nil)))))))))))
noncomputable def t8:MS:=.a (.tup (.c2 (.v 3) (.v 4))) (.call 38 (.c4 (.v 0) (.v 1) (.i 2) (.lit (.bool false)))) (.a (.v 5) (.tup (.cons (.s 41) (.c4 (.i 11) (.s 10) (.tup (.cons (.s 41) (.c4 (.i 11) (.s 3) (.tup (.c3 (.s 128) (.i 11) (.s 121))) (.v 3)))) (.tup (.c3 (.s 103) (.i 11) (.i 9)))))) (.a (.v 6) (.ite (.cmp .eq (.call 37 (.c2 (.v 0) (.i 12))) (.i 11)) (.idx (.v 1) (.s 46)) (.v 2)) (.a (.v 7) (.ite (.and (.c2 (.cmp .gt (.v 6) (.i 0)) (.cmp .gt (.call 37 (.c2 (.v 0) (.i 3))) (.i 0)))) (.lst false (.c1 (.call 37 (.c2 (.v 0) (.v 6))))) (.lst false .nil)) (.q (.for (.v 8) (.v 7) (.a (.v 5) (.tup (.cons (.s 41) (.c4 (.i 12) (.s 9) (.v 5) (.tup (.c4 (.s 44) (.i 12) (.bin .add (.s 139) (.bi .str (.v 8))) (.tup (.c1 (.tup (.c3 (.s 128) (.i 12) (.s 121)))))))))) .skip)) (.r (.tup (.c3 (.tup (.cons (.s 148) (.c4 (.bin .add (.i 50) (.v 2)) (.bin .add (.s 139) (.bi .str (.v 2))) (.tup (.c1 (.tup (.c2 (.tup (.c4 (.s 103) (.lit (.bool true)) (.tup .nil) (.lit .none))) (.s 121))))) (.v 5)))) (.v 4) (.v 7))))))))
noncomputable def zV:MS:=.a (.tup (.c2 (.v 2) (.v 3))) (.tup (.c2 (.lst true .nil) (.bi (.list true) (.v 0)))) (.q (.whl (.cmp .ne (.v 3) (.lst false .nil)) (.a (.v 4) (.bm .pop0 (.v 3) .nil) (.f (.cmp .notin (.v 4) (.v 2)) (.q (.expr (.bm .append (.v 2) (.c1 (.v 4)))) (.q (.expr (.bm .extend (.v 3) (.c1 (.idx (.v 1) (.v 4))))) .skip)) .skip))) (.r (.v 2)))
noncomputable def vq:MS:=.a (.v 2) (.lst true .nil) (.q (.for (.v 3) (.v 0) (.a (.v 4) (.comp (.v 5) (.v 0) (.and (.c2 (.cmp .notin (.v 5) (.v 2)) (.cmp .eq (.comp (.v 6) (.idx (.v 1) (.v 5)) (.cmp .notin (.v 6) (.v 2)) (.v 6)) (.lst false .nil)))) (.v 5)) (.f (.cmp .eq (.v 4) (.lst false .nil)) (.r (.lit .none)) (.q (.expr (.bm .append (.v 2) (.c1 (.x (.v 4) 0)))) .skip)))) (.r (.v 2)))
noncomputable def yG:MS:=.q (.tryx (.r (.meth (.new 1) 50 (.c1 (.v 0)))) (.r (.lit .none))) .skip
noncomputable def Lw:MS:=.a (.tup (.c2 (.v 1) (.v 2))) (.tup (.c2 (.dict ([48,144]) (.c2 (.bi (.list false) (.upto (.v 0) (.i 63))) (.i 0))) (.lst true .nil))) (.a (.tup (.c2 (.v 3) (.v 4))) (.tup (.c2 (.bin .add (.i 3) (.call 37 (.c2 (.v 1) (.i 4)))) (.dict [46] (.c1 (.call 37 (.c2 (.v 1) (.i 4))))))) (.a (.idx (.v 4) (.s 168)) (.comp (.v 30) (.rng (.c1 (.v 3))) .nil (.idx (.tup (.c3 (.s 186) (.s 143) (.s 26))) (.call 37 (.c2 (.v 1) (.i 3))))) (.a (.tup (.cons (.v 5) (.cons (.v 6) (.c4 (.v 7) (.v 8) (.v 9) (.v 10))))) (.tup (.cons (.lst true .nil) (.cons (.lst true .nil) (.c4 (.lst true .nil) (.lst true .nil) (.lst true .nil) (.lst true .nil))))) (.q (.for (.v 11) (.rng (.c1 (.v 3))) (.a (.tup (.c4 (.v 12) (.v 13) (.v 14) (.v 15))) (.call 39 (.c3 (.v 1) (.v 4) (.v 11))) (.q (.expr (.bm .append (.v 5) (.c1 (.v 12)))) (.q (.expr (.bm .append (.v 6) (.c1 (.v 14)))) (.q (.expr (.bm .append (.v 7) (.c1 (.v 15)))) (.f (.cmp .isnt (.v 13) (.lit .none)) (.q (.expr (.bm .append (.v 2) (.c1 (.v 13)))) .skip) .skip)))))) (.q (.for (.v 11) (.rng (.c1 (.idx (.v 4) (.s 46)))) (.a (.tup (.c3 (.v 12) (.v 14) (.v 15))) (.call 40 (.c3 (.v 1) (.v 4) (.v 11))) (.q (.expr (.bm .append (.v 8) (.c1 (.v 12)))) (.q (.expr (.bm .append (.v 9) (.c1 (.v 14)))) (.q (.expr (.bm .append (.v 10) (.c1 (.v 15)))) .skip))))) (.q (.for (.v 16) (.rng (.c1 (.call 37 (.c2 (.v 1) (.i 3))))) (.q (.expr (.bm .append (.v 2) (.c1 (.tup (.c3 (.s 58) (.bin .add (.i 40) (.v 16)) (.tup (.cons (.s 41) (.c4 (.i 13) (.s 10) (.x (.call 38 (.c4 (.v 1) (.v 4) (.v 3) (.lit (.bool false)))) 0) (.tup (.c3 (.s 103) (.i 13) (.i 5))))))))))) .skip)) (.q (.expr (.bm .append (.v 2) (.c1 (.tup (.c4 (.s 166) (.i 60) (.s 125) (.x (.call 38 (.c4 (.v 1) (.v 4) (.v 3) (.lit (.bool false)))) 0)))))) (.a (.v 17) (.lst true .nil) (.q (.for (.v 12) (.bin .add (.bin .add (.v 5) (.v 8)) (.v 2)) (.q (.expr (.bm .insert (.v 17) (.c2 (.call 37 (.c2 (.v 1) (.bin .add (.bi .len (.v 17)) (.i 1)))) (.v 12)))) .skip)) (.a (.v 18) (.lst true .nil) (.q (.for (.v 11) (.rng (.c1 (.v 3))) (.a (.v 19) (.bi (.list false) (.idx (.v 6) (.v 11))) (.q (.for (.v 20) (.call 41 (.c2 (.idx (.v 7) (.v 11)) (.v 10))) (.a (.v 19) (.bin .add (.v 19) (.idx (.v 9) (.v 20))) .skip)) (.q (.expr (.bm .append (.v 18) (.c1 (.v 19)))) .skip)))) (.a (.v 21) (.call 42 (.c2 (.comp (.v 29) (.v 17) (.cmp .eq (.x (.v 29) 0) (.s 148)) (.bin .sub (.x (.v 29) 1) (.i 50))) (.v 10))) (.a (.v 22) (.call 42 (.c2 (.comp (.v 28) (.v 17) (.cmp .eq (.x (.v 28) 0) (.s 68)) (.bin .sub (.x (.v 28) 1) (.i 10))) (.v 18))) (.a (.v 23) (.call 43 (.c1 (.v 17))) (.f (.or (.c2 (.cmp .is (.v 21) (.lit .none)) (.cmp .is (.v 22) (.lit .none)))) (.r (.cmp .is (.v 23) (.lit .none))) (.a (.v 24) (.bin .add (.comp (.v 26) (.v 21) .nil (.idx (.v 8) (.v 26))) (.comp (.v 27) (.v 22) .nil (.idx (.v 5) (.v 27)))) (.a (.v 24) (.bin .add (.v 24) (.comp (.v 25) (.v 17) (.cmp .notin (.x (.v 25) 0) (.tup (.c2 (.s 148) (.s 68)))) (.v 25))) (.r (.and (.c2 (.cmp .eq (.v 23) (.v 24)) (.cmp .eq (.call 43 (.c1 (.v 24))) (.v 24))))))))))))))))))))))
noncomputable def fns:List AV:=[⟨1,5,yH⟩,⟨2,2,Jq⟩,⟨4,4,Jr⟩,⟨4,6,Ee⟩,⟨1,1,t7⟩,⟨1,1,xf⟩,⟨1,1,yD⟩,⟨4,4,yE⟩,⟨3,4,uG⟩,⟨1,1,tZ⟩,⟨3,4,uE⟩,⟨2,5,xe⟩,⟨3,3,tj⟩,⟨2,4,vX⟩,⟨5,6,vn⟩,⟨4,5,sb⟩,⟨5,6,t4⟩,⟨3,6,vo⟩,⟨3,5,t6⟩,⟨3,9,ti⟩,⟨2,3,vp⟩,⟨4,6,tq⟩,⟨2,9,vm⟩,⟨4,8,xd⟩,⟨5,7,tu⟩,⟨4,7,tn⟩,⟨4,6,r9⟩,⟨3,8,tr⟩,⟨3,5,t5⟩,⟨2,10,vY⟩,⟨2,2,sO⟩,⟨2,5,rj⟩,⟨2,2,rM⟩,⟨3,9,uF⟩,⟨1,5,r8⟩,⟨2,4,sN⟩,⟨2,4,qQ⟩,⟨2,4,zU⟩,⟨4,9,zW⟩,⟨3,14,yF⟩,⟨3,9,t8⟩,⟨2,5,zV⟩,⟨2,7,vq⟩,⟨1,1,yG⟩,⟨1,31,Lw⟩]
noncomputable def meths:List ((Nat×Nat)×Nat):=[((0,151),5),((0,146),6),((0,152),7),((0,112),8),((1,112),10),((1,111),11),((1,113),12),((1,49),13),((1,110),14),((1,154),15),((1,56),16),((1,135),17),((1,83),18),((1,85),19),((1,169),20),((1,153),21),((1,53),22),((1,44),23),((1,189),24),((1,136),25),((1,120),26),((1,180),27),((1,69),28),((1,50),29),((1,145),30),((1,132),31),((1,131),32),((1,137),33),((1,33),34),((1,51),35),((1,52),36)]
noncomputable def inits:List (Nat×Nat):=[(0,4),(1,9)]
noncomputable def slens:List Nat:=[0,2,1,1,2,2,1,2,2,2,1,2,3,2,1,2,1,2,2,1,1,3,13,12,22,6,5,7,6,7,15,11,5,12,4,6,6,8,8,7,1,3,4,8,4,6,5,4,5,5,5,10,15,6,7,4,8,6,10,5,10,1,2,2,2,2,2,2,4,8,10,4,11,3,6,7,4,7,6,6,7,3,6,8,3,9,3,18,25,12,1,2,15,6,2,10,5,11,9,14,14,7,6,3,7,9,7,8,1,4,6,4,7,9,6,3,11,13,8,10,12,1,3,7,3,8,7,3,4,5,4,13,14,7,6,6,9,7,6,1,2,2,2,3,5,10,3,3,9,10,7,4,3,9,12,1,5,7,7,22,1,7,6,3,9,4,5,4,5,6,3,6,3,8,7,1,5,25,2,6,9,2,5,6,1,13,3,4,1,9,5,6,1,3,6,1,2]
noncomputable def cats:List ((Nat×Int)×Nat):=[((61,0),62),((61,1),63),((61,2),64),((61,3),65),((61,4),66),((61,5),67),((139,0),140),((139,1),141),((139,2),142)]
noncomputable def varss:List (List (String×Nat)):=[[("kind",0),("base",1),("is_var",2),("dims",3),("text",4)],[("kind",0),("wanted",1)],[("kind",0),("wanted",1),("spot",2),("what",3)],[("one",0),("other",1),("spot",2),("what",3),("bases",4),("base",5)],[("self",0)],[("self",0)],[("self",0)],[("self",0),("name",1),("kind",2),("spot",3)],[("self",0),("name",1),("spot",2),("place",3)],[("self",0)],[("self",0),("node",1),("scope",2),("name",3)],[("self",0),("node",1),("op",2),("spot",3)],[("self",0),("node",1),("what",2)],[("self",0),("node",1),("waiting",2),("found",3)],[("self",0),("sign",1),("one",2),("other",3),("spot",4),("is_var",5)],[("self",0),("one",1),("other",2),("spot",3),("found",4)],[("self",0),("sign",1),("one",2),("other",3),("spot",4),("found",5)],[("self",0),("nodes",1),("what",2),("found",3),("node",4),("late",5)],[("self",0),("op",1),("node",2),("found",3),("row",4)],[("self",0),("op",1),("node",2),("spot",3),("what",4),("names",5),("source",6),("body",7),("found",8)],[("self",0),("node",1),("found",2)],[("self",0),("names",1),("kind",2),("spot",3),("place",4),("name",5)],[("self",0),("node",1),("found",2),("is_var",3),("condition",4),("value",5),("late",6),("kind",7),("is_text",8)],[("self",0),("name",1),("kinds",2),("spot",3),("is_var",4),("wanted",5),("base",6)],[("self",0),("name",1),("kinds",2),("wanted",3),("spot",4),("kind",5),("one",6)],[("self",0),("name",1),("kinds",2),("spot",3),("first",4),("many",5),("sides",6)],[("self",0),("name",1),("kinds",2),("spot",3),("first",4),("many",5)],[("self",0),("kind_type",1),("spot",2),("base",3),("is_var",4),("dims",5),("domain",6),("part",7)],[("self",0),("item",1),("is_assigned",2),("kind",3)],[("self",0),("items",1),("item",2),("found",3),("late",4),("solves",5)],[("self",0),("kind_type",1)],[("self",0),("item",1),("name",2)],[("self",0),("item",1)],[("self",0),("items",1),("place",2),("needs",3),("item",4),("found",5),("waiting",6),("left",7),("spot",8)],[("self",0),("found",1),("waiting",2),("seen",3),("name",4)],[("self",0),("item",1),("op",2),("spot",3)],[("self",0),("item",1),("kind_type",2),("param",3)],[("feed",0),("many",1),("cells",2),("place",3)],[("feed",0),("world",1),("below",2),("is_par",3),("top",4),("some",5),("pick",6),("name",7)],[("feed",0),("world",1),("k",2),("sort",3),("name",4),("way",5),("is_sized",6),("node",7),("asks",8),("some",9),("what",10),("number",11),("other",12),("late",13)],[("feed",0),("world",1),("k",2),("node",3),("asks",4),("body",5),("many",6),("calls",7),("number",8)],[("starts",0),("arrows",1),("found",2),("waiting",3),("one",4)],[("order",0),("needs",1),("found",2),("lap",3),("free",4)],[("items",0)],[("script",0),("feed",1),("rest",2),("many",3),("world",4),("decls",5),("asked",6),("rings",7),("preds",8),("sought",9),("rung",10),("k",11),("item",12),("late",13),("asks",14),("calls",15),("lap",16),("items",17),("needs",18),("found",19),("number",20),("first",21),("second",22),("told",23),("due",24)]]
noncomputable def fnms:List (Option String):=[some "kind_text",some "fits",some "want",some "common",none,none,none,none,none,none,none,none,none,none,none,none,none,none,none,none,none,none,none,none,none,none,none,none,none,none,none,none,none,none,none,none,none,some "_law_dip",some "_law_use",some "_law_decl",some "_law_predicate",some "_law_far",some "_law_in_turn",some "_law_told",some "law"]
noncomputable def PU:List String:=["kind_text", "fits", "want", "common", "Names.__init__", "Names.push", "Names.pop", "Names.put", "Names.kind_of", "Kinds.__init__", "Kinds.kind_of", "Kinds.kind", "Kinds.known_set", "Kinds.chain", "Kinds.joined", "Kinds.put_together", "Kinds.compared", "Kinds.of_all", "Kinds.gathered", "Kinds.generated", "Kinds.source", "Kinds.put_names", "Kinds.chosen", "Kinds.call", "Kinds.want_each", "Kinds.open_call", "Kinds.listing_call", "Kinds.type_kind", "Kinds.declared", "Kinds.check", "Kinds.plain_kind", "Kinds.note_predicate", "Kinds.note_assigned", "Kinds.ordered", "Kinds.asked_within", "Kinds.check_item", "Kinds.check_predicate", "_law_dip", "_law_use", "_law_decl", "_law_predicate", "_law_far", "_law_in_turn", "_law_told", "law"]
noncomputable def pg:Pg:={fn:=λi=>fns[i]?,const:=λk=>(I1[k]?).getD .none,meth:=λc k=>meths.lookup (c,k),init:=λc=>inits.lookup c,cat:=λk i=>cats.lookup (k,i),slen:=λk=>(slens[k]?).getD 0}
noncomputable def Re:Nat:=44
end L1
noncomputable def fragOf(as:List al)(h:aQ):dw:=as.map λa=>(a,(h.get? a).getD {cls:=.none})
theorem Go{as:List al}(k:as.all (λa=>(h.get? a).isSome)=true):(fragOf as h).In h:=by
 induction as with
 |nil=>exact λa o e=>mr e
 |cons b as ih=>
  have k:=b2 k;intro a o e;have e:((b,(h.get? b).getD {cls:=.none})::fragOf as h).lookup a=some o:=e;rw[c0] at e
  by_cases q:(a==b)=true
  .rw[q] at e;refine mF (bT.mp k.1) λo' e'=>?_;rw[e'] at e;rw[eq_of_beq q,e'];exact e
  .rw[cQ.mpr q] at e;exact ih k.2 a o e
noncomputable def GR(d:kD)(f:fk->Bool):Bool:=match d with
 |.func fd=>f fd
 |_=>false
theorem vC{d:kD}{f:fk->Bool}:GR d f=true->∃fd,d=.func fd/\f fd=true:=by
 cases d<;>first | exact ma | exact λh=>⟨_,rfl,h⟩
noncomputable def onSeq(d:kD)(f:List ae->Bool):Bool:=match d with
 |.seq xs _=>f xs.toList
 |_=>false
theorem Cn{d:kD}{f:List ae->Bool}:onSeq d f=true->∃xs n,d=.seq xs n/\f xs.toList=true:=by
 cases d<;>first | exact ma | exact λh=>⟨_,_,rfl,h⟩
noncomputable def Im(d:kD)(f:List fv->Bool):Bool:=match d with
 |.dict es _=>f es.toList
 |_=>false
theorem Ci{d:kD}{f:List fv->Bool}:Im d f=true->∃es n,d=.dict es n/\f es.toList=true:=by
 cases d<;>first | exact ma | exact λh=>⟨_,_,rfl,h⟩
noncomputable def EJ(d:kD)(f:j1->Bool):Bool:=match d with
 |.cls c=>f c
 |_=>false
theorem wn{d:kD}{f:j1->Bool}:EJ d f=true->∃c,d=.cls c/\f c=true:=by
 cases d<;>first | exact ma | exact λh=>⟨_,rfl,h⟩
noncomputable def EL(d:kD)(f:Array ae->Bool):Bool:=match d with
 |.fields c=>f c
 |_=>false
theorem Aa{d:kD}{f:Array ae->Bool}:EL d f=true->∃c,d=.fields c/\f c=true:=by
 cases d<;>first | exact ma | exact λh=>⟨_,rfl,h⟩
noncomputable def EI(d:kD)(f:Option ae->Bool):Bool:=match d with
 |.cell c=>f c
 |_=>false
theorem z8{d:kD}{f:Option ae->Bool}:EI d f=true->∃c,d=.cell c/\f c=true:=by
 cases d<;>first | exact ma | exact λh=>⟨_,rfl,h⟩
noncomputable def xx(b:FuncBody)(f:List Stmt->Bool):Bool:=match b with
 |.stmts l=>f l
 |_=>false
theorem uy{b:FuncBody}{f:List Stmt->Bool}:xx b f=true->∃l,b=.stmts l/\f l=true:=by
 cases b<;>first | exact ma | exact λh=>⟨_,rfl,h⟩
noncomputable def ES(v:ae)(f:al->Bool):Bool:=match v with
 |.ref a=>f a
 |_=>false
theorem wp{v:ae}{f:al->Bool}:ES v f=true->∃a,v=.ref a/\f a=true:=by
 cases v<;>first | exact ma | exact λh=>⟨_,rfl,h⟩
noncomputable def xA(v:ae)(f:a9->Bool):Bool:=match v with
 |.str s _=>f s
 |_=>false
theorem sT{v:ae}{f:a9->Bool}:xA v f=true->∃a t,v=.str a t/\f a=true:=by
 cases v<;>first | exact ma | exact λh=>⟨_,_,rfl,h⟩
theorem FQ{names:List a9}:∀{Rp:List ae},Rp.length=names.length->∀n∈names,((names.zip Rp).lookup n).isSome=true:=by
 induction names with
 |nil=>exact λZ Z h=>nomatch h
 |cons x names ih=>
  intro Rp hl n hn
  cases Rp with
  |nil=>exact nomatch hl
  |cons v Rp=>
   rw[gP,c0]
   by_cases q:(n==x)=true
   .rw[q];rfl
   .rw[cQ.mpr q];exact ih (fD hl) n ((bd.mp hn).resolve_left λe=>q (by rw[e];exact beq_self_eq_true x))
theorem HC{names:List a9}:∀{Rp:List ae},Rp.length=names.length->names.Nodup->names.filterMap (λn=>((names.zip Rp).lookup n).map (n,·))=names.zip Rp:=by
 induction names with
 |nil=>exact λZ Z=>rfl
 |cons x names ih=>
  intro Rp hl nd
  cases Rp with
  |nil=>exact nomatch hl
  |cons v Rp=>
   have nd:=bo.mp nd;rw[gP,dJ,c0,beq_self_eq_true];show (x,v)::_=_
   congr 1
   have e:∀(l:List a9),(∀n∈l,n≠x)->l.filterMap (λn=>(((x,v)::names.zip Rp).lookup n).map (n,·))=l.filterMap λn=>((names.zip Rp).lookup n).map (n,·):=by
    intro l
    induction l with
    |nil=>exact λZ=>rfl
    |cons n l ih=>
     intro h;rw[dJ,dJ,ih λm hm=>h m (aE _ hm),c0,cQ.mpr λq=>h n ax (eq_of_beq q)]
   exact (e names λn hn q=>nd.1 (q▸hn)).trans (ih (fD hl) nd.2)
structure uW(fd:fk):Prop where
 pos:fd.params.posonlyargs=[]
 va:fd.params.vararg=none
 ko:fd.params.kwonlyargs=[]
 kw:fd.params.kwarg=none
 df:fd.defaults=.none
theorem u5{fd:fk}(k:uW fd)(nd:(fd.params.args.map (·.arg)).Nodup)(hl:Rp.length=(fd.params.args.map (·.arg)).length):bindArgs fd ⟨Rp,[]⟩=pure ((fd.params.args.map (·.arg)).zip Rp):=by
 have hm:((fd.params.args.map (·.arg)).filter λn=>(((fd.params.args.map (·.arg)).zip Rp).lookup n).isNone)=[]:=by
  rw[cj];intro n hn h;have:=FQ hl n hn;rw[Option.isNone_iff_eq_none] at h;rw[h] at this;exact ma this
 have hlt:¬(Rp.length > (fd.params.args.map (·.arg)).length):=by rw[hl];exact lz _
 obtain ⟨nm,q,⟨po,ar,va,ko,kd,kw,pd⟩,body,sc,gl,cl,df,kwd⟩:=fd;obtain ⟨e1,e2,e3,e4,e5⟩:=k;dsimp only at e1 e2 e3 e4 e5 nd hl hm hlt;subst e1 e2 e3 e4 e5;have hd:∀(k:Nat),List.drop k ((none:Option (Array ae)).getD #[]).toList=[]:=λk=>List.drop_nil;refine Eq.trans (if_neg ?h1) ?_
 case h1=>
  show ¬(decide (Rp.length > (ar.map (·.arg)).length)&&true)=true;rw[decide_eq_false hlt];exact ma
 rw[hd,List.zip_nil_right];refine Eq.trans (if_neg (λe=>?h2)) ?_
 case h2=>
  have e:(!(((ar.map (·.arg)).take (ar.map (·.arg)).length).filter λn=>(((ar.map (·.arg)).zip Rp).lookup n).isNone).isEmpty)=true:=e;rw[List.take_length,hm] at e;exact ma e
 have z:(ar.map (λx:Arg=>x.arg)++[]).filterMap (λn=>(((ar.map (λx:Arg=>x.arg)).zip Rp).lookup n).map (n,·))=(ar.map (λx:Arg=>x.arg)).zip Rp:=by rw[aT];exact HC hl nd
 exact congrArg (pure (f:=jV)) z
noncomputable def EZ(fd:fk):Bool:=fd.params.posonlyargs.isEmpty&&(fd.params.vararg.isNone&&(fd.params.kwonlyargs.isEmpty&&(fd.params.kwarg.isNone&&(fd.defaults==.none)&&decide (fd.params.args.map (·.arg)).Nodup)))
theorem Am{fd:fk}(h:EZ fd=true):uW fd/\(fd.params.args.map (·.arg)).Nodup:=
 have h1:=b2 h;have h2:=b2 h1.2;have h3:=b2 h2.2;have h4:=b2 h3.2;have h5:=b2 h4.1
 ⟨⟨mP h1.1,pY h2.1,mP h3.1,pY h5.1,eq_of_beq h5.2⟩,of_decide_eq_true h4.2⟩
noncomputable def wT(K:dw)(fd:fk):Bool:=decide (fd.scope.kind=.function)&&(!fd.scope.isCoroutine&&(!fd.scope.isGenerator&&(decide (fd.globals=cO)&&(decide (fd.builtins=d9)&&(codeIn K fd.code fd.qualname&&EZ fd)))))
structure C0(h:aQ)(fd:fk):Prop where
 kind:fd.scope.kind=.function
 co:fd.scope.isCoroutine=false
 gen:fd.scope.isGenerator=false
 gl:fd.globals=cO
 bu:fd.builtins=d9
 cr:h.CodeRec fd.code fd.qualname
 plain:uW fd
 nodup:(fd.params.args.map (·.arg)).Nodup
theorem vv{b:Bool}(h:(!b)=true):b=false:=by cases b<;>first | rfl | exact ma h
theorem uq(X:K.In h){fd:fk}(e:wT K fd=true):C0 h fd:=
 have h1:=b2 e;have h2:=b2 h1.2;have h3:=b2 h2.2;have h4:=b2 h3.2;have h5:=b2 h4.2;have h6:=b2 h5.2;have h7:=Am h6.2
 ⟨of_decide_eq_true h1.1,vv h2.1,vv h3.1,of_decide_eq_true h4.1,of_decide_eq_true h5.1,codeRec_of X h6.1,h7.1,h7.2⟩
noncomputable def QX(p:zu)(vars:List (a9×Nat))(f:Nat)(F:AV):Bool:=(p.K.lookup (p.G.fnA f)).any λo=>GR o.data λfd=>fd.closure.isEmpty&&(wT p.K fd&&xx fd.body λl=>
 DO fd.scope.names vars (fd.params.args.map (·.arg)) F&&(s9 p.toLg F.body).S ⟨fd.scope.names,vars⟩ l)
theorem Gn{p:zu}(X:p.K.In W.base)(nl:W.base.NoLimit){f:Nat}{F:AV}(e:QX p vars f F=true):∃kinds vars stmts,FW W (p.G.fnA f) F kinds vars stmts/\(s9 p.toLg F.body).S ⟨kinds,vars⟩ stmts=true:=by
 refine l8 (oU e) λo e1 e=>?_;refine l8 (vC e) λfd e2 e=>?_;have h1:=b2 e;have h2:=b2 h1.2;have C:=uq X h2.1;refine l8 (uy h2.2) λl e3 e=>?_;have h3:=b2 e;exact⟨fd.scope.names,vars,l,⟨⟨⟨o,fd,fd.params.args.map (·.arg)⟩,X _ _ e1,e2,e3,rfl,C.kind,C.co,C.gen,mP h1.1,C.gl,C.bu,C.cr,λRp hl=>u5 C.plain C.nodup hl,h3.1⟩,nl⟩,h3.2⟩
noncomputable def Au(l:List Stmt)(attr:a9):Bool:=wq l λst U0=>
 (xv st λx=>ue x λg xs ks p=>ks.isEmpty&&((qi xs λy=>oq y λn=>n==("what" : a9))&&sR g λy n ap=>n==("__init__" : a9)&&(ap.endLine==p.line&&ue y λg' xs' SD Z=>xs'.isEmpty&&(SD.isEmpty&&oq g' λn=>n==("super" : a9)))))&&
 tC U0 λzs x=>(qi zs λz=>sR z λy n Z=>n==attr&&oq y λn=>n==("self" : a9))&&oq x λn=>n==attr
structure uY where
 p1:cV
 p2:cV
 p3:cV
 p4:cV
 p5:cV
 p6:cV
 p7:cV
 p8:cV
 p9:cV
 p10:cV
theorem Ff{l:List Stmt}{P:List Stmt->Prop}(h:Au l attr=true)(k:∀d:uY,(d.p3.endLine==d.p5.line)=true->P [.Expr (.Call (.Attribute (.Call (.Name "super" d.p1) [] [] d.p2) "__init__" d.p3) [.Name "what" d.p4] [] d.p5) d.p6,.Assign [.Attribute (.Name "self" d.p7) attr d.p8] (.Name attr d.p9) d.p10]):P l:=by
 apply xB h;refine λst U0 h=>pQ h λh h'=>?_;apply yP h;intro x p6 h;apply tE h;refine λg xs ks p5 h=>u4 h λh1 h2 h3=>?_;rw[mP h1];apply oR h2;intro y h2;apply nx h2;intro n p4 h2;rw[eq_of_beq h2];apply sj h3;refine λy n p3 h=>u4 h λh1 hl h=>?_;rw[eq_of_beq h1];apply tE h;refine λg xs ks p2 h=>u4 h λh1 h2 h=>?_;rw[mP h1,mP h2];apply nx h;intro n p1 h;rw[eq_of_beq h];apply vB h';refine λzs x p10 h=>pQ h λh h'=>?_;apply oR h;intro z h;apply sj h;refine λy n p8 h=>pQ h λh1 h=>?_;rw[eq_of_beq h1];apply nx h;intro m p7 h;rw[eq_of_beq h];apply nx h';intro m p9 h;rw[eq_of_beq h];exact k ⟨p1,p2,p3,p4,p5,p6,p7,p8,p9,p10⟩ hl
theorem Av{l:List Stmt}(h:Au l attr=true):∃d:uY,l=[.Expr (.Call (.Attribute (.Call (.Name "super" d.p1) [] [] d.p2) "__init__" d.p3) [.Name "what" d.p4] [] d.p5) d.p6,.Assign [.Attribute (.Name "self" d.p7) attr d.p8] (.Name attr d.p9) d.p10]/\(d.p3.endLine==d.p5.line)=true:=
 Ff (P:=λl=>∃d:uY,l=[.Expr (.Call (.Attribute (.Call (.Name "super" d.p1) [] [] d.p2) "__init__" d.p3) [.Name "what" d.p4] [] d.p5) d.p6,.Assign [.Attribute (.Name "self" d.p7) attr d.p8] (.Name attr d.p9) d.p10]/\(d.p3.endLine==d.p5.line)=true) h λd h=>⟨d,rfl,h⟩
noncomputable def DW(K:dw)(file:a9)(f D:al)(attr:a9)(params:List a9):Bool:=((K.lookup f).any λo=>decide (o.cls=.type "function")&&GR o.data λfd=>(wT K fd&&(decide (fd.params.args.map (·.arg)=params)&&(fd.scope.names.all λx=>decide (x.2≠.cell))))&&(((params.all λx=>decide (fd.scope.names.lookup x=some .local))&&
 (decide (fd.scope.names.lookup ("super" : a9)=some .globalImplicit)&&decide (fd.scope.names.lookup ("__class__" : a9)=some .free)))&&((xx fd.body λl=>Au l attr)&&(((fd.closure.lookup ("__class__" : a9)).any λcc=>(K.lookup cc).any λoc=>EI oc.data λv=>decide (v=some (.ref D)))&&
  (ES fd.code λc=>(K.lookup c).any λoc=>EL oc.data λvs=>(vs[2]?).any λv=>xA v λs=>file==s)))))&&
 ((K.lookup D).any λo=>EJ o.data λZ=>true)
theorem wb{base:aQ}(X:K.In base){f:al}(e:DW K prog.main.file f D attr params=true)(hs:params.head?=some "self")(hn:params.Nodup)(hw:("what" : a9)∈params)(ha:attr∈params)(hd:∀x∈params,(x==("__debug__" : a9))=false):
  sL prog base f D attr params:=by
 have e:=b2 e;refine l8 (oU e.2) λoD eD hD=>?_;refine l8 (wn hD) λcD YB Z=>?_;refine l8 (oU e.1) λo e1 h=>?_;have h:=b2 h;refine l8 (vC h.2) λfd e2 h'=>?_;have h1:=b2 h';have h2:=b2 h1.1;have h3:=b2 h2.2;have h4:=b2 h1.2;have h5:=b2 h4.1;have h6:=b2 h5.2;have h7:=b2 h4.2;have h8:=b2 h7.2;have C:=uq X h2.1;refine l8 (uy h7.1) λl e3 hl=>?_;refine l8 (Av hl) λd hb Sf=>?_;refine l8 (oU h8.1) λcc e4 hc=>?_;refine l8 (oU hc) λoc e5 hc=>?_;refine l8 (z8 hc) λv e6 hc=>?_;refine l8 (wp h8.2) λcda e7 hf=>?_;refine l8 (oU hf) λXB e8 hf=>?_;refine l8 (Aa hf) λvs e9 hf=>?_;refine l8 (oU hf) λv2 e10 hf=>?_;refine mJ (sT hf) λfl tf YC hf=>?_;have hp:fd.params.args.map (·.arg)=params:=of_decide_eq_true h3.1
 obtain ⟨ar,hh,har⟩:∃ar,(fd.params.posonlyargs++fd.params.args).head?=some ar/\ar.arg = "self" := by
  rw[C.plain.pos,gq];rw[<-hp,List.head?_map] at hs;exact (ms hs).elim λar x=>⟨ar,x.1,x.2⟩
 exact⟨⟨⟨o,fd,d.p1,d.p2,d.p3,d.p4,d.p5,d.p6,d.p7,d.p8,d.p9,d.p10,cc,cda,XB,vs,fl,tf,ar⟩,X _ _ e1,e2,of_decide_eq_true h.1,by rw[e3,hb],Sf,C.kind,C.co,C.gen,λx hx=>of_decide_eq_true (bh.mp h3.2 x hx),
  λx hx=>of_decide_eq_true (bh.mp h5.1 x hx),of_decide_eq_true h6.1,of_decide_eq_true h6.2,e4,⟨oc,X _ _ e5,by rw[e6,of_decide_eq_true hc]⟩,C.gl,C.bu,C.cr,e7,X _ _ e8,e9,by rw[e10,YC],hf,hh,har,
  λRp hl=>by rw[u5 C.plain C.nodup (by rw[hl,hp]),hp]⟩,hn,i4 (by rw[hs];exact rfl),hw,ha,hd,oD,cD,X _ _ eD,YB⟩
noncomputable def rQ{α:Type}(f:Nat->α->Bool):List α->Nat->Bool
 |[],_=>true
 |x::r,i=>f i x&&rQ f r (i+1)
theorem BK{f:Nat->α->Bool}{l:List α}:∀{i:Nat},rQ f l i=true->∀{k:Nat} {x:α},l[k]?=some x->f (i+k) x=true:=by
 induction l with
 |nil=>exact λZ Z Z e=>nomatch e
 |cons y r ih=>
  intro i h k x e;have h:=b2 h
  cases k with
  |zero=>rw[<-am (show some y=some x from e)];exact h.1
  |succ k=>rw[<-da,be];exact ih h.2 e
theorem oW{f:Nat->α->Bool}{l:List α}(h:rQ f l 0=true){x:α}(e:l[k]?=some x):f k x=true:=by
 have:=BK h e
 rwa [dz] at this
noncomputable def Aq(o:fq)(n:String):Bool:=decide (o.cls=.type n)&&(o.dict.isNone&&o.slots.toList.isEmpty)
theorem vK{n:String}(h:Aq o n=true):o={cls:=.type n,dict:=none,data:=o.data,slots:=#[]}:=by
 have h1:=b2 h;have h2:=b2 h1.2;obtain ⟨c,d,dt,⟨sl⟩⟩:=o;have e1:c=.type n:=of_decide_eq_true h1.1;have e2:d=none:=pY h2.1;have e3:sl=[]:=mP h2.2;rw[e1,e2,e3]
section
variable (K:dw)(S:List a9)
mutual
noncomputable def G7:V->ae->Bool
 |.bool b,y=>y==.bool b
 |.int i,y=>(match y with | .int j _=>i==j | _=>false)
 |.sym k,y=>xA y λs=>S[k]?==some s
 |.tup l,y=>ES y λa=>(K.lookup a).any λo=>Aq o "tuple" && onSeq o.data λxs=>decide (xs.length<=bM)&&E5 l xs
 |_,_=>false
noncomputable def E5:List V->List ae->Bool
 |[],xs=>xs.isEmpty
 |v::l,xs=>nX xs λx r=>G7 v x&&E5 l r
end
end
section
mutual
theorem vI(X:K.In W.base)(hh:∀a∈W.hid,W.base.get? a=none):∀{v:V} {y:ae},G7 K W.S v y=true->mm W [] W.base v y
 |.bool _,_,h=>eq_of_beq h
 |.int i,y,h=>by
  cases y with
  |int j t=>exact⟨t,by rw[eq_of_beq (show (i==j)=true from h)]⟩
  |_=>exact ma h
 |.sym _,_,h=>by
  refine mJ (sT h) λs t e h=>?_;exact⟨s,t,eq_of_beq h,e⟩
 |.tup l,_,h=>by
  refine l8 (wp h) λa e h=>?_;refine l8 (oU h) λo e1 h=>?_;have h:=b2 h;refine mJ (Cn h.2) λxs n e2 h'=>?_;have h':=b2 h';have e3:=vK h.1;rw[e2] at e3;have e4:=X _ _ e1;exact⟨a,xs.toList,n,e,⟨λhm=>(nomatch hm),λhm=>mr ((hh a hm).symm.trans e4)⟩,of_decide_eq_true h'.1,e4.trans (congrArg some e3),wu X hh h'.2⟩
 |.none,_,h=>ma h
 |.itxt _,_,h=>ma h
 |.txt _,_,h=>ma h
 |.lst _,_,h=>ma h
 |.dct _,_,h=>ma h
 |.obj _,_,h=>ma h
theorem wu(X:K.In W.base)(hh:∀a∈W.hid,W.base.get? a=none):∀{l:List V} {ys:List ae},E5 K W.S l ys=true->my W [] W.base l ys
 |[],_,h=>mP h
 |v::l,_,h=>by
  refine mJ (nY h) λx r e h=>?_;exact⟨x,r,e,vI X hh (b2 h).1,wu X hh (b2 h).2⟩
end
end
noncomputable def Jc(K:dw)(S:List a9):List (Nat×V)->List fv->Bool
 |[],es=>es.isEmpty
 |(k,v)::l,es=>nX es λe r=>(xA e.key λs=>S[k]?==some s)&&(G7 K S v e.val&&Jc K S l r)
noncomputable def tb(K:dw)(a:al):List Int:=match K.lookup a with
 |some o=>match o.data with
  |.dict es _=>es.toList.map (·.hash)
  |_=>[]
 |none=>[]
theorem DG(X:K.In W.base)(hh:∀a∈W.hid,W.base.get? a=none){l:List (Nat×V)}:∀{es:List fv},Jc K W.S l es=true->∀{ss:List a9},(l.map λp=>W.S[p.1]?)=ss.map some->es.map (·.hash)=ss.map (kW W.w)->
  ∃kvs,(∀e∈es,∃k,(bw W.prog W.w).is k e.key=true/\e.hash=(bw W.prog W.w).hash k)/\Pairs (bw W.prog W.w) es kvs/\kvs.map (·.1)=ss/\nq W [] W.base l kvs:=by
 induction l with
 |nil=>
  intro es h ss e1 e2;rw[mP h] at e2 ⊢
  cases ss with
  |nil=>exact⟨[],λZ hm=>(nomatch hm),.nil,rfl,rfl⟩
  |cons _ _=>exact nomatch e1
 |cons p l ih=>
  intro es h ss e1 e2;obtain ⟨k,v⟩:=p;refine mJ (nY h) λe r ee h=>?_;have h:=b2 h;have h':=b2 h.2;refine mJ (sT h.1) λs t Yx hs=>?_
  cases ss with
  |nil=>exact nomatch e1
  |cons s' ss=>
   have e1:=dp e1;rw[ee] at e2 ⊢;have e2:=dp e2;refine qv (ih h'.2 e1.2 e2.2) λkvs k1 k2 k3 k4=>?_;have q:s=s':=am ((eq_of_beq hs).symm.trans e1.1)
   have is:(bw W.prog W.w).is s' e.key=true:=by rw[Yx,q];exact beq_self_eq_true s'
   refine⟨(s',e.val)::kvs,λe' hm=>?_,.cons is rfl k2,congrArg (s'::·) k3,s',e.val,kvs,rfl,e1.1,vI X hh h'.1,k4⟩
   rcases bd.mp hm with z | z
   .rw[z];exact⟨s',is,e2.1⟩
   .exact k1 e' z
noncomputable def KT(K:dw)(S:List a9)(l:List (Nat×V))(a:al):Bool:=decide (a≠ef)&&(K.lookup a).any λo=>Aq o "dict" && Im o.data λes=>Jc K S l es
theorem Dv(X:K.In W.base)(hh:∀a∈W.hid,W.base.get? a=none){l:List (Nat×V)}{a:al}(h:KT K W.S l a=true){ss:List a9}(e1:(l.map λp=>W.S[p.1]?)=ss.map some)(nd:ss.Nodup)(e2:tb K a=ss.map (kW W.w)):mm W [] W.base (.dct l) (.ref a):=by
 have h:=b2 h;refine l8 (oU h.2) λo e h'=>?_;have h':=b2 h';refine mJ (Ci h'.2) λes n e3 Sp=>?_;have e4:=vK h'.1
 have e5:es.toList.map (·.hash)=ss.map (kW W.w):=by
  unfold tb at e2;rw[e] at e2;dsimp only at e2;rw[e3] at e2;exact e2
 refine qv (DG X hh Sp e1 e5) λkvs k1 k2 k3 k4=>?_;exact⟨a,kvs,rfl,⟨λhm=>(nomatch hm),o,X _ _ e⟩,of_decide_eq_true h.1,⟨o,es,n,X _ _ e,by rw[e4];exact⟨rfl,rfl,rfl⟩,e3,λx hx=>k1 x (i8.mpr hx),k2,by rw[k3];exact nd⟩,k4⟩
noncomputable def KO(K:dw)(C:al)(attrs:List a9):Bool:=decide (dQ K (.ref C) "__getattribute__" = some (some (.builtin "object.__getattribute__")))&&(decide (dQ K (.ref C) "__getattr__" = some none)&&(decide (dQ K (.ref C) "__setattr__" = some (some (.builtin "object.__setattr__")))&&
 (plainOver K C&&((lV K C).any (·.hasDict)&&attrs.all λx=>decide (dQ K (.ref C) x=some none)))))
theorem Dr{C:al}(h:KO K C attrs=true):pw K C attrs:=
 have h1:=b2 h;have h2:=b2 h1.2;have h3:=b2 h2.2;have h4:=b2 h3.2;have h5:=b2 h4.2
 ⟨of_decide_eq_true h1.1,of_decide_eq_true h2.1,of_decide_eq_true h3.1,h4.1,h5.1,λx hx=>of_decide_eq_true (bh.mp h5.2 x hx)⟩
noncomputable def Lf(K:dw)(C:al):Bool:=(K.lookup C).any λo=>decide (o.cls=.type "type")&&((EJ o.data λcd=>!cd.hasDel&&nX cd.mro λv bm=>decide (v=.ref C)&&(bm.contains (.type "BaseException")&&(bm.contains (.type "Exception")&&(!bm.contains (.type "AttributeError")&&!bm.contains (.type "NameError")))))&&
 nX o.slots.toList λZ l=>nX l λZ l=>nX l λZ l=>nX l λZ l=>wq l λx Z=>decide (x=some (.builtin "Exception.__new__")))
theorem DK{base:aQ}(X:K.In base){C:al}(h:Lf K C=true):∃p,base.get? C=some (xX.obj p C "Exception.__new__")/\p.bm.contains (.type "BaseException")=true/\p.bm.contains (.type "Exception")=true/\p.bm.contains (.type "AttributeError")=false/\p.bm.contains (.type "NameError")=false:=by
 refine l8 (oU h) λo e h=>?_;have h:=b2 h;have h':=b2 h.2;refine l8 (wn h'.1) λcd e1 h1=>?_;have h1:=b2 h1;refine mJ (nY h1.2) λv bm e2 h2=>?_;have h2:=b2 h2;have h3:=b2 h2.2;have h4:=b2 h3.2;have h5:=b2 h4.2;refine mJ (nY h'.2) λk0 l0 f0 g=>?_;refine mJ (nY g) λk1 l1 f1 g=>?_;refine mJ (nY g) λk2 l2 f2 g=>?_;refine mJ (nY g) λk3 l3 f3 g=>?_;refine mJ (Cp g) λk4 k5 f4 g=>?_;obtain ⟨oc,od,V7,⟨sl⟩⟩:=o;obtain ⟨nm,bs,mro,ns,qn,hd,sn,sub,ab,col,del⟩:=cd;have q1:oc=.type "type" := of_decide_eq_true h.1;have q2:V7=.cls ⟨nm,bs,mro,ns,qn,hd,sn,sub,ab,col,del⟩:=e1;have q3:mro=v::bm:=e2;have q4:v=.ref C:=of_decide_eq_true h2.1;have q5:del=false:=vv h1.1
 have q6:sl=[k0,k1,k2,k3,some (.builtin "Exception.__new__"),k5]:=by
  rw[show sl=k0::l0 from f0,f1,f2,f3,f4,of_decide_eq_true g]
 rw[q1,q2,q3,q4,q5,q6] at e;exact⟨⟨nm,qn,ns,bs,bm,hd,sn,sub,ab,col,od,k0,k1,k2,k3,k5⟩,X _ _ e,h3.1,h4.1,vv h5.1,vv h5.2⟩
structure zp extends Lg where
 as:List al
 ml:List ((Nat×Nat)×Nat)
 il:List (Nat×Nat)
 fns:List AV
 vars:List (List (a9×Nat))
 cls:Nat->al
 clsL:List al
 exc:al
 kd:QT
 file:a9
 mro:List ae
 dicts:List (Nat×al×List a9)
noncomputable def zp.P(c:zp):Pg:=c.G.P
structure v5(c:zp):Prop where
 meth:∀k cl f,c.P.meth cl k=some f->((cl,k),f)∈c.ml
 init:∀cl f,c.P.init cl=some f->(cl,f)∈c.il
 fn:∀f,c.P.fn f=c.fns[f]?
 cls:∀n,c.cls n∈c.clsL
 nodup:c.S.Nodup
 order:c.S.Pairwise λa b=>fT a.cps.toList b.cps.toList=true
 strOk:∀s∈c.S,d7 s=true
 slenLe:∀k:Nat,c.P.slen k<=bM
 slen:∀(k:Nat) (s:a9),c.S[k]?=some s->s.length<=c.P.slen k
 cat:∀(a:Nat) (i:Int) (d:Nat) (s:a9),c.P.cat a i=some d->c.S[a]?=some s->c.S[d]?=some (s++cq (toString i))
 pass:∀self,lh self "__setattr__" c.mro=pure ()
noncomputable def DZ(K:dw)(a:al):Bool:=(K.lookup a).any λo=>GR o.data λZ=>true
noncomputable def QK(K:dw)(x:a9)(v:ae):Bool:=decide (nsIn K cO x=some (some v))
noncomputable def J0(K:dw)(a:al):Bool:=decide (jH K (.ref a)=some (.type "function"))
noncomputable def KU(c:zp)(K:dw)(k:Nat)(y:ae)(d:Nat×al×List a9):Bool:=decide (y=.ref d.2.1)&&(DC (c.P.const k)).any λl=>KT K c.S l d.2.1&&(decide ((l.map λp=>c.S[p.1]?)=d.2.2.map some)&&decide d.2.2.Nodup)
noncomputable def KP(c:zp)(K:dw)(k:Nat)(x:a9):Bool:=(nsIn K cO x).any λo=>o.any λy=>G7 K c.S (c.P.const k) y||c.dicts.any (KU c K k y)
noncomputable def HU(c:zp)(K:dw)(m:(Nat×Nat)×Nat):Bool:=(c.S[m.1.2]?).all λnm=>decide (dQ K (.ref (c.cls m.1.1)) nm=some (some (.ref (c.G.fnA m.2))))&&(J0 K (c.G.fnA m.2)&&DZ K (c.G.fnA m.2))
noncomputable def Lx(c:zp)(K:dw)(m:Nat×Nat):Bool:=makesIn K (c.cls m.1)&&(decide (dQ K (.ref (c.cls m.1)) "__init__" = some (some (.ref (c.G.fnA m.2))))&&J0 K (c.G.fnA m.2))
noncomputable def Rg(c:zp)(K:dw):Bool:=(decide (nsIn K cStatics "thirdparty.any" = some none)&&(Lf K c.exc&&(decide (dQ K (.ref c.exc) "__setattr__" = some (some (.builtin "object.__setattr__")))&&((lV K c.exc).any (λcd=>cd.hasDict&&decide (cd.mro=c.mro))&&(decide (iX K c.exc (.type "object")=some true)&&decide (iX K c.exc (.type "Exception")=some true))))))&&
 ((DW K c.file c.kd.f1 c.kd.D1 "spot" ["self", "what", "spot"]&&DW K c.file c.kd.f0 c.kd.D0 "what" ["self", "what"])&&((decide (iX K c.exc (.ref c.kd.D1)=some true)&&(decide (iX K c.exc (.ref c.kd.D0)=some true)&&(decide (eO K c.exc c.kd.D1 "__init__" = some (some (.ref c.kd.f0)))&&(fnIn K c.kd.f0&&decide (eO K c.exc c.kd.D0 "__init__" = some (some (.builtin "Exception.__init__")))))))&&
 ((decide (fJ K c.exc "spot" = some none)&&decide (fJ K c.exc "what" = some none))&&(decide (dQ K (.ref c.exc) "__init__" = some (some (.ref c.kd.f1)))&&J0 K c.kd.f1))))
noncomputable def QY(c:zp)(K:dw):Bool:=(rQ (KP c K) c.G.nm.cn 0&&(rQ (λf (o:Option a9)=>o.all λx=>QK K x (.ref (c.G.fnA f))&&DZ K (c.G.fnA f)) c.G.nm.fnm 0&&(rQ (λk x=>QK K x (.ref (c.cls k))) c.G.nm.cnm 0&&(QK K "KindFault" (.ref c.exc)&&o5.all λx=>decide (nsIn K cO x=some none)))))&&
 (((c.clsL.all λa=>KO K a c.attrs)&&(c.ml.all (HU c K)&&c.il.all (Lx c K)))&&((Rg c K&&(K.lookup ef).isSome)&&rQ (λf F=>QX ⟨c.toLg,K,λZ=>none,λZ=>none⟩ ((c.vars[f]?).getD []) f F) c.fns 0))
structure Gives(c:zp)(w:dW)(h:aQ)(K:dw):Prop where
 kin:K.In h
 ok:QY c K=true
 hash:(c.dicts.map λd=>tb K d.2.1)=c.dicts.map λd=>d.2.2.map (kW w)
noncomputable def DR(c:zp):Hook where
 α:=Bool×List (List Int)
 obs:=λs=>(c.as.all (λa=>(s.heap.get? a).isSome)&&QY c (fragOf c.as s.heap),c.dicts.map λd=>tb (fragOf c.as s.heap) d.2.1)
 val:=λw=>(true,c.dicts.map λd=>d.2.2.map (kW w))
 says:=λw h=>∃K,Gives c w h K
 of:=λw s e=>⟨fragOf c.as s.heap,Go (b2 (congrArg Prod.fst e)).1,(b2 (congrArg Prod.fst e)).2,congrArg Prod.snd e⟩
 keeps:=λw h h' zq k=>mF zq λK g=>⟨K,g.kin.keeps k,g.ok,g.hash⟩
theorem Cd{f g:α->β}{l:List α}:l.map f=l.map g->∀x∈l,f x=g x:=by
 induction l with
 |nil=>exact λZ Z h=>nomatch h
 |cons y l ih=>
  intro e x hx;have e:=dp e
  rcases bd.mp hx with q | q
  .rw[q];exact e.1
  .exact ih e.2 x q
noncomputable abbrev zp.wd(c:zp)(prog:cw)(w:dW)(h:aQ)(ws:List al):Wd:={prog:=prog,w:=w,S:=c.S,base:=h,cls:=c.cls,exc:=c.exc,hid:=ws}
structure Told(prog:cw)(h:aQ)(mg mb:a9->Option ae):Prop where
 g:h.Ns cO mg
 b:h.Ns d9 mb
 nolimit:h.NoLimit
 builtins:∀x:a9,x≠"__name__" -> mb x=gA x
 top:(prog.main.scope.names.lookup ("super" : a9)).isSome=false
section
variable {c:zp}
theorem Gc(G:Gives c w h K)(T:Told prog h mg mb)(hh:∀a∈ws,h.get? a=none){x:a9}(e:KP c K k x=true):∃y,mg x=some y/\mm (c.wd prog w h ws) [] h (c.P.const k) y:=by
 refine l8 (oU e) λo e1 e=>?_;refine l8 (oU e) λy e2 e=>?_;refine⟨y,mg_of G.kin T.g (e2▸e1),?_⟩
 rcases yi e with e | e
 .exact vI (W:=c.wd prog w h ws) G.kin hh e
 .refine l8 (cL.mp e) λd hd e=>?_;have e:=b2 e;refine l8 (oU e.2) λl e3 e'=>?_;have e':=b2 e';have SQ:=b2 e'.2;rw[of_decide_eq_true e.1,wV e3];exact Dv (W:=c.wd prog w h ws) G.kin hh e'.1 (of_decide_eq_true SQ.1) (of_decide_eq_true SQ.2) (Cd G.hash d hd)
theorem wc(X:K.In h){a:al}(e:DZ K a=true):∃o fd,h.get? a=some o/\o.data=.func fd:=by
 refine l8 (oU e) λo e1 e=>?_;refine l8 (vC e) λfd e2 Z=>?_;exact⟨o,fd,X _ _ e1,e2⟩
theorem yL:∀x∈o5,x≠("__name__" : a9):=by decide
theorem Bd(G:Gives c w h K)(T:Told prog h mg mb)(hh:∀a∈ws,h.get? a=none):oS c.G (c.wd prog w h ws) mg mb:=by
 have h1:=b2 (b2 G.ok).1;have h2:=b2 h1.2;have h3:=b2 h2.2;have h4:=b2 h3.2
 exact⟨T.g,T.b,λk x e=>Gc G T hh (oW h1.1 e),λf x e=>mg_of G.kin T.g (of_decide_eq_true (b2 (oW h2.1 e)).1),λk x e=>mg_of G.kin T.g (of_decide_eq_true (oW h3.1 e)),mg_of G.kin T.g (of_decide_eq_true h4.1),
  λx hx=>⟨ns_none_of G.kin T.g (of_decide_eq_true (bh.mp h4.2 x hx)),T.builtins x (yL x hx)⟩⟩
theorem HB(C:v5 c)(G:Gives c w h K):nO (c.wd prog w h ws) c.P:=by
 have h1:=b2 (b2 G.ok).2;have h2:=b2 h1.2;have h3:=b2 h2.1;refine mF (bT.mp h3.2) λo e=>?_;exact⟨C.nodup,C.order,C.strOk,⟨o,G.kin _ _ e⟩,C.slenLe,C.slen,C.cat⟩
theorem Lq(C:v5 c)(G:Gives c w h K)(T:Told prog h mg mb)(hf:prog.main.file=c.file):Kf (c.wd prog w h ws) K mg mb:=by
 have h1:=b2 (b2 G.ok).2;have h2:=b2 h1.2;have h3:=b2 (b2 h2.1).1;have g1:=b2 h3.1;have g2:=b2 g1.2;have g3:=b2 g2.2;have g4:=b2 g3.2;have g5:=b2 g4.2;have f1:=b2 h3.2;have f2:=b2 f1.1;have f3:=b2 f1.2;have f4:=b2 f3.1;have f5:=b2 f4.2;have f6:=b2 f5.2;have f7:=b2 f6.2;have f8:=b2 f3.2;have f9:=b2 f8.1;have f10:=b2 f8.2;refine l8 (oU g4.1) λcd e1 e2=>?_;have e2:=b2 e2;have bu:=(b2 (b2 (b2 (b2 (b2 G.ok).1).2).2).2).2
 have hs:("super" : a9)∈o5:=by decide
 refine⟨⟨G.kin,T.nolimit,T.g,T.b,⟨ns_none_of G.kin T.g (of_decide_eq_true (bh.mp bu _ hs)),(T.builtins _ (yL _ hs)).trans (by kernel_rfl)⟩,T.top,of_decide_eq_true g1.1,DK G.kin g2.1,⟨_,PySem.F.excBase_Exception⟩,of_decide_eq_true g3.1,
  ⟨cd,e1,e2.1,λself=>by rw[of_decide_eq_true e2.2];exact C.pass self⟩,of_decide_eq_true g5.1,of_decide_eq_true g5.2⟩,c.kd,?_,?_,of_decide_eq_true f4.1,of_decide_eq_true f5.1,of_decide_eq_true f6.1,f7.1,of_decide_eq_true f7.2,of_decide_eq_true f9.1,of_decide_eq_true f9.2,of_decide_eq_true f10.1,of_decide_eq_true f10.2⟩
 .exact wb G.kin (by rw[hf];exact f2.1) rfl (by decide) (by decide) (by decide) (by decide)
 .exact wb G.kin (by rw[hf];exact f2.2) rfl (by decide) (by decide) (by decide) (by decide)
theorem G6(C:v5 c)(G:Gives c w h K)(T:Told prog h mg mb):C7 ⟨c.toLg,K,mg,mb⟩ (c.wd prog w h ws):=by
 intro f F e;have h1:=(b2 (b2 (b2 G.ok).2).2).2;exact Gn (p:=⟨c.toLg,K,mg,mb⟩) (W:=c.wd prog w h ws) G.kin T.nolimit (oW h1 ((C.fn f).symm.trans e))
theorem Jd(C:v5 c)(G:Gives c w h K)(T:Told prog h mg mb)(hf:prog.main.file=c.file):HJ ⟨c.toLg,K,mg,mb⟩ (c.wd prog w h []):=by
 intro ws hw;have hh:∀a∈ws++[],h.get? a=none:=λa ha=>hw a ((aT ws)▸ha);have gl:=Bd (prog:=prog) G T hh;have wk:=HB (prog:=prog) (ws:=ws++[]) C G;have h1:=b2 (b2 G.ok).2;have h2:=b2 h1.1;have h3:=b2 h2.2;have f1:=b2 (b2 (b2 G.ok).1).2
 exact⟨gl,wk,rfl,G.kin,λn=>Dr (bh.mp h2.1 _ (C.cls n)),λf x e=>wc G.kin (b2 (oW f1.1 e)).2,λk nm cl f e1 e2=>(by
   have m:=bh.mp h3.1 _ (C.meth k cl f e2);unfold HU at m;rw[show c.S[k]?=some nm from e1] at m;have m:=b2 m;have m2:=b2 m.2
   exact⟨⟨of_decide_eq_true m.1,of_decide_eq_true m2.1⟩,wc G.kin m2.2⟩),λcl f e=>(by
   have m:=b2 (bh.mp h3.2 _ (C.init cl f e));have m2:=b2 m.2
   exact⟨m.1,of_decide_eq_true m2.1,of_decide_eq_true m2.2⟩),Lq C G T hf⟩
end
noncomputable def w3:List Nat:=[184,191,198,205,219,226,233,240,247,268,275,280,287,294,301,308,315,336,343,350,364,371,378,390,397,404,411,425,430,435,442,447,454,459,466,473,480,494,499,506,513,520,525,532,537]
noncomputable def SY:List a9:=JY.map cq
noncomputable def Jm(v:V):List a9:=((DC v).getD []).map λp=>(SY[p.1]?).getD ""
noncomputable def c1:zp where
 G:={P:=L1.pg,nm:={S:=SY,cn:=L1.cnames.map cq,fnm:=L1.fnms.map λn=>n.map cq,cnm:=["Names", "Kinds"].map cq},fnA:=λf=>(w3[f]?).getD 0}
 S:=SY
 attrs:=["scopes", "asked", "names", "predicates", "asks", "assigned", "is_shown", "called"].map cq
 as:=[3,2,1,81,80,69,68,40,39,250,249,483,482,18,47,59,58,30,29]++w3++w3.map (· - 1)++List.range' 84 94
 ml:=L1.meths
 il:=L1.inits
 fns:=L1.fns
 vars:=L1.varss.map λl=>l.map λp=>(cq p.1,p.2)
 cls:=λn=>match n with | 0=>250 | _=>483
 clsL:=[250,483]
 exc:=81
 kd:=⟨59,30,69,40⟩
 file:=b4.prog.main.file
 mro:=[.ref 81,.ref 69,.ref 40,.type "Exception",.type "BaseException",.type "object"]
 dicts:=[(12,96,Jm L1.g_CALLS)]
noncomputable def Ah:List a9->Bool
 |[]=>true
 |a::l=>l.all (λb=>fT a.cps.toList b.cps.toList&&decide (a≠b))&&Ah l
theorem vF{l:List a9}:Ah l=true->l.Nodup/\l.Pairwise λa b=>fT a.cps.toList b.cps.toList=true:=by
 induction l with
 |nil=>exact λZ=>⟨.nil,.nil⟩
 |cons a l ih=>
  intro h;have h:=b2 h;have h':=ih h.2;exact⟨bo.mpr ⟨λhm=>of_decide_eq_true (b2 (bh.mp h.1 a hm)).2 rfl,h'.1⟩,.cons (λb hb=>(b2 (bh.mp h.1 b hb)).1) h'.2⟩
theorem y5:Ah SY=true:=by kernel_rfl
theorem O6:SY.all d7=true:=by kernel_rfl
theorem Hi:rQ (λk (s:a9)=>decide (s.length<=L1.pg.slen k)) SY 0=true:=by kernel_rfl
theorem O1:L1.slens.all (λn=>decide (n<=bM))=true:=by kernel_rfl
theorem IY:L1.cats.all (λm=>(SY[m.1.1]?).all λs=>decide (SY[m.2]?=some (s++cq (toString m.1.2))))=true:=by kernel_rfl
theorem vh[BEq α][LawfulBEq α]{l:List (α×β)}{a:α}{b:β}:l.lookup a=some b->(a,b)∈l:=by
 induction l with
 |nil=>exact mr
 |cons p l ih=>
  intro h;rw[show p=(p.1,p.2) from rfl,c0] at h
  by_cases q:(a==p.1)=true
  .rw[q] at h;rw[eq_of_beq q,<-am h];exact ax
  .rw[cQ.mpr q] at h;exact aE _ (ih h)
theorem IS{o:Option α}{f:α->Bool}(h:o.all f=true):∀a,o=some a->f a=true:=by
 intro a e;rw[e] at h;exact h
theorem KI:v5 c1 where
 meth:=λk cl f e=>vh (l:=L1.meths) e
 init:=λcl f e=>vh (l:=L1.inits) e
 fn:=λZ=>rfl
 cls:=λn=>by
  cases n with
  |zero=>exact ax
  |succ n=>exact aE _ ax
 nodup:=(vF y5).1
 order:=(vF y5).2
 strOk:=λs hs=>bh.mp O6 s hs
 slenLe:=λk=>by
  show (L1.slens[k]?).getD 0<=bM
  cases e:L1.slens[k]? with
  |none=>exact ce _
  |some n=>exact of_decide_eq_true (bh.mp O1 n (bq e))
 slen:=λk s e=>of_decide_eq_true (oW Hi e)
 cat:=λa i d s e1 e2=>of_decide_eq_true (IS (bh.mp IY _ (vh (l:=L1.cats) e1)) s e2)
 pass:=λself=>by kernel_rfl
theorem Gx{P:Params}{ds:List WData}:∀{vs:List ae},WellAll P h vs ds->kO [] ds .int=true->∃xs:List Int,xs.length=ds.length/\my W [] h (xs.map .int) vs:=by
 induction ds with
 |nil=>
  intro vs w _
  cases w
  exact⟨[],rfl,rfl⟩
 |cons d ds ih=>
  intro vs w e
  cases w with
  |@cons v vs _ _ w ws=>
   have e:=b2 e;refine l8 (ih ws e.2) λxs hl r=>?_
   cases w with
   |int i t=>exact⟨i::xs,congrArg (·+1) hl,_,_,rfl,⟨t,rfl⟩,r⟩
   |_=>exact ma e.1
theorem Ea{P:Params}{args:List WData}(hw:WellAll P h Rp args)(hs:lD [] args [.list .int]=true)(hid:W.hid=[])(hl:∀xs,args=[.list xs]->xs.length<=1000):∃xs:List Int,xs.length<=1000/\my W [] h [.lst (xs.map .int)] Rp:=by
 cases args with
 |nil=>exact ma hs
 |cons d r=>
  have e:=b2 hs
  cases r with
  |cons _ _=>exact ma e.2
  |nil=>
   cases hw with
   |@cons v vs _ _ w ws=>
    cases ws
    cases w with
    |@list a vs ds ho hwa=>
     have e1:kO [] ds .int=true:=(dm _).symm.trans e.1;refine l8 (Gx (W:=W) hwa e1) λxs hx r=>?_;refine⟨xs,by rw[hx];exact hl ds rfl,_,_,rfl,⟨a,vs,0,rfl,⟨λhm=>(nomatch hm),by rw[hid];exact λhm=>(nomatch hm)⟩,?_,ho,r⟩,rfl⟩;rw[r.length,ay,hx];exact ac (hl ds rfl) (by decide)
    |_=>exact ma e.1
theorem FM{c:zp}(C:v5 c)(T:Told prog Rn.heap mg mb)(G:Gives c w Rn.heap K)(hf:prog.main.file=c.file){fL:Nat}{nm:a9}(hn:c.G.nm.fnm[fL]?=some (some nm)){a:al}(ha:mg nm=some (.ref a))(hd:d<=230){args:List WData}(hw:WellAll w.params Rn.heap Rp args)(XQ:lD [] args [.list .int]=true)(hl:∀xs,args=[.list xs]->xs.length<=1000)(plain:∀xs:List Int,xs.length<=1000->∃σ',mu c.P d false fL [.lst (xs.map .int)] []=.ok (.bool true) σ')(hQ:∀s',(∀b o,Rn.heap.get? b=some o->s'.heap.get? b=some o)->s'.os=Rn.os->s'.gens=Rn.gens->Q (.bool true) s'):aM (b8 prog w) callerA (call (.ref a) Rp) Q E Rn:=by
 have env:=Gb (p:=⟨c.toLg,K,mg,mb⟩) (Jd C G T hf) (G6 C G T) d;have gl:=Bd (prog:=prog) (ws:=[]) G T (λZ hm=>nomatch hm);have e:a=c.G.fnA fL:=cI.inj (am (ha.symm.trans (gl.fns fL nm hn)));refine l8 (Ea (W:=c.wd prog w Rn.heap []) hw XQ rfl hl) λxs Wg r=>?_;refine mF (plain xs Wg) λσ' p=>?_;have inv:Inv (c.wd prog w Rn.heap []) [] [] Rn.heap:=⟨λZ Z e=>e,rfl,.nil,λZ hm=>(nomatch hm),λZ hm=>(nomatch hm),λZ Z Z e Z=>(nomatch e)⟩;rw[e];refine fX (env.now.ck (W:=c.wd prog w Rn.heap []) (q:=false) (A:=callerA) (l:=[]) ⟨rfl,?_,?_,λZ=>rfl⟩ trivial inv r ?_)
 .show 1+claimMargin+3 * d+3<=1000;exact ac (a8 (aC (bZ 3 hd) _) 3) (by decide)
 .show 4+20 * d+200<=9900;exact ac (a8 (aC (bZ 20 hd) _) 200) (by decide)
 .show rD _ _ _ (mu c.P d false fL [.lst (xs.map .int)] []) _;rw[p];intro Rm y s' g rv;rw[show y=.bool true from rv];exact hQ s' g.inv.base g.os g.gens
def WR{ε α:Type}(r:R ε α)(Q:α->St->Prop)(E:ε->St->Prop):Prop:=match r with
 |.ok a σ=>Q a σ
 |.exc e σ=>E e σ
 |.bad=>False
section
variable {ε Ur:Type}{Q:α->St->Prop}{E:ε->St->Prop}
theorem WR.bind{r:R ε β}{f:β->St->R ε α}(h:WR r (λb σ=>WR (f b σ) Q E) E):WR (r.bind f) Q E:=by cases r<;>exact h
theorem WR.lift{r:R Unit α}{e:ε}(h:WR r Q λZ σ=>E e σ):WR (r.lift e) Q E:=by cases r<;>exact h
theorem WR.fin{r:R Ur β}{f:β->St->R ε α}{g:Ur->St->R ε α}(h:WR r (λb σ=>WR (f b σ) Q E) λe σ=>WR (g e σ) Q E):WR (r.fin f g) Q E:=by cases r<;>exact h
theorem WR.ok{a:α}(h:Q a σ):WR (.ok a σ) Q E:=h
theorem WR.exc{e:ε}(h:E e σ):WR (.exc e σ) Q E:=h
theorem WR.of{o:Option α}{a:α}(e:o=some a)(h:Q a σ):WR (.of o σ) Q E:=by rw[e];exact h
theorem WR.opt{o:Option β}{f:β->R ε α}{a:β}(e:o=some a)(h:WR (f a) Q E):WR (.opt o f) Q E:=by rw[e];exact h
theorem WR.gd[Decidable p]{r:R ε α}(e:decide p=true)(h:WR r Q E):WR (Mine.Internal.gd p r) Q E:=by unfold Mine.Internal.gd;rw[if_pos (of_decide_eq_true e)];exact h
theorem WR.gdp[Decidable p]{r:R ε α}(e:p)(h:WR r Q E):WR (Mine.Internal.gd p r) Q E:=by unfold Mine.Internal.gd;rw[if_pos e];exact h
theorem WR.val{r:R ε α}{a:α}(e:r=.ok a σ)(h:Q a σ):WR r Q E:=by rw[e];exact h
theorem WR.mono{r:R ε α}{Q':α->St->Prop}{E':ε->St->Prop}(h:WR r Q E)(hq:∀a σ,Q a σ->Q' a σ)(he:∀e σ,E e σ->E' e σ):WR r Q' E':=by
 cases r with
 |ok a σ=>exact hq a σ h
 |exc e σ=>exact he e σ h
 |bad=>exact h
end
noncomputable def sq:Fl->V
 |.ret v=>v
 |.next=>.none
theorem WR.ended{r:R mc (Fl×mc)}{Q:V->St->Prop}{E:Unit->St->Prop}(h:WR r (λp σ=>Q (sq p.1) σ) λZ σ=>E () σ):WR (ended r) Q E:=by
 cases r with
 |ok p σ=>
  obtain ⟨fl,ρ⟩:=p
  cases fl<;>exact h
 |exc e σ=>exact h
 |bad=>exact h
theorem WR.call{P:Pg}{q:Bool}{f:Nat}{args:List V}{F:AV}{Q:V->St->Prop}{E:Unit->St->Prop}(hF:P.fn f=some F)(hl:args.length=F.params)(h:WR (dS P (mu P d) q F.body (vc F args) σ) (λp σ=>Q (sq p.1) σ) λZ σ=>E () σ):WR (mu P (d+1) q f args σ) Q E:=
 WR.opt hF (WR.gdp hl (WR.ended h))
section
variable {ε:Type}{a b:R ε α}{t:Bool}{Q:α->St->Prop}{E:ε->St->Prop}
theorem WR.iteT(e:t=true)(h:WR a Q E):WR (if t=true then a else b) Q E:=by rw[if_pos e];exact h
theorem WR.iteF(e:t=false)(h:WR b Q E):WR (if t=true then a else b) Q E:=by rw[if_neg (by rw[e];exact bR)];exact h
end
section
variable {P:Pg}{C:Bool->Call}{q:Bool}{Q:Fl×mc->St->Prop}{E:mc->St->Prop}
theorem mw{a b:MS}(h:WR (dS P C q a ρ σ) (λp σ=>WR (after (dS P C q b) p σ) Q E) E):WR (dS P C q (.seq a b) ρ σ) Q E:=WR.bind h
theorem mh{g:mc->St->R mc (Fl×mc)}(h:WR (g ρ σ) Q E):WR (after g (.next,ρ) σ) Q E:=h
theorem nj{g:mc->St->R mc (Fl×mc)}{v:V}(h:Q (.ret v,ρ) σ):WR (after g (.ret v,ρ) σ) Q E:=h
theorem sH{c:MX}{a b:MS}(h:WR (dT P q (C q) c ρ σ) (λt σ=>WR (if t=true then dS P C q a ρ σ else dS P C q b ρ σ) Q E) λZ σ=>E ρ σ):WR (dS P C q (.iff c a b) ρ σ) Q E:=WR.bind (WR.lift h)
theorem qs(h:WR (dE P q (C q) e ρ σ) (λv σ=>Q (.ret v,ρ) σ) λZ σ=>E ρ σ):WR (dS P C q (.ret e) ρ σ) Q E:=WR.bind (WR.lift h)
theorem nS(h:WR (dE P q (C q) e ρ σ) (λv σ=>WR (dA P q (C q) t v ρ σ) (λρ σ=>Q (.next,ρ) σ) E) λZ σ=>E ρ σ):WR (dS P C q (.asg t e) ρ σ) Q E:=WR.bind (WR.lift (h.mono (λZ Z h=>WR.bind h) λZ Z h=>h))
theorem zC(h:WR (dE P q (C q) e ρ σ) (λZ σ=>Q (.next,ρ) σ) λZ σ=>E ρ σ):WR (dS P C q (.expr e) ρ σ) Q E:=WR.bind (WR.lift h)
theorem mn(h:Q (.next,ρ) σ):WR (dS P C q .skip ρ σ) Q E:=h
theorem qr{it:MX}{b:MS}(hq:q=false)(h:WR (dI P q (C q) it ρ σ) (λi σ=>WR (pR i (λv ρ σ=>R.opt (nA t v ρ) λρ'=>dS P C q b ρ' σ) (i.fuel σ) 0 ρ σ) Q E) λZ σ=>E ρ σ):WR (dS P C q (.for t it b) ρ σ) Q E:=WR.gdp hq (WR.bind (WR.lift h))
theorem FY{a b:MX}(hq:q=false)(h:WR (dE P q (C q) a ρ σ) (λv σ=>WR (dE P q (C q) b ρ σ) (λx σ=>(HS v&&isInt x)=true/\E ρ σ) λZ σ=>E ρ σ) λZ σ=>E ρ σ):WR (dS P C q (.raise a b) ρ σ) Q E:=
 WR.gdp hq (WR.bind (WR.lift (h.mono (λZ Z h=>WR.bind (WR.lift (h.mono (λZ Z h=>WR.gdp h.1 (WR.exc h.2)) λZ Z h=>h))) λZ Z h=>h)))
theorem IL{b f:MS}(hq:q=false)(h:WR (dS P C q b ρ σ) (λp σ=>WR (qX (dS P C q f p.2 σ) λρ σ=>.ok (p.1,ρ) σ) Q E) λρ σ=>WR (qX (dS P C true f ρ σ) λρ σ=>.exc ρ σ) Q E):WR (dS P C q (.tryf b f) ρ σ) Q E:=WR.gdp hq (WR.fin h)
theorem IK{r:R mc (Fl×mc)}{k:mc->St->R mc (Fl×mc)}(h:WR r (λp σ=>p.1=.next/\WR (k p.2 σ) Q E) λZ Z=>False):WR (qX r k) Q E:=by
 cases r with
 |ok p σ=>
  obtain ⟨fl,ρ⟩:=p;rw[show fl=.next from h.1];exact h.2
 |exc _ _=>exact h
 |bad=>exact h
theorem q7{it:It}{f:V->mc->St->R mc (Fl×mc)}{i:Nat}{v:V}(e:it.at i σ=some (some v))(h:WR (f v ρ σ) (λp σ=>WR (after (pR it f k (i+1)) p σ) Q E) E):WR (pR it f (k+1) i ρ σ) Q E:=by
 refine WR.opt e ?_;exact WR.bind h
theorem un{it:It}{f:V->mc->St->R mc (Fl×mc)}{i:Nat}(e:it.at i σ=some none)(h:Q (.next,ρ) σ):WR (pR it f (k+1) i ρ σ) Q E:=by
 refine WR.opt e ?_;exact h
end
section
variable {P:Pg}{q:Bool}{E:Unit->St->Prop}
theorem m5{f:Nat}{Q:V->St->Prop}(h:WR (dL P q C es ρ σ) (λl σ=>WR (C f l σ) Q E) E):WR (dE P q C (.call f es) ρ σ) Q E:=WR.bind h
theorem C3{Q:V->St->Prop}(h:WR (dE P q C e ρ σ) (λv σ=>WR (R.opt (t9 P σ v k) λf=>(dL P q C es ρ σ).bind λl σ=>C f (v::l) σ) Q E) E):WR (dE P q C (.meth e k es) ρ σ) Q E:=WR.bind h
theorem Kr{v:V}{f:Nat}{Q:V->St->Prop}(e:t9 P σ v k=some f)(h:WR (dL P q C es ρ σ) (λl σ=>WR (C f (v::l) σ) Q E) E):WR (R.opt (t9 P σ v k) λf=>(dL P q C es ρ σ).bind λl σ=>C f (v::l) σ) Q E:=WR.opt e (WR.bind h)
theorem nN{Q:V->St->Prop}(h:WR (dL P q C es ρ σ) (λl σ=>decide (l.length<=me)=true/\Q (.tup l) σ) E):WR (dE P q C (.tup es) ρ σ) Q E:=WR.bind (h.mono (λZ Z h=>WR.gd h.1 h.2) λZ Z h=>h)
theorem oG{m:Bool}{Q:V->St->Prop}(h:WR (dL P q C es ρ σ) (λl σ=>decide (l.length<=me)=true/\WR (newL m l σ) Q E) E):WR (dE P q C (.lst m es) ρ σ) Q E:=WR.bind (h.mono (λZ Z h=>WR.gd h.1 h.2) λZ Z h=>h)
theorem C2{c a b:MX}{Q:V->St->Prop}(h:WR (dT P q C c ρ σ) (λt σ=>WR (if t=true then dE P q C a ρ σ else dE P q C b ρ σ) Q E) E):WR (dE P q C (.ite c a b) ρ σ) Q E:=WR.bind h
theorem C1{a b:MX}{Q:V->St->Prop}(h:WR (dE P q C a ρ σ) (λc σ=>WR (dE P q C b ρ σ) (λi σ=>WR (R.of (oM P σ c i) σ) Q E) E) E):WR (dE P q C (.idx a b) ρ σ) Q E:=WR.bind (h.mono (λZ Z h=>WR.bind h) λZ Z h=>h)
theorem HF{op:HD}{a b:MX}{Q:V->St->Prop}(h:WR (dE P q C a ρ σ) (λc σ=>WR (dE P q C b ρ σ) (λi σ=>WR (R.of (tG P σ op c i) σ) Q E) E) E):WR (dE P q C (.bin op a b) ρ σ) Q E:=WR.bind (h.mono (λZ Z h=>WR.bind h) λZ Z h=>h)
theorem AY{a b:MX}{Q:Bool->St->Prop}(h:WR (dE P q C a ρ σ) (λc σ=>WR (dE P q C b ρ σ) (λi σ=>WR (R.of (pS σ op c i) σ) Q E) E) E):WR (dT P q C (.cmp op a b) ρ σ) Q E:=WR.bind (h.mono (λZ Z h=>WR.bind h) λZ Z h=>h)
theorem mf{Q:List V->St->Prop}(h:WR (dE P q C e ρ σ) (λv σ=>WR (dL P q C es ρ σ) (λl σ=>Q (v::l) σ) E) E):WR (dL P q C (.cons e es) ρ σ) Q E:=WR.bind (h.mono (λZ Z h=>WR.bind h) λZ Z h=>h)
theorem mx{Q:List V->St->Prop}(h:Q [] σ):WR (dL P q C .nil ρ σ) Q E:=h
theorem Iy{b:BI}{Q:V->St->Prop}(hq:(q&&b.loud)=false)(h:WR (dE P q C e ρ σ) (λv σ=>WR (uI σ b v) Q E) E):WR (dE P q C (.bi b e) ρ σ) Q E:=WR.gdp hq (WR.bind h)
theorem uU{m:BM}{Q:V->St->Prop}(h:WR (dE P q C e ρ σ) (λv σ=>IT σ m v=true/\WR (dL P q C es ρ σ) (λl σ=>WR (sU σ m v l) Q E) E) E):WR (dE P q C (.bm m e es) ρ σ) Q E:=WR.bind (h.mono (λZ Z h=>WR.gdp h.1 (WR.bind h.2)) λZ Z h=>h)
theorem zw{Q:V->St->Prop}(hq:q=false)(h:WR (dI P q C Rt ρ σ) (λit σ=>WR (ou it (m3 P q C t cond RF ρ) (it.fuel σ) 0 [] σ) (λl σ=>Q (.lst l) σ) E) E):WR (dE P q C (.comp t Rt cond RF) ρ σ) Q E:=WR.gdp hq (WR.bind (h.mono (λZ Z h=>WR.bind h) λZ Z h=>h))
theorem CZ{it:It}{i:Nat}{v:V}{Q:List V->St->Prop}(e:it.at i σ=some (some v))(hb:nA t v ρ=some ρ')(h:WR (dT P q C cond ρ' σ) (λb σ=>WR (if b=true then (dE P q C RF ρ' σ).bind λx σ=>.ok (some x) σ else .ok none σ) (λx σ=>WR (Ba (ou it (m3 P q C t cond RF ρ) k) i l x σ) Q E) E) E):WR (ou it (m3 P q C t cond RF ρ) (k+1) i l σ) Q E:=by
 refine WR.opt e ?_;refine WR.bind (WR.opt hb ?_);exact WR.bind h
theorem HE{it:It}{i:Nat}{Q:List V->St->Prop}(e:it.at i σ=some none)(h:Q l σ):WR (ou it (m3 P q C t cond RF ρ) (k+1) i l σ) Q E:=by
 refine WR.opt e ?_;exact h
theorem C6{r:Nat->List V->St->R Unit (List V)}{i:Nat}{x:V}{Q:List V->St->Prop}(e:decide (l.length < me)=true)(h:WR (r (i+1) (l++[x]) σ) Q E):WR (Ba r i l (some x) σ) Q E:=WR.gd e h
end
section
variable {it:It}{f:V->mc->St->R mc (Fl×mc)}{i:Nat}{Q:Fl×mc->St->Prop}{E:mc->St->Prop}
theorem q0{o:Option mc}{g:mc->R mc (Fl×mc)}(e:o=some ρ')(h:WR (g ρ') Q E):WR (R.opt o g) Q E:=WR.opt e h
end
theorem sC{p0 p2 p3 p4 P:Prop}(h:p0/\p1/\p2/\p3/\p4)(k:p0->p1->p2->p3->p4->P):P:=k h.1 h.2.1 h.2.2.1 h.2.2.2.1 h.2.2.2.2
theorem ED{p0:Prop}{p2 p3:a2->a3->Prop}{P:Prop}(h:p0/\p1/\∃x2,∃x3,p2 x2 x3/\p3 x2 x3)(k:p0->p1->∀x2,∀x3,p2 x2 x3->p3 x2 x3->P):P:=h.2.2.elim λx2 h2=>h2.elim λx3 h3=>k h.1 h.2.1 x2 x3 h3.1 h3.2
theorem ub{p0:Prop}{p2 p3 p4:a2->a3->Prop}{P:Prop}(h:p0/\p1/\∃x2,∃x3,p2 x2 x3/\p3 x2 x3/\p4 x2 x3)(k:p0->p1->∀x2,∀x3,p2 x2 x3->p3 x2 x3->p4 x2 x3->P):P:=h.2.2.elim λx2 h2=>h2.elim λx3 h3=>k h.1 h.2.1 x2 x3 h3.1 h3.2.1 h3.2.2
theorem oJ{p0:Prop}{p1 p2 p3:a1->a2->Prop}{P:Prop}(h:p0/\∃x1,∃x2,p1 x1 x2/\p2 x1 x2/\p3 x1 x2)(k:p0->∀x1,∀x2,p1 x1 x2->p2 x1 x2->p3 x1 x2->P):P:=h.2.elim λx1 h1=>h1.elim λx2 h2=>k h.1 x1 x2 h2.1 h2.2.1 h2.2.2
theorem yM{p0 p1:a0->Prop}{p2 p3:a0->a3->Prop}{P:Prop}(h:∃x0,p0 x0/\p1 x0/\∃x3,p2 x0 x3/\p3 x0 x3)(k:∀x0,p0 x0->p1 x0->∀x3,p2 x0 x3->p3 x0 x3->P):P:=h.elim λx0 h0=>h0.2.2.elim λx3 h3=>k x0 h0.1 h0.2.1 x3 h3.1 h3.2
theorem sg{p0 p1 p4 p5 p6:a0->a1->Prop}{P:Prop}(h:∃x0,∃x1,p0 x0 x1/\p1 x0 x1/\p2 x0 x1/\p3 x0 x1/\p4 x0 x1/\p5 x0 x1/\p6 x0 x1)(k:∀x0,∀x1,p0 x0 x1->p1 x0 x1->p2 x0 x1->p3 x0 x1->p4 x0 x1->p5 x0 x1->p6 x0 x1->P):P:=h.elim λx0 h0=>h0.elim λx1 h1=>k x0 x1 h1.1 h1.2.1 h1.2.2.1 h1.2.2.2.1 h1.2.2.2.2.1 h1.2.2.2.2.2.1 h1.2.2.2.2.2.2
mutual
theorem wI:∀{n:Nat} {v:V},oA n v=true->sG v v=true
 |_,.none,_=>rfl
 |_,.bool _,_=>beq_self_eq_true _
 |_,.int _,_=>beq_self_eq_true _
 |_,.sym _,_=>beq_self_eq_true _
 |n,.tup l,h=>by cases n with
  |zero=>exact ma h
  |succ n=>exact sY (n:=n) h
 |n,.lst l,h=>by cases n with
  |zero=>exact ma h
  |succ n=>exact sY (n:=n) h
theorem sY:∀{n:Nat} {l:List V},m9 n l=true->vP l l=true
 |_,[],_=>rfl
 |n,v::l,h=>by
  show (sG v v&&vP l l)=true;rw[wI (b2 h).1,sY (b2 h).2];rfl
end
section
variable {v:V}
theorem Jp(e:rZ σ v=some l):(∃l,v=.lst l)\/∃m,v=.obj m/\listAt σ m=some l:=by
 rcases mZ e with e | e
 .exact .inl ⟨_,uQ e⟩
 .refine l8 (bs e) λn e1 e2=>?_;exact .inr ⟨n,oK e1,e2⟩
theorem JV(e:rI σ v=some l):sK v=none/\nu v=none/\rE σ v=none:=by
 rcases mZ e with e | e
 .rw[qY e];exact⟨rfl,rfl,rfl⟩
 .rcases Jp e with ⟨l,e⟩ | ⟨m,e,e1⟩
  .rw[e];exact⟨rfl,rfl,rfl⟩
  .rw[e];refine⟨rfl,rfl,?_⟩;show ((σ[m]?).bind O.d?)=none;rw[listAt_eq e1];rfl
end
theorem tU{k:Nat}{x:V}:∀{l:List (Nat×V)} (p:Nat×V),p∈ng l k x->p.1=k\/∃q∈l,q.1=p.1
 |[],p,h=>.inl (by rw[au.mp h])
 |(j,v)::l,p,h=>by
  unfold ng at h
  split at h
  .rename_i c
   rcases bd.mp h with h | h
   .exact .inl (by rw[h];exact eq_of_beq c)
   .exact .inr ⟨p,aE _ h,rfl⟩
  .rcases bd.mp h with h | h
   .exact .inr ⟨_,ax,by rw[h]⟩
   .exact (tU p h).imp id λzq=>l8 zq λq hq e=>⟨q,aE _ hq,e⟩
theorem u6{k:Nat}{x:V}:∀{l:List (Nat×V)},(l.map (·.1)).Nodup->((ng l k x).map (·.1)).Nodup
 |[],_=>by show [k].Nodup;exact bo.mpr (And.intro (λh=>nomatch h) cu)
 |(j,v)::l,h=>by
  have h:=bo.mp h;unfold ng
  split
  .exact bo.mpr h
  .rename_i c;refine bo.mpr ⟨λhm=>?_,u6 h.2⟩;refine l8 (aW.mp hm) λp hp e=>?_;have e:p.1=j:=e
   rcases tU p hp with e1 | ⟨q,hq,e1⟩
   .rw[<-e,e1] at c;exact c (beq_self_eq_true _)
   .exact h.1 (aW.mpr ⟨q,hq,e1.trans e⟩)
theorem m7{w:List Nat}:∀{l:List Nat},l.Nodup->(∀x∈l,x∈w)->l.length<=w.length
 |[],_,_=>ce _
 |a::l,h,k=>by
  have h:=bo.mp h;have ha:=k a ax;have:l.length<=(w.erase a).length:=m7 (w:=w.erase a) h.2 λx hx=>(List.mem_erase_of_ne λe=>h.1 (by rw[<-e];exact hx)).mpr (k x (aE _ hx));rw[List.length_erase_of_mem ha] at this;exact ac (bL this) (bB (c6 (List.length_pos_of_mem ha)))
theorem Rh:∀{a:Nat},¬a+6 < 6:=λh=>absurd h (dD.mpr (cK _ _))
theorem QZ:∀{a b:Nat},a<=b->0+a<=b:=λh=>(dz _).symm▸h
theorem Q0:∀{a b c:Nat},a+(b+1)<=c->a+1+b<=c:=λ{a b c}=>λh=>ac (bB (be a 1 b)) h
theorem Q1:∀{a b c:Nat},a+(b+1)<=c->a < c:=λh=>ao (bg (eT _)) h
theorem Q2:∀{a b c:Nat},a+(b+1)<=c->a+b<=c:=λh=>ia h
theorem Q3:∀{a:Nat},a=9->8 < a:=λh=>h▸(by decide)
theorem Ri:∀{a b:Nat},a<=6->6<=b->(↑a:Int)<=(↑b:Int):=λh k=>bH.mpr (ac h k)
theorem Q4:∀{a:Nat},a < 6->(↑a:Int)<=1000:=λh=>bH.mpr (ac (bK h) (by decide))
theorem Q5:∀{a:Nat},-1000<=(↑a:Int):=λ{a}=>b6 (b:=0) (by decide) (bj a)
theorem PW:∀{a:Nat},(↑(a+1):Int) - 1=(↑a:Int):=λ{a}=>Int.add_sub_cancel a 1
theorem PX:∀{a b:Nat},a+1 < 1+b->a < b:=λ{a b}=>λh=>Nat.lt_of_succ_lt_succ (ao h (bB (gz 1 b)))
theorem PY:∀{a:Nat},(↑(a+1):Int)≠0:=λ{a}=>Int.natCast_ne_zero.mpr (Nat.succ_ne_zero a)
theorem PZ:∀{a:Nat},0 < 1+a:=aA _ _
theorem P1:∀{a:Nat},a<=100000->(↑a:Int)+1<=200000:=λh=>bH.mpr (ac (bL h) (by decide))
theorem P2:∀{a:Nat},0<=(↑a:Int)+1:=λ{a}=>bH.mpr (ce (a+1))
theorem P3:∀{a:Nat},a<=100000->(↑a:Int)<=200000:=λh=>bH.mpr (ac h (by decide))
theorem P4:∀{a:Nat},a < 3->a < 6:=λh=>ao h (by decide)
theorem P5:∀{a:Nat},¬a+3 < 3:=λh=>absurd h (dD.mpr (cK _ _))
theorem Jy:∀{a:Nat},a+5<=a+5:=bv (by decide) _
theorem P6:∀{a:Nat},a<=90000->a+3<=100000:=λh=>ac (a8 h _) (by decide)
theorem M9:∀{a:Nat},a+4<=a+5:=bv (by decide) _
theorem Eo:∀{a b:Nat},a<=3->b < a->b < 3:=λh k=>ao k h
theorem Nv:∀{a:Nat},a<=90000->(↑(a+3):Int)<=200000:=λh=>bH.mpr (ac (a8 h _) (by decide))
theorem NG:∀{a:Nat},a+3<=a+5:=bv (by decide) _
theorem P7:∀{a:Nat},a<=90000->a+1<=100000:=λh=>aB h (by decide)
theorem P8:∀{a:Nat},a<=90000->(↑a:Int)<=200000:=λh=>bH.mpr (ac h (by decide))
theorem Jz:∀{a b:Nat},a < b->b<=3->a < 3:=λh k=>ao h k
theorem JA:∀{a b c:Nat},a<=b->c < a->c < b:=λh k=>ao k h
theorem P9:∀{a:Nat},a<=90000->(↑(a+4):Int)<=200000:=λh=>bH.mpr (ac (a8 h _) (by decide))
theorem Qa:∀{a:Nat},a<=90000->(↑(a+2):Int)<=200000:=λh=>bH.mpr (ac (a8 h _) (by decide))
theorem Qb:∀{a:Nat},a<=90000->a<=100000:=λh=>ac h (by decide)
theorem Os:∀{a b c:Nat},a < b+(c+1)->a < b+1+c:=λ{a b c}=>λh=>ac h (bB (be b 1 c).symm)
theorem Ot:∀{a b:Nat},a<=3->b<=a->b<=10:=λh k=>ac k (ac h (by decide))
theorem Ou:∀{a b:Nat},a<=b->¬b < a+0:=λh k=>absurd k (dD.mpr h)
theorem xg:∀{a b:Nat},a < b->a≠b+1:=λh=>aP (aS h)
theorem zX:∀{a b:Nat},a < b->a≠b:=aP
theorem Ov:∀{a:Nat},a < 0+(a+1):=cK _ _
theorem Ow:∀{a b:Nat},a < b->b+1≠a:=λh=>aY (aS h)
theorem Ce:∀{a b:Nat},a < b->b≠a:=aY
theorem GJ:∀{a:Nat},a≠a+1:=aP (bg (by decide))
theorem Ox:∀{a b:Nat},a<=3->b=10000->b=b - (a+2)+(a+1)+1:=λh k=>(c6 (ac (a8 h 2) (k▸(by decide)))).symm
theorem Oy:∀{a:Nat},a=7->6 < a:=λh=>h▸(by decide)
theorem Oz:∀{a:Nat},a=7->5 < a:=λh=>h▸(by decide)
theorem OA:∀{a b:Nat},a+(b+1)<=10->a+1+b<=10:=λ{a b}=>λh=>ac (bB (be a 1 b)) h
theorem JB:∀{a b:Nat},a+(b+1)<=10->a<=10:=λh=>ac (aA _ _) h
theorem OB:∀{a:Nat},a<=10->0+a<=10:=λh=>aC h _
theorem Qc:∀{a:Nat},62<=a/\a < 68->¬121=a:=λh=>aY (ao h.2 (by decide))
theorem OC:∀{a:Nat},a < 6->62+a < 68:=λh=>bv h _
theorem GK:∀{a:Nat},62<=62+a:=aA _ _
theorem Qd:∀{a b c:Nat},a<=b->c+b=c+(b - a)+a:=λ{a b c}=>λh=>(congrArg (c+·) (c6 h).symm).trans (da ..).symm
theorem Qe:∀{a:Nat},a < 3->140+a < 143:=λh=>bv h _
theorem OD:∀{a:Nat},140<=140+a:=aA _ _
theorem Qf:∀{a b:Nat},a < 50->b=10000->b - (a+1)=b - (a+1) - 1+1:=λ{a b}=>λh k=>(c6 (jf (ac (bB (gz 1 (a+1))) (ac (bL h) (k▸(by decide)))))).symm
theorem Qg:∀{a:Nat},a < 50->a+1 < 10000:=λh=>aB h (by decide)
theorem Qh:∀{a:Nat},a < 50->0+(a+1)<=100:=λh=>ac (aC h _) (by decide)
theorem Qi:∀{a b c:Nat},a < b/\c < b->b≠c:=λh=>aY h.2
theorem Qj:∀{a b c:Nat},a < b/\c < b->b≠a:=λh=>aY h.1
theorem OE:∀{a:Nat},(↑(a+1):Int) > 0:=c8.mpr (eT _)
theorem Qk:∀{a b c:Nat},a - b=c+1->a - (b+1)=c:=λh=>congrArg Nat.pred h
theorem Ql:∀{a b c:Nat},a+(b+1)<=100->c=10000->c - b=c - b - 1+1:=λ{a b c}=>λh k=>(c6 (jf (ac (bB (gz 1 b)) (ac (ac (cK (b+1) a) h) (k▸(by decide)))))).symm
theorem Qm:∀{a b:Nat},a+1 < b+1->a < b:=bW
theorem Qo:∀{a b:Nat},a+(b+1)<=100->a+1+b<=100:=λ{a b}=>λh=>ac (bB (be a 1 b)) h
theorem Qp:∀{a b:Nat},a+1 < b->b=b - 1+1:=λh=>(c6 (ac (cK 1 _) h)).symm
theorem Qq:∀{a:Nat},0 < a->a=a - 1+1:=λh=>(c6 h).symm
theorem OF:∀{a b:Nat},a < b->a < b+1:=aS
theorem Qr:∀{a:Nat},a+9≠a+5:=λh=>absurd (aL h) (by decide)
theorem Qt:∀{a:Nat},a+7≠a+5:=λh=>absurd (aL h) (by decide)
theorem Qu:∀{a b c:Nat},a+5 < b->b=c->a+5≠c:=λh k=>k▸aP h
theorem Qv:∀{a:Nat},a+4≠a+5:=λh=>absurd (aL h) (by decide)
theorem OG:∀{a:Nat},a+3≠a+5:=λh=>absurd (aL h) (by decide)
theorem OH:∀{a:Nat},a+2≠a+5:=λh=>absurd (aL h) (by decide)
theorem OI:∀{a:Nat},a+1≠a+5:=λh=>absurd (aL h) (by decide)
theorem OJ:∀{a:Nat},a≠a+5:=aP (bg (by decide))
theorem OK:∀{a:Nat},a < 6->62<=62+a/\62+a < 68:=λh=>⟨aA _ _,bv h 62⟩
theorem Qw:∀{a b:Nat},¬a=b->¬62+a=62+b:=λh e=>h (aL e)
theorem Qx:∀{a b:Nat},¬a=b->¬140+a=140+b:=λh e=>h (aL e)
theorem JC:∀{a:Nat},a+1≠a+2:=λh=>absurd (aL h) (by decide)
theorem JD:∀{a:Nat},a≠a+2:=aP (bg (by decide))
theorem Qy:∀{a:Nat},a<=a+2:=aA _ _
theorem JE:∀{a:Nat},a<=a+1:=aA _ _
theorem Qz:∀{a b:Nat},a=b+2->a<=b+2:=λh=>bB h
theorem OL:∀{a b:Nat},a=b+1->a<=b+1:=λh=>bB h
theorem QA:∀{a b:Nat},a=b+2->b+1 < a:=λh=>bB h.symm
theorem OM:∀{a b:Nat},a=b+1->b < a:=λh=>bB h.symm
theorem QB:∀{a b:Nat},a=b+2->b < a:=λh=>h▸bg (by decide)
theorem JF:∀{a b:Nat},a=b+2->b<=a:=λh=>h▸aA _ _
theorem ON:∀{a b:Nat},a=b+1->b<=a:=λh=>h▸aA _ _
theorem OO:∀{a b c:Nat},a<=b->c < a->c≠b:=λh k=>aP (ao k h)
theorem JG:∀{a:Nat},a < 3->140<=140+a/\140+a < 143:=λh=>⟨aA _ _,bv h 140⟩
theorem QC:∀{a b c:Nat},a<=b->b=c->¬c < a:=λh k=>dD.mpr (k▸h)
theorem QD:∀{a b c:Nat},a<=b+1->a+c<=b+(c+1):=λ{a b c}=>λh=>ac (a8 h c) (bB (be b 1 c))
theorem QE:∀{a b c:Nat},¬a=b->¬c+a=c+b:=λh e=>h (aL e)
theorem OP:∀{a b:Nat},a+1+b+1=a+b+1+1:=λ{a b}=>congrArg (·+1) (be a 1 b)
theorem QF:∀{a b:Nat},(↑a:Int) < (↑(a+(b+1)):Int):=λ{a b}=>c8.mpr (bg (eT b))
theorem QG:∀{a b:Nat},a<=10->b<=a->0+b<=10:=λ{a b}=>λh k=>(dz b).symm▸ac k h
theorem QH:∀{a b c:Nat},a<=b->c=b+1->a<=c:=λ{a b c}=>λh k=>ac h (k▸dU b)
theorem OQ:∀{a b c:Nat},a < b->c=b+1->a < c:=λh k=>k.symm▸ao h (aA _ _)
theorem QI:∀{a b c:Nat},a+(b+1)=c+1->a+b=c:=λh=>fD h
theorem QJ:∀{a b:Nat},a=a+(b+1)->False:=λ{a b}=>λh=>absurd h (aP (bg (eT b)))
theorem Ly:∀{a b c d:Nat},a=b+1->c+(b+1)<=10->d=10000->d=a+(d - a - 1)+1:=λ{a b c d}=>λh k l=>((be a _ 1).trans (dM (l▸ac (bL (h▸ac (cK (b+1) c) k)) (by decide)))).symm
theorem Lz:∀{a b c:Nat},a=b+1->c+(b+1)<=10->a<=10:=λ{a b c}=>λh k=>h▸ac (cK (b+1) c) k
theorem LA:∀{a b c:Nat},a+10 < b/\b < c->b≠a+2:=λ{a b c}=>λh=>aY (aB (aC (by decide) a) h.1)
theorem LB:∀{a b c:Nat},a+10 < b/\b < c->b≠a:=λ{a b c}=>λh=>aY (aB (aA a 10) h.1)
theorem LC:∀{a b:Nat},a+9 < b->a+8 < b:=λh=>aB (aC (by decide) _) h
theorem LF:∀{a:Nat},a+8≠a+2:=λh=>absurd (aL h) (by decide)
theorem LG:∀{a:Nat},a+8≠a:=aY (bg (by decide))
theorem LH:∀{a b:Nat},a+9 < b->b+1≠a+2:=λ{a b}=>λh=>aY (aB (aC (by decide) a) (aS h))
theorem LI:∀{a b:Nat},a+9 < b->b+1≠a:=λ{a b}=>λh=>aY (aB (aA a 9) (aS h))
theorem LJ:∀{a b:Nat},a+9 < b->b≠a+2:=λh=>aY (aB (aC (by decide) _) h)
theorem LK:∀{a b:Nat},a+9 < b->b≠a:=λ{a b}=>λh=>aY (aB (aA a 9) h)
theorem LL:∀{a b c:Nat},a+9 < b->c=b+2->a+2 < c:=λ{a b c}=>λh k=>k▸aB (aC (by decide) a) (aS (aS h))
theorem LM:∀{a b c:Nat},a+9 < b->c=b+2->a < c:=λ{a b c}=>λh k=>k▸aB (aA a 9) (aS (aS h))
theorem LN:∀{a b:Nat},a+9 < b->a<=b+1:=λ{a b}=>λh=>ib (ac (aA a 9) (bK h))
theorem LO:∀{a b:Nat},a+9 < b->a<=b:=λ{a b}=>λh=>ac (aA a 9) (bK h)
theorem LP:∀{a b c:Nat},a+9 < b->c < 10->b+1≠a+c:=λ{a b c}=>λh k=>aY (aB (aC (bW k) a) (aS h))
theorem LQ:∀{a b c:Nat},a+9 < b->c < 10->b≠a+c:=λ{a b c}=>λh k=>aY (aB (aC (bW k) a) h)
theorem LR:∀{a:Nat},a+9≠a+2:=λh=>absurd (aL h) (by decide)
theorem LU:∀{a:Nat},a+9≠a:=aY (bg (by decide))
theorem LV:∀{a:Nat},a+7≠a+2:=λh=>absurd (aL h) (by decide)
theorem LW:∀{a:Nat},a+7≠a:=aY (bg (by decide))
theorem LX:∀{a:Nat},a+5≠a+2:=λh=>absurd (aL h) (by decide)
theorem LY:∀{a:Nat},a+5≠a:=aY (bg (by decide))
theorem LZ:∀{a:Nat},a+4≠a+2:=λh=>absurd (aL h) (by decide)
theorem L0:∀{a:Nat},a+4≠a:=aY (bg (by decide))
theorem L4:∀{a:Nat},a+3≠a+2:=λh=>absurd (aL h) (by decide)
theorem L5:∀{a:Nat},a+3≠a:=aY (bg (by decide))
theorem L6:∀{a:Nat},a+1≠a:=aY (bg (by decide))
theorem L7:∀{a:Nat},a+1 - a=1:=λ{a}=>dg a 1
theorem L8:∀{a:Nat},a+7 < a+8:=bv (by decide) _
theorem L9:∀{a:Nat},a+5 < a+8:=bv (by decide) _
theorem Ma:∀{a:Nat},a+4 < a+8:=bv (by decide) _
theorem Mb:∀{a:Nat},a+3 < a+8:=bv (by decide) _
theorem Mc:∀{a:Nat},a+2 < a+8:=bv (by decide) _
theorem Md:∀{a:Nat},a+1 < a+8:=bv (by decide) _
theorem Me:∀{a:Nat},a < a+8:=bg (by decide)
theorem Mf:∀{a b c:Nat},a=b+8\/b+10 < a->c < b+8\/c=b+9->a≠c:=λ{a b c}=>λh k=>h.elim (λh=>k.elim (λk=>aY (h▸k)) (λk=>h▸k▸aP (bO (b+8)))) (λh=>k.elim (λk=>aY (bN (ao k (aC (by decide) b)) h)) (λk=>k▸aY (bN (bO (b+9)) h)))
theorem Mg:∀{a b c d:Nat},a=b\/c<=a/\a<=c+10->d < c\/c+10 < d->d≠b->a≠d:=λ{a b c d}=>λh k n=>h.elim (λh e=>n (e.symm.trans h)) (λh=>k.elim (λk=>aY (ao k h.1)) (λk=>aP (aB h.2 k)))
theorem Eh:∀{a b c:Nat},a+10 < b->b < c->c≠a+8:=λ{a b c}=>λh k=>aY (bN (aB (aC (by decide) a) h) k)
theorem HV:∀{a b:Nat},¬a=b->¬140+b=140+a:=λh e=>h (aL e).symm
theorem Bl:∀{a b c:Nat},a+10 < b->b < c->a+10 < c:=λh k=>bN h k
theorem Ei:∀{a b c:Nat},a=b+2->c < b->c < a:=λh k=>h.symm▸ao k (aA _ _)
theorem Mh:∀{a b c:Nat},a+10 < b->b < c->c+1≠a+8:=λ{a b c}=>λh k=>aY (aS (bN (aB (aC (by decide) a) h) k))
theorem HW:∀{a b c d:Nat},a < b->c=b+2->c<=d->a < d:=λh k l=>ao (k▸aS (aS h)) l
theorem Mi:∀{a b c d e:Nat},a+10 < b->b < c->d=c+2->d<=e->a+8 < e:=λ{a b c d e}=>λh k l m=>ao (l▸aS (aS (bN (aB (aC (by decide) a) h) k))) m
theorem HX:∀{a b:Nat},a+10 < b->b≠a+8:=λh=>aY (aB (aC (by decide) _) h)
theorem Mj:∀{a:Nat},a+8<=a+10:=bv (by decide) _
theorem Mk:∀{a:Nat},a<=a+8:=aA _ _
theorem Ej:∀{a b c:Nat},a+10 < b->b < c->a+8≠c+1:=λ{a b c}=>λh k=>aP (aS (bN (aB (aC (by decide) a) h) k))
theorem Ek:∀{a b c:Nat},a+10 < b->b < c->a+8≠c:=λ{a b c}=>λh k=>aP (bN (aB (aC (by decide) a) h) k)
theorem Ml:∀{a b:Nat},a+10 < b->a+8≠b:=λh=>aP (aB (aC (by decide) _) h)
theorem HY:∀{a b c:Nat},a < b->c=b+2->a < c:=λh k=>k.symm▸ao h (aA _ _)
theorem Mm:∀{a b c:Nat},a+10 < b->b < c->a+8 < c+2:=λ{a b c}=>λh k=>aS (aS (bN (aB (aC (by decide) a) h) k))
theorem Mn:∀{a b:Nat},¬a=b->¬62+b=62+a:=λh e=>h (aL e).symm
theorem Mo:∀{a b c d:Nat},a < b->c=b+2->c<=d->a≠d:=λh k l=>aP (ao (k▸aS (aS h)) l)
theorem Mp:∀{a b c d e:Nat},a < b->c=b+2->c<=d->e=d+3->a < e:=λ{a b c d e}=>λh k l m=>m▸ao (ao (k▸aS (aS h)) l) (aA d 3)
theorem Mq:∀{a b c d:Nat},a=b+2->a<=c->d < b->d < c:=λ{a b c d}=>λh k l=>ao (ao l (h▸aA b 2)) k
theorem Mr:∀{a b c d:Nat},a=b+2->a<=c->d=c+3->b<=d:=λ{a b c d}=>λh k l=>l▸ac (ac (h▸aA b 2) k) (aA c 3)
theorem Ms:∀{a b c d:Nat},a+10 < b->b < c->d=c+2->a+8 < d:=λ{a b c d}=>λh k l=>l▸aS (aS (bN (aB (aC (by decide) a) h) k))
theorem Mt:∀{a b c:Nat},a=b+1->c < b->c < a:=λh k=>h.symm▸ao k (aA _ _)
theorem Mu:∀{a b c d:Nat},a=b+1->a<=c->d < b->d < c:=λ{a b c d}=>λh k l=>ao (ao l (h▸aA b 1)) k
theorem HZ:∀{a b c d:Nat},a=b+1->c<=d->a<=c->b<=d:=λ{a b c d}=>λh k l=>ac (h▸dU b) (ac l k)
theorem H0:∀{a b c d e:Nat},a+10 < b->c=b+1->d<=e->c<=d->a+10 < e:=λ{a b c d e}=>λh k l m=>ao (ao h (k▸dU b)) (ac m l)
theorem H3:∀{a:Nat},a<=6->a<=10:=λh=>ac h (by decide)
theorem Mv:∀{a:Nat},62<=a->a=62+(a - 62):=λh=>(dM h).symm
theorem H4:∀{a b c:Nat},a+10 < b->c < a->c < b:=λh k=>bN k (aB (aA _ _) h)
theorem Mw:∀{a b c:Nat},a+10 < b->c < a->c≠b:=λh k=>aP (bN (ao k (aA _ _)) h)
theorem Mx:∀{a b c d:Nat},a+10 < b->c=b+1->d < a->d < c:=λ{a b c d}=>λh k l=>k▸aS (bN (ao l (aA a 10)) h)
theorem My:∀{a b c d e:Nat},a+10 < b->c=b+1->c<=d->e < a->e < d:=λ{a b c d e}=>λh k l m=>ao (k▸aS (bN (ao m (aA a 10)) h)) l
theorem Mz:∀{a:Nat},a<=3->a<=10:=λh=>ac h (by decide)
theorem El:∀{a b:Nat},a<=3->b<=a->b<=3:=λh k=>ac k h
theorem MA:∀{a:Nat},62+a - 62=a:=λ{a}=>dg 62 a
theorem MB:∀{a b:Nat},a - 62=b->62<=a->a=62+b:=λh k=>h▸(dM k).symm
theorem H5:∀{a:Nat},a=4\/a=7\/a=9->a≠6:=λh=>h.elim (·▸(by decide)) (·.elim (·▸(by decide)) (·▸(by decide)))
theorem H6:∀{a:Nat},a=4\/a=7\/a=9->a < 10:=λh=>h.elim (·▸(by decide)) (·.elim (·▸(by decide)) (·▸(by decide)))
theorem MC:∀{a:Nat},a+9≠a+7:=λh=>absurd (aL h) (by decide)
theorem MD:∀{a:Nat},a+9≠a+4:=λh=>absurd (aL h) (by decide)
theorem ME:∀{a:Nat},a+9≠a+8:=λh=>absurd (aL h) (by decide)
theorem MF:∀{a:Nat},a<=a+9:=aA _ _
theorem H7:∀{a b:Nat},a<=6->b < a->62+b < 68:=λh k=>bv (ao k h) 62
theorem MG:∀{a:Nat},a+7≠a+9:=λh=>absurd (aL h) (by decide)
theorem MH:∀{a:Nat},a+7≠a+4:=λh=>absurd (aL h) (by decide)
theorem MI:∀{a:Nat},a+7≠a+8:=λh=>absurd (aL h) (by decide)
theorem MJ:∀{a:Nat},a<=a+7:=aA _ _
theorem MK:∀{a b:Nat},a<=3->b < a->140+b < 143:=λh k=>bv (ao k h) 140
theorem ML:∀{a:Nat},a+4≠a+9:=λh=>absurd (aL h) (by decide)
theorem MM:∀{a:Nat},a+4≠a+7:=λh=>absurd (aL h) (by decide)
theorem MN:∀{a:Nat},a+4≠a+8:=λh=>absurd (aL h) (by decide)
theorem MO:∀{a:Nat},a<=a+4:=aA _ _
theorem MP:∀{a b c:Nat},a<=b->c < a->b≠c:=λh k=>aY (ao k h)
theorem yJ:∀{a b:Nat},a<=6->b < a->b < 6:=λh k=>ao k h
theorem MQ:∀{a:Nat},140+a≠114:=λ{a}=>aY (ao (by decide) (aA 140 a))
theorem MR:∀{a b:Nat},a+1+b=a+(b+1):=be _ _ _
theorem MT:∀{a b c d e:Nat},a<=b->b<=c->c<=d->e<=a->e<=d:=λh1 h2 h3 h4=>ac h4 (ac h1 (ac h2 h3))
theorem MU:∀{a b c:Nat},1000<=a->b<=50->c<=9->c+b<=a:=λh k l=>ac (bk l k) (ac (by decide) h)
theorem MV:∀{a:Nat},a<=1->¬(↑a:Int) > 1:=λh=>gL.mpr (bH.mpr h)
theorem MW:∀{a b:Nat},1000<=a->b<=50->b<=a:=λh k=>ac k (ac (by decide) h)
theorem Em:∀{a b:Nat},1000<=a->b<=100->b<=a:=λh k=>ac k (ac (by decide) h)
theorem MY:∀{a:Nat},1000<=a->9<=a:=λh=>ac (cK _ _) h
theorem MZ:∀{a b:Nat},a<=3->b<=6->0+a+(0+b)<=9:=λh k=>ac (bk (aC h 0) (aC k 0)) (by decide)
theorem M0:∀{a b c:Nat},a<=3->b<=6->c<=50->a+b+c<=100:=λh k l=>ac (bk (bk h k) l) (by decide)
theorem H8:∀{a b:Nat},a<=6->b<=a->b<=6:=λh k=>ac k h
theorem M1:∀{a b c d:Nat},a<=b/\a<=c->d < a->d≠c:=λh k=>aP (ao k h.2)
theorem M2:∀{a b c d:Nat},a<=b/\a<=c->d < a->d≠b:=λh k=>aP (ao k h.1)
theorem M3:∀{a b c:Nat},a+9 < b->c < a->c < b:=λh k=>bN k (aB (aA _ _) h)
theorem M4:∀{a b c d:Nat},a=b+c+d->a+1=b+c+(d+1):=λh=>congrArg (·+1) h
theorem M5:∀{a b c d:Nat},a=b+c+d->a+1=b+1+c+d:=λ{a b c d}=>λh=>(congrArg (·+1) h).trans ((be (b+c) d 1).trans (congrArg (·+d) (be b c 1)))
theorem M6:∀{a b c d:Nat},a=b+c+d->a+1=b+(c+1)+d:=λ{a b c d}=>λh=>(congrArg (·+1) h).trans (be (b+c) d 1)
theorem M7:∀{a b:Nat},a=b+11->b+10 < a:=λh=>bB h.symm
theorem M8:∀{a b:Nat},a=b+11->b<=a:=λh=>h▸aA _ _
theorem Na:∀{a:Nat},a+6≠a+10:=λh=>absurd (aL h) (by decide)
theorem Nb:∀{a b:Nat},a < 10->b+10≠b+a:=λ{a b}=>λh=>aY (bv h b)
theorem Nc:∀{a b:Nat},a≠6->b+6≠b+a:=λh e=>h (aL e).symm
theorem Nf:∀{a b:Nat},11<=a->b=a+2->10 < b:=λh k=>k.symm▸ao h (aA _ _)
theorem En:∀{a b:Nat},11<=a->b < 10->b < a:=λh k=>bN k h
theorem Ng:∀{a:Nat},a < 10->10≠a:=aY
theorem H9:∀{a:Nat},11<=a->10 < a:=λh=>ac (cK _ _) h
theorem Nh:∀{a b:Nat},a+b<=4->a<=4:=λh=>ac (aA _ _) h
theorem Ni:∀{a b c:Nat},a<=3->b<=c+(a+1)->c=0->b<=4:=λh k l=>ac k (l▸ac (bB (dz _)) (bL h))
theorem Nj:∀{a:Nat},a<=900->a+2<=1000:=λh=>ac (a8 h _) (by decide)
theorem Nk:∀{a b:Nat},a+1+b<=a+(b+1):=λ{a b}=>bB (be a 1 b)
theorem Nl:∀{a b c:Nat},a < b->a=c->c < b:=λh k=>k▸h
theorem Nn:∀{a b c:Nat},a=b+(c+1)->b < a:=λ{a b c}=>λh=>h▸bg (eT c)
theorem No:∀{a b c d:Nat},a<=3->b<=6->c<=50->1000<=d->a+b+c<=d:=λh k l m=>ac (ac (bk (bk h k) l) (by decide)) m
theorem Np:∀{a b:Nat},1000<=a->b<=1000->b<=a:=λh k=>ac k h
theorem Nq:∀{a b c:Nat},a<=3->b<=6->1000<=c->a+b<=c:=λh k l=>ac (ac (bk h k) (by decide)) l
theorem Nr:∀{a b:Nat},a<=6->1000<=b->a<=b:=λh k=>ac h (ac (by decide) k)
theorem Nt:∀{a b:Nat},a<=3->1000<=b->a<=b:=λh k=>ac h (ac (by decide) k)
theorem Ia:∀{a b c d e:Nat},a<=6->b<=3->c<=50->d<=b->e<=a->d+e+c<=1000:=λh k l m n=>ac (bk (bk (ac m k) (ac n h)) l) (by decide)
theorem Nu:∀{a b c d:Nat},11<=a->b=a+1->c=b+1->d < 10->d < c:=λ{a b c d}=>λh k l m=>l▸k▸ao m (ac (by decide:10<=11) (ac h (aA a 2)))
theorem Nw:∀{a b c:Nat},11<=a->b=a+1->c=b+1->9 < c:=λ{a b c}=>λh k l=>l▸k▸ao (by decide:9 < 11) (ac h (aA a 2))
theorem Nx:∀{a b c:Nat},11<=a->b=a+1->c < 10->c < b:=λ{a b c}=>λh k l=>k▸ao l (ac (by decide:10<=11) (ac h (dU a)))
theorem Ny:∀{a b:Nat},a<=6->b<=a->b<=10:=λh k=>ac k (ac h (by decide))
theorem Nz:∀{a b c:Nat},a<=11+2 * b->c=a+2->c<=11+2 * (b+1):=λh k=>k▸a8 h 2
theorem NA:∀{a b:Nat},11<=a->b=a+2->11<=b:=λh k=>k.symm▸ao h (aA _ _)
theorem NB:∀{a b:Nat},a<=11+2 * b->b<=6->a<=900:=λh k=>ac h (ac (aC (bZ 2 k) 11) (by decide))
theorem NC:∀{a b:Nat},a<=6->b < a->b<=6:=λh k=>bK (ao k h)
theorem ND:∀{a:Nat},a=11->11<=a:=λh=>ao (by decide) (bB h.symm)
theorem NF:∀{a b:Nat},a=10->b < 10->b < a:=λh k=>h▸k
theorem Ib:∀{a:Nat},a<=6->a<=1000:=λh=>ac h (by decide)
theorem Ic:∀{a b:Nat},a<=1000->1000<=b->a<=b:=λh k=>ac h k
theorem NH:∀{a b:Nat},(↑(a+b):Int) - (↑a:Int)=(↑b:Int):=λ{a b}=>(Int.ofNat_sub (aA a b)).symm.trans (congrArg _ (dg a b))
theorem NJ:∀{a:Nat},a < 4->2+(3+a)<=8:=λh=>aC (aC (bW h) 3) 2
theorem NK:∀{a:Nat},a < 4->a<=3:=λh=>bW (ao h (by decide))
theorem NL:∀{a:Nat},a < 4->3+a<=6:=λh=>aC (bW h) 3
theorem NM:∀{a:Nat},3<=3+a:=aA _ _
theorem NN:∀{a:Nat},a<=6->(↑(2+a):Int)<=200000:=λh=>bH.mpr (ac (aC h 2) (by decide))
theorem Bm:∀{a b:Nat},a=b->b<=6->a<=6:=λh k=>h▸k
theorem NO:∀{a b:Nat},a < 4->b < 3+a->b<=6:=λh k=>ac (bK k) (aC (bW h) 3)
theorem NP:∀{a:Nat},a < 4->3+a<=1000:=λh=>ac (aC (bW h) 3) (by decide)
theorem Bo:∀{a b:Nat},a < b+1->¬a=b->a < b:=λh k=>gR (bW h) k
theorem NQ:∀{a b c:Nat},a<=3->b < a->100 < c->b < c:=λh k l=>bN (ao k (ac h (by decide))) l
theorem NR:∀{a b:Nat},a=b->2<=b->2<=a:=λh k=>h▸k
theorem Ie:∀{a:Nat},a<=80000->a<=90000:=λh=>ac h (by decide)
theorem NS:∀{a b c d:Nat},a<=6->b < a->100 < c->d<=b->d < c:=λh k l m=>bN (aB m (ao k (ac h (by decide)))) l
theorem NT:∀{a b c:Nat},a<=6->b < a->100 < c->b < c:=λh k l=>bN (ao k (ac h (by decide))) l
theorem Ig:∀{a b c:Nat},a=b->c < b->c < a:=λh k=>h▸k
theorem NU:∀{a b:Nat},a < b+1->a<=b:=bW
theorem NV:∀{a:Nat},a<=80000->(↑a:Int)<=200000:=λh=>bH.mpr (ac h (by decide))
theorem NW:∀{a b:Nat},a=b->b<=a:=λh=>bB h.symm
theorem NX:∀{a:Nat},a<=80000->a<=100000:=λh=>ac h (by decide)
theorem NY:∀{a:Nat},a<=10->a<=50:=λh=>ac h (by decide)
theorem Ih:∀{a:Nat},3<=a->2<=a:=λh=>ac (cK _ _) h
theorem NZ:∀{a b c:Nat},a<=6->b<=3->c<=a->c+b+1<=10:=λh k l=>bL (bk (ac l h) k)
theorem N0:∀{a b:Nat},a<=b->b < a->False:=λh k=>absurd k (dD.mpr h)
theorem N1:∀{a b:Nat},a<=3->b<=40+5 * a->b<=60000:=λh k=>ac k (ac (aC (bZ 5 h) 40) (by decide))
theorem N2:∀{a b c:Nat},a<=40+5 * b->c<=a+5->c<=40+5 * (b+1):=λh k=>ac k (a8 h 5)
theorem N3:∀{a b c:Nat},a<=3->b<=40+5 * c->c < a->b<=80000:=λh k l=>ac k (ac (aC (bZ 5 (ac (bK l) h)) 40) (by decide))
theorem N4:∀{a b:Nat},a<=6->b<=8+5 * a->b<=40+0:=λh k=>ac k (ac (aC (bZ 5 h) 8) (by decide))
theorem N5:∀{a:Nat},a<=3->a<=1000:=λh=>ac h (by decide)
theorem N6:∀{a b c:Nat},a<=8+5 * b->c<=a+5->c<=8+5 * (b+1):=λh k=>ac k (a8 h 5)
theorem N7:∀{a b c:Nat},a<=6->b<=8+5 * c->c < a->b<=80000:=λh k l=>ac k (ac (aC (bZ 5 (ac (bK l) h)) 8) (by decide))
theorem N9:∀{a:Nat},a<=20->a+1<=90:=λh=>aB h (by decide)
theorem Oa:∀{a b c:Nat},a<=60000->b < 3->c<=a+1+2 * b->c+2<=70000:=λh k l=>ac (a8 (ac l (bk (bL h) (bZ 2 (bK k)))) 2) (by decide)
theorem Ob:∀{a:Nat},a < 3->a<=3:=λh=>bK (ao h (by decide))
theorem Ii:∀{a:Nat},a<=20->a<=90:=λh=>ac h (by decide)
theorem Oc:∀{a b c:Nat},a<=60000->b < 3->c<=a+1+2 * b->c<=80000:=λh k l=>ac l (ac (bk (bL h) (bZ 2 (bK k))) (by decide))
theorem Od:∀{a b c:Nat},a<=6->b<=a->c < 3->b+c<=20:=λh k l=>ac (bk (ac k h) (bK l)) (by decide)
theorem Oe:∀{a b c:Nat},a=b->c < a+1->¬c=b->c < a:=λ{a b c}=>λh k n=>gR (bW k) (λe=>n (e.trans h))
theorem Of:∀{a b c:Nat},a=b->c < a+1->¬c=b->c < b:=λ{a b c}=>λh k n=>h▸gR (bW k) (λe=>n (e.trans h))
theorem Og:∀{a b c:Nat},a<=b+1+2 * c->a+2<=b+1+2 * (c+1):=λh=>a8 h 2
theorem Oh:∀{a b c d e:Nat},a<=60000->b < 3->c<=a+1+2 * d->e < b->d=e->c<=80000:=λh k l m n=>ac l (ac (bk (bL h) (bZ 2 (n▸bK (bN m k)))) (by decide))
theorem Oi:∀{a b c d e:Nat},a<=6->b<=a->c < 3->d < c->e=d->b+e<=20:=λh k l m n=>ac (bk (ac k h) (n▸bK (bN m l))) (by decide)
theorem Oj:∀{a:Nat},a<=60000->(↑a:Int)<=200000:=λh=>bH.mpr (ac h (by decide))
theorem Ok:∀{a b c:Nat},a<=b+c->a+1<=b+(c+1):=ic
theorem Ol:∀{a:Nat},a<=99->a<=100:=λh=>ac h (by decide)
theorem Om:∀{a b c:Nat},a<=70000->b<=a+c->c<=99->b<=80000:=λh k l=>ac k (ac (bk h l) (by decide))
theorem On:∀{a b:Nat},a+b<=99->a<=99:=λh=>ac (aA _ _) h
theorem Oo:∀{a b c:Nat},a+b<=c->a<=c:=λh=>ac (aA _ _) h
theorem Op:∀{a b:Nat},a<=99->1000<=b->a<=b:=λh k=>ac h (ac (by decide) k)
theorem Oq:∀{a b c:Nat},a<=6->b<=3->c<=90->a+b+c<=99:=λh k l=>ac (bk (bk h k) l) (by decide)
section
open L1
noncomputable def m4(xs:List Int)(p:Int):O:=.dict [(48,.lst (xs.map .int)),(144,.int p)]
section
variable {P:Pg}{q:Bool}{E:Unit->St->Prop}{Q:V->St->Prop}
theorem mD{i:Nat}{v:V}(e:ρ[i]?.join=some v)(h:Q v σ):WR (dE P q C (.var i) ρ σ) Q E:=WR.of e h
theorem mV{v:V}(h:Q v σ):WR (dE P q C (.lit v) ρ σ) Q E:=h
theorem Kk{i:Nat}{v k w:V}(e:ρ[i]?.join=some v)(e':oM P σ v k=some w)(h:Q w σ):WR (dE P q C (.idx (.var i) (.lit k)) ρ σ) Q E:=C1 (mD e (mV (WR.of e' h)))
theorem oH{op:HD}{a b:MX}{v w u:V}(ha:dE P q C a ρ σ=.ok v σ)(hb:dE P q C b ρ σ=.ok w σ)(e:tG P σ op v w=some u):dE P q C (.bin op a b) ρ σ=.ok u σ:=by
 show (dE P q C a ρ σ).bind (λa σ=>(dE P q C b ρ σ).bind λb σ=>R.of (tG P σ op a b) σ)=_;rw[ha];show (dE P q C b ρ σ).bind _=_;rw[hb];show R.of (tG P σ op v w) σ=_;rw[e];rfl
end
theorem oO{xs:List Int}{p:Int}(e:σ[m]?=some (m4 xs p))(h0:0<=p)(h1:p<=200000)(hk:0 < k):
  WR (mu pg (d+1) false 37 [.obj m,.int k] σ) (λv τ=>∃r:Nat,r < k/\v=.int r/\τ=σ.set m (m4 xs (p+1))) λZ Z=>False:=by
 have hm:m < σ.length:=(aq.mp e).1
 have hd:dictAt σ m=some [(48,.lst (xs.map .int)),(144,.int p)]:=by show (σ[m]?).bind _=_;rw[e];rfl
 have ok:∀a:Int,∃r:Nat,r < k/\V.int (a % (k:Int))=.int r:=λa=>⟨(a % k).toNat,by
  exact (jQ (kH a (jO (c8.mpr hk)))).mpr (Int.emod_lt_of_pos a (c8.mpr hk)),by
  have h1:=kH a (b:=k) (jO (c8.mpr hk))
  exact congrArg V.int (cy h1).symm⟩
 have hx:∀{n:Nat} {v:V},mC [(48,V.lst (xs.map .int)),(144,.int p)] n=some v->oM pg σ (.obj m) (.sym n)=some v:=λ{n v} h=>by
  show (dictAt σ m).bind (λl=>mC l n)=some v;rw[hd];exact h
 have hs:y1 σ (.obj m) (.sym 144) (.int (p+1))=some (σ.set m (m4 xs (p+1))):=by
  show (dictAt σ m).bind _=_;rw[hd];rfl
 refine WR.call rfl rfl (mw (nS (nN (mf ?_))));refine Kk (v:=.obj m) rfl (hx rfl) (mf ?_);refine Kk (v:=.obj m) rfl (hx rfl) (mx ⟨rfl,?_⟩);refine WR.val (a:=[some (.obj m),some (.int k),some (.lst (xs.map .int)),some (.int p)]) (σ:=σ) rfl (mh (mw (nS ?_)));refine WR.val (a:=.int (p+1)) (σ:=σ) rfl ?_;refine WR.val (a:=[some (.obj m),some (.int k),some (.lst (xs.map .int)),some (.int p)]) (σ:=σ.set m (m4 xs (p+1))) ?_ (mh (mw (sH ?_)))
 .show R.opt (y1 σ (.obj m) (.sym 144) (.int (p+1))) _=_;rw[hs];rfl
 refine WR.val (a:=decide (p < ((xs.map V.int).length:Nat))) (σ:=σ.set m (m4 xs (p+1))) rfl ?_
 cases hlt:decide (p < ((xs.map V.int).length:Nat)) with
 |true=>
  have hlt:=of_decide_eq_true hlt;rw[ay] at hlt;refine WR.iteT rfl (mw (qs ?_));have hi:p.toNat < xs.length:=(jQ h0).mpr hlt
  have RP:vT (xs.map V.int) p=some (.int (xs[p.toNat])):=by
   unfold vT;rw[if_pos h0,cB,aX hi];rfl
  refine l8 (ok xs[p.toNat]) λr hr er=>?_;refine WR.val (a:=.int r) (σ:=σ.set m (m4 xs (p+1))) ?_ ?_
  .refine oH (v:=.int (xs[p.toNat])) (w:=.int k) ?_ rfl ?_
   .show R.of (mH (vT (xs.map V.int) p) _) _=_;rw[RP];rfl
   .show og (0 < (k:Int)) _=_;rw[<-er];exact if_pos (c8.mpr hk)
  .exact nj (nj ⟨r,hr,rfl,rfl⟩)
 |false=>
  refine WR.iteF rfl (mn (mh (mw (qs ?_))));refine l8 (ok ((5 * p * p+11 * p+3 * ((xs.map V.int).length:Nat)+4) % 89)) λr hr er=>?_;refine WR.val (a:=.int r) (σ:=σ.set m (m4 xs (p+1))) ?_ ?_
  .refine oH (v:=.int ((5 * p * p+11 * p+3 * ((xs.map V.int).length:Nat)+4) % 89)) (w:=.int k) ?_ rfl (by show og (0 < (k:Int)) _=_;rw[<-er];exact if_pos (c8.mpr hk));refine oH (v:=.int (5 * p * p+11 * p+3 * ((xs.map V.int).length:Nat)+4)) (w:=.int 89) ?_ rfl rfl;refine oH (v:=.int (5 * p * p+11 * p+3 * ((xs.map V.int).length:Nat))) (w:=.int 4) ?_ rfl rfl;refine oH (v:=.int (5 * p * p+11 * p)) (w:=.int (3 * ((xs.map V.int).length:Nat))) ?_ ?_ rfl
   .refine oH (v:=.int (5 * p * p)) (w:=.int (11 * p)) ?_ ?_ rfl
    .refine oH (v:=.int (5 * p)) (w:=.int p) ?_ rfl ?_
     .exact oH (v:=.int 5) (w:=.int p) rfl rfl rfl
     .show og (-1000000<=5 * p/\5 * p<=1000000) _=_;unfold og;rw[if_pos ⟨b6 (by decide) (Int.mul_nonneg (by decide) h0),b6 (Int.mul_le_mul_of_nonneg_left h1 (by decide)) (by decide)⟩]
    .exact oH (v:=.int 11) (w:=.int p) rfl rfl rfl
   .exact oH (v:=.int 3) (w:=.int ((xs.map V.int).length:Nat)) rfl rfl rfl
  .exact nj ⟨r,hr,rfl,rfl⟩
end
section
open L1
section
variable {P:Pg}
theorem vk{f:V->St->R Unit (Option V)}{g:V->Option V}:∀{vs pre l:List V},(∀v∈vs,f v σ=.ok (g v) σ)->l.length+vs.length<=me->ou (.items (pre++vs)) f (vs.length+1) pre.length l σ=.ok (l++vs.filterMap g) σ
 |[],pre,l,_,_=>by
  show R.opt (some ((pre++[])[pre.length]?)) _=_;rw[aI (aN _),bC,gN,show l++[]=l from aT l];rfl
 |v::vs,pre,l,hf,hl=>by
  show R.opt (some ((pre++v::vs)[pre.length]?)) _=_;rw[aI (aN _),bC];show (f v σ).bind _=_;rw[hf v ax];have hl:l.length+(vs.length+1)<=me:=hl
  have ih:∀{l':List V},l'.length+vs.length<=me->ou (.items (pre++v::vs)) f (vs.length+1) (pre.length+1) l' σ=.ok (l'++vs.filterMap g) σ:=λ{l'} h=>by
   have:=vk (vs:=vs) (pre:=pre++[v]) (l:=l') (λw hw=>hf w (aE _ hw)) h;rw[ba,ah] at this;exact this
  cases hg:g v with
  |none=>
   rw[bG hg];exact ih (Q2 hl)
  |some x=>
   rw[bE hg];show gd (l.length < me) _=_;unfold gd;rw[if_pos (Q1 hl)];refine (ih (l':=l++[x]) ?_).trans (by rw[ba];rfl);rw[ah];show l.length+1+vs.length<=me;exact Q0 hl
theorem sA{vs:List V}{g:V->Option V}(hi:dI P false C Rt ρ σ=.ok (.items vs) σ)(hn:vs.length<=me)(hf:∀v∈vs,m3 P false C t cond RF ρ v σ=.ok (g v) σ):
  dE P false C (.comp t Rt cond RF) ρ σ=.ok (.lst (vs.filterMap g)) σ:=by
 show (dI P false C Rt ρ σ).bind (λit σ=>(ou it (m3 P false C t cond RF ρ) (it.fuel σ) 0 [] σ).bind λl σ=>R.ok (V.lst l) σ)=_;rw[hi];show (ou (.items ([]++vs)) (m3 P false C t cond RF ρ) (vs.length+1) 0 [] σ).bind _=_;rw[show (0:Nat)=([]:List V).length from rfl,vk (pre:=[]) hf (by show 0+_<=_;exact QZ hn)];rfl
end
inductive Us where
 |two
 |nm (k:Nat)
 |ln (k:Nat)
namespace Us
noncomputable def nmV(k:Nat):V:=.tup [.sym 128,.int 6,.sym (62+k)]
noncomputable def toV:Us->V
 |.two=>.tup [.sym 103,.int 3,.int 2]
 |.nm k=>nmV k
 |.ln k=>.tup [.sym 44,.int 5,.sym 114,.tup [nmV k]]
noncomputable def asks:Us->List Nat
 |.two=>[]
 |.nm k=>[k]
 |.ln k=>[k]
noncomputable def outV(u:Us):V:=.tup [u.toV,.lst (u.asks.map λk:Nat=>V.int k)]
def Fits(ss:List Nat)(b:Bool):Us->Prop
 |.two=>True
 |.nm k=>∃s,ss[k]?=some s/\s≠26/\(s≠186\/b=false)
 |.ln k=>ss[k]?=some 26
end Us
noncomputable def mO(calls:Nat)(ss:List Nat):O:=.dict [(46,.int calls),(168,.lst (ss.map .sym))]
section
variable {P:Pg}{q:Bool}
theorem nC{a b:MX}{v w u:V}(ha:dE P q C a ρ σ=.ok v σ)(hb:dE P q C b ρ σ=.ok w σ)(e:oM P σ v w=some u):dE P q C (.idx a b) ρ σ=.ok u σ:=by
 show (dE P q C a ρ σ).bind (λa σ=>(dE P q C b ρ σ).bind λb σ=>R.of (oM P σ a b) σ)=_;rw[ha];show (dE P q C b ρ σ).bind _=_;rw[hb];show R.of (oM P σ v w) σ=_;rw[e];rfl
theorem oo{a b:MX}{v w:V}{t:Bool}(ha:dE P q C a ρ σ=.ok v σ)(hb:dE P q C b ρ σ=.ok w σ)(e:pS σ op v w=some t):dT P q C (.cmp op a b) ρ σ=.ok t σ:=by
 show (dE P q C a ρ σ).bind (λa σ=>(dE P q C b ρ σ).bind λb σ=>R.of (pS σ op a b) σ)=_;rw[ha];show (dE P q C b ρ σ).bind _=_;rw[hb];show R.of (pS σ op v w) σ=_;rw[e];rfl
end
theorem HQ:∀{k:Nat},k < 6->pg.cat 61 k=some (62+k)
 |0,_=>rfl
 |1,_=>rfl
 |2,_=>rfl
 |3,_=>rfl
 |4,_=>rfl
 |5,_=>rfl
 |k+6,h=>absurd h (Rh)
theorem zT{v:V}(h:l[k]?=some v):oM pg σ (.lst l) (.int k)=some v:=by
 show mH (vT l k) _=_;unfold vT;rw[if_pos (bj k),show ((k:Int).toNat)=k from bU k,h];rfl
theorem tP{w calls:Nat}(e:σ[w]?=some (mO calls ss)):oM pg σ (.obj w) (.sym 168)=some (.lst (ss.map .sym)):=by
 show (dictAt σ w).bind (λl=>mC l 168)=_;unfold dictAt;rw[e];rfl
theorem xM{s:Nat}(h:ss[k]?=some s):oM pg σ (.lst (ss.map .sym)) (.int k)=some (.sym s):=zT (by rw[cB,h];rfl)
end
section
open L1
noncomputable def Ho(ss:List Nat)(b:Bool):V->Option V
 |.int (.ofNat k)=>if (!((ss[k]?).getD 0==186)||!b)=true then some (.int k) else none
 |_=>none
noncomputable def uS:MX:=.or (.c2 (.cmp .ne (.idx (.idx (.v 1) (.s 168)) (.v 8)) (.s 186)) (.not (.v 3)))
theorem Fs{w calls top:Nat}{b:Bool}(ew:τ[w]?=some (mO calls ss))(ht:top<=ss.length)(hs:ss.length<=6)(h1:ρ[1]?.join=some (.obj w))(h3:ρ[3]?.join=some (.bool b))(h4:ρ[4]?.join=some (.int top))(hl:ρ.length=9):
  dE pg false C (.comp (.v 8) (.rng (.c1 (.v 4))) uS (.v 8)) ρ τ=.ok (.lst ((oF top).filterMap (Ho ss b))) τ:=by
 have hv:∀{i:Nat} {v:V} {ρ:mc},ρ[i]?.join=some v->dE pg false C (.v i) ρ τ=.ok v τ:=λ{i v ρ} h=>by
  show R.of (ρ[i]?.join) τ=_;rw[h];rfl
 refine sA ?_ ?_ ?_
 .show ((dE pg false C (.v 4) ρ τ).bind λv σ=>R.ok [v] σ).bind wv=_;rw[hv h4];show gd (0<=(top:Int)/\(top:Int)<=me) _=_;unfold gd
  rw[if_pos ⟨bj _,by
   have:top<=6:=ac ht hs
   have h6:(6:Nat)<=me:=by decide
   exact Ri this h6⟩]
 .unfold oF;rw[ay,aR,bU];exact ac (ac ht hs) (by decide)
 .intro v Wj;refine l8 (aW.mp Wj) λk hk e=>?_
  have hk:k < top:=by
   have:=bt.mp hk;rw[bU] at this;exact this
  rw[<-e];have hk':k < ss.length:=ao hk ht;have es:ss[k]?=some ss[k]:=aX hk'
  have hb:nA (.v 8) (.int k) ρ=some (ρ.set 8 (some (.int k))):=by
   show (og (8 < ρ.length) (ρ.set 8 (some (V.int k)))).bind _=_;unfold og;rw[if_pos (Q3 hl)];rfl
  have g1:(ρ.set 8 (some (V.int k)))[1]?.join=some (.obj w):=by rw[aj (by decide)];exact h1
  have g3:(ρ.set 8 (some (V.int k)))[3]?.join=some (.bool b):=by rw[aj (by decide)];exact h3
  have g8:(ρ.set 8 (some (V.int k)))[8]?.join=some (.int k):=by rw[aF (Q3 hl)];rfl
  have hc:dT pg false C uS (ρ.set 8 (some (.int k))) τ=.ok (!(ss[k]==186)||!b) τ:=by
   show (dT pg false C (.cmp .ne (.idx (.idx (.v 1) (.s 168)) (.v 8)) (.s 186)) (ρ.set 8 (some (.int k))) τ).bind (λt σ=>if t=true then R.ok true σ else (((dE pg false C (.v 3) (ρ.set 8 (some (.int k))) σ).bind λv σ=>R.of (pe v) σ).bind λb σ=>R.ok (!b) σ).bind λt σ=>if t=true then R.ok true σ else R.ok false σ)=_;rw[oo (t:=!(ss[k]==186)) (nC (nC (hv g1) rfl (tP ew)) (hv g8) (xM es)) rfl rfl];show (if (!(ss[k]==186))=true then _ else _)=_
   cases ss[k]==186 with
   |false=>rfl
   |true=>
    rw[if_neg (by decide),hv g3]
    cases b<;>rfl
  show R.opt (nA (.v 8) (.int k) ρ) (λρ'=>(dT pg false C uS ρ' τ).bind λb σ=>if b=true then (dE pg false C (.v 8) ρ' σ).bind λx σ=>.ok (some x) σ else .ok none σ)=_;rw[hb];show (dT pg false C uS (ρ.set 8 (some (.int k))) τ).bind _=_;rw[hc];show (if (!(ss[k]==186)||!b)=true then (dE pg false C (.v 8) (ρ.set 8 (some (.int k))) τ).bind _ else _)=R.ok (if (!((ss[k]?).getD 0==186)||!b)=true then some (V.int k) else none) τ;rw[es,hv g8];show _=R.ok (if (!(ss[k]==186)||!b)=true then some (V.int k) else none) τ
  cases (!(ss[k]==186)||!b)<;>rfl
theorem Fq{b:Bool}{top r:Nat}{v:V}(ht:top<=ss.length)(h:((oF top).filterMap (Ho ss b))[r]?=some v):∃k s,v=.int (k:Nat)/\ss[k]?=some s/\(s≠186\/b=false):=by
 refine l8 (aZ.mp (bq h)) λx hx e=>?_;refine l8 (aW.mp hx) λk hk ek=>?_;have hk:=bt.mp hk;rw[bU] at hk;have hk':k < ss.length:=ao hk ht;have es:ss[k]?=some ss[k]:=aX hk';rw[<-ek] at e;have e:(if (!((ss[k]?).getD 0==186)||!b)=true then some (V.int k) else none)=some v:=e;rw[es] at e
 split at e
 .rename_i c;refine⟨k,ss[k],(am e).symm,es,?_⟩
  rcases eY.mp c with c | c
  .refine .inl λh=>?_;rw[show ((some ss[k]).getD 0:Nat)=ss[k] from rfl,h] at c;exact ma c
  .cases b with
   |false=>exact .inr rfl
   |true=>exact ma c
 .exact mr e
end
section
open L1
theorem uT{w p calls below:Nat}{xs:List Int}{b:Bool}(e:σ[m]?=some (m4 xs p))(ew:σ[w]?=some (mO calls ss))(hmw:m≠w)(h1:p<=100000)(hb:below<=ss.length)(hs:ss.length<=6):
  WR (mu pg (d+2) false 38 [.obj m,.obj w,.int below,.bool b] σ) (λv τ=>∃u:Us,u.Fits ss b/\v=u.outV/\τ=σ.set m (m4 xs ((p:Int)+1+1))) λZ Z=>False:=by
 have hm:m < σ.length:=(aq.mp e).1;refine WR.call rfl rfl (mw (nS (C2 (AY (m5 (mf (mD rfl (mf (mV (mx ?_))))))))));refine (oO (d:=d) (k:=12) e (bj p) (P3 h1) (by decide)).mono (λv τ h=>?_) λZ Z h=>h.elim;refine mM h λr hr hv hτ=>?_;subst hv
 have em:τ[m]?=some (m4 xs ((p:Int)+1)):=by rw[hτ];exact aF hm
 have ewτ:τ[w]?=some (mO calls ss):=by rw[hτ,aj hmw];exact ew
 refine mV (WR.of (a:=((r:Int)==11)) rfl ?_)
 obtain ⟨top,ht,key⟩:∃top:Nat,top<=ss.length/\∀(C:Call) (ρ:mc),ρ[1]?.join=some (.obj w)->ρ[2]?.join=some (.int below)->(if ((r:Int)==11)=true then dE pg false C (.bi .len (.idx (.v 1) (.s 168))) ρ τ else dE pg false C (.v 2) ρ τ)=.ok (.int top) τ:=by
  have hv:∀{C:Call} {i:Nat} {v:V} {ρ:mc},ρ[i]?.join=some v->dE pg false C (.v i) ρ τ=.ok v τ:=λ{C i v ρ} h=>by
   show R.of (ρ[i]?.join) τ=_;rw[h];rfl
  cases (r:Int)==11 with
  |true=>
   refine⟨ss.length,aN _,λC ρ a1 a2=>?_⟩;rw[if_pos rfl];show (dE pg false C (.idx (.v 1) (.s 168)) ρ τ).bind (λv σ=>uI σ .len v)=_;rw[nC (hv a1) rfl (tP ewτ)];show R.ok (V.int ((ss.map V.sym).length:Nat)) τ=_;rw[ay]
  |false=>exact⟨below,hb,λC ρ a1 a2=>by rw[if_neg (by decide)];exact hv a2⟩
 refine WR.val (key _ _ rfl rfl) ?_;refine WR.val (a:=[some (.obj m),some (.obj w),some (.int below),some (.bool b),some (.int top),none,none,none,none]) (σ:=τ) rfl (mh (mw (nS ?_)));refine WR.val (Fs ewτ ht hs rfl rfl rfl rfl) ?_;generalize hL:(oF top).filterMap (Ho ss b)=L
 have hll:L.length<=6:=by
  rw[<-hL];refine ac (ir _ _) ?_;unfold oF;rw[ay,aR,bU];exact ac ht hs
 refine WR.val (a:=[some (.obj m),some (.obj w),some (.int below),some (.bool b),some (.int top),some (.lst L),none,none,none]) (σ:=τ) rfl (mh (mw (nS (m5 (mf (mD rfl (mf ?_)))))));refine WR.val (a:=.int (1+L.length:Nat)) (σ:=τ) ?_ (mx ?_)
 .exact oH (v:=.int 1) (w:=.int (L.length:Nat)) rfl rfl rfl
 refine (oO (d:=d) (k:=1+L.length) em (P2) (P1 h1) (PZ)).mono (λv υ h=>?_) λZ Z h=>h.elim;refine mM h λr2 UA hv2 S3=>?_;subst hv2
 have ewυ:υ[w]?=some (mO calls ss):=by rw[S3,aj hmw];exact ewτ
 have hυ2:υ=σ.set m (m4 xs ((p:Int)+1+1)):=by rw[S3,hτ,eQ]
 refine WR.val (a:=[some (.obj m),some (.obj w),some (.int below),some (.bool b),some (.int top),some (.lst L),some (.int r2),none,none]) (σ:=υ) rfl (mh (mw (sH (AY (mD rfl (mV (WR.of (a:=((r2:Int)==0)) rfl ?_)))))))
 cases r2 with
 |zero=>exact WR.iteT rfl (mw (qs (WR.val (a:=Us.two.outV) (σ:=υ) rfl (nj (nj ⟨.two,trivial,rfl,hυ2⟩)))))
 |succ r=>
  refine WR.iteF (beq_false_of_ne (PY)) (mn (mh (mw (nS ?_))));have Uf:r < L.length:=PX UA;have eL:L[r]?=some L[r]:=aX Uf;refine mI (Fq ht (show ((oF top).filterMap (Ho ss b))[r]?=some L[r] by rw[hL];exact eL)) λk s hk es hp=>?_;rw[hk] at eL;have hk6:k < 6:=ao (aq.mp es).1 hs
  have hx:∀{C:Call} {ρ:mc},ρ[5]?.join=some (.lst L)->ρ[6]?.join=some (.int ((r+1:Nat):Int))->dE pg false C (.idx (.v 5) (.bin .sub (.v 6) (.i 1))) ρ υ=.ok (.int k) υ:=λ{C ρ} a5 a6=>by
   have hv:∀{i:Nat} {v:V},ρ[i]?.join=some v->dE pg false C (.v i) ρ υ=.ok v υ:=λ{i v} h=>by
    show R.of (ρ[i]?.join) υ=_;rw[h];rfl
   refine nC (hv a5) (oH (v:=.int ((r+1:Nat):Int)) (w:=.int 1) (u:=.int (r:Nat)) (hv a6) rfl ?_) (zT eL);show some (V.int (((r+1:Nat):Int) - 1))=_;rw[show (((r+1:Nat):Int) - 1)=(r:Nat) by exact PW]
  have Wm:∀{C:Call} {ρ:mc},ρ[5]?.join=some (.lst L)->ρ[6]?.join=some (.int ((r+1:Nat):Int))->dE pg false C (.bin .add (.s 61) (.bi .str (.idx (.v 5) (.bin .sub (.v 6) (.i 1))))) ρ υ=.ok (.sym (62+k)) υ:=λ{C ρ} a5 a6=>by
   refine oH (v:=.sym 61) (w:=.itxt k) rfl ?_ ?_
   .show (dE pg false C (.idx (.v 5) (.bin .sub (.v 6) (.i 1))) ρ υ).bind (λv σ=>uI σ .str v)=_;rw[hx a5 a6];show gd (-1000<=(k:Int)/\(k:Int)<=1000) _=_;unfold gd;rw[if_pos ⟨Q5,Q4 hk6⟩]
   .show mH none (mH ((pg.cat 61 k).map V.sym) _)=_;rw[HQ hk6];rfl
  refine nN (mf (mV (mf (mV (mf (WR.val (Wm rfl rfl) (mx ⟨rfl,?_⟩)))))));refine WR.val (a:=[some (.obj m),some (.obj w),some (.int below),some (.bool b),some (.int top),some (.lst L),some (.int ((r+1:Nat):Int)),some (Us.nmV k),none]) (σ:=υ) rfl (mh (mw (sH ?_)));refine WR.val (a:=(s==26)) (σ:=υ) (oo (nC (nC (v:=.obj w) (w:=.sym 168) rfl rfl (tP ewυ)) (hx rfl rfl) (xM es)) rfl rfl) ?_
  cases S8:s==26 with
  |true=>
   refine WR.iteT rfl (mw (qs ?_));refine nN (mf (WR.val (a:=(Us.ln k).toV) (σ:=υ) rfl (mf (oG (mf (WR.val (hx rfl rfl) (mx ⟨rfl,?_⟩)))))));refine WR.val (a:=.lst [.int k]) (σ:=υ) rfl (mx ⟨rfl,nj (nj ⟨.ln k,?_,rfl,hυ2⟩)⟩);rw[eq_of_beq S8] at es;exact es
  |false=>
   refine WR.iteF rfl (mn (mh (mw (qs ?_))));refine nN (mf (WR.val (a:=(Us.nm k).toV) (σ:=υ) rfl (mf (oG (mf (WR.val (hx rfl rfl) (mx ⟨rfl,?_⟩)))))));refine WR.val (a:=.lst [.int k]) (σ:=υ) rfl (mx ⟨rfl,nj ⟨.nm k,⟨s,es,?_,hp⟩,rfl,hυ2⟩⟩);intro h;rw[h] at S8;exact ma S8.symm
end
section
open L1
inductive Dc where
 |sized (u:Us)
 |call (n:Nat) (u:Us)
 |val (u w:Us)
 |late (u w:Us)
namespace Dc
noncomputable def spanV(u:Us):V:=.tup [.sym 156,.int 8,.tup [.sym 103,.int 8,.int 1],u.toV]
noncomputable def sumV(u w:Us):V:=.tup [.sym 41,.int 4,.sym 3,u.toV,w.toV]
noncomputable def callV(n:Nat)(u:Us):V:=.tup [.sym 44,.int 7,.sym (140+n),.tup [u.toV]]
noncomputable def plainV(s:Nat):V:=.tup [.sym 103,.bool (s==186),.tup [],.none]
noncomputable def whatV(s:Nat):Dc->V
 |.sized u=>if (s==26)=true then .tup [.sym 103,.bool true,.tup [spanV u],.none] else .tup [.sym 103,.bool (s==186),.tup [],spanV u]
 |.call _ _=>.tup [.sym 42,.bool true,.tup [],.none]
 |_=>plainV s
noncomputable def valV(s:Nat):Dc->V
 |.sized _=>if (s==143)=true then .tup [.sym 103,.int 9,.int 1] else .none
 |.call n u=>callV n u
 |.val u w=>sumV u w
 |.late _ _=>.none
noncomputable def item(k s:Nat)(D:Dc):V:=.tup [.sym 68,.int (10+k:Nat),D.whatV s,.sym (62+k),D.valV s]
noncomputable def lateV(k:Nat):Dc->V
 |.late u w=>.tup [.sym 36,.int (30+k:Nat),.sym (62+k),sumV u w]
 |_=>.none
noncomputable def asks:Dc->List Nat
 |.sized u=>u.asks
 |.call _ u=>u.asks
 |.val u w=>u.asks++w.asks
 |.late u w=>u.asks++w.asks
noncomputable def calls:Dc->List Nat
 |.call n _=>[n]
 |_=>[]
def Fits(ss:List Nat)(n s:Nat):Dc->Prop
 |.sized u=>u.Fits ss true
 |.call i u=>i < n/\s=186/\u.Fits ss false
 |.val u w=>s≠26/\u.Fits ss (s==143)/\w.Fits ss (s==143)
 |.late u w=>s≠26/\u.Fits ss (s==143)/\w.Fits ss (s==143)
noncomputable def outV(k s:Nat)(D:Dc):V:=.tup [D.item k s,D.lateV k,.lst (D.asks.map λk:Nat=>V.int k),.lst (D.calls.map λk:Nat=>V.int k)]
end Dc
section
variable {P:Pg}{q:Bool}
theorem xZ{a b:MX}{x y:Bool}(ha:dE P q C a ρ σ=.ok (.bool x) σ)(hb:dE P q C b ρ σ=.ok (.bool y) σ):dE P q C (.or (.c2 a b)) ρ σ=.ok (.bool (x||y)) σ:=by
 show (dE P q C a ρ σ).bind (λv σ=>match pe v with | some true=>R.ok v σ | some false=>dE P q C b ρ σ | none=>.bad)=_;rw[ha]
 cases x with
 |true=>rfl
 |false=>exact hb
theorem zx{a b:MX}{v w:V}{t:Bool}(ha:dE P q C a ρ σ=.ok v σ)(hb:dE P q C b ρ σ=.ok w σ)(e:pS σ op v w=some t):dE P q C (.cmp op a b) ρ σ=.ok (.bool t) σ:=by
 show (dE P q C a ρ σ).bind (λa σ=>(dE P q C b ρ σ).bind λb σ=>R.of ((pS σ op a b).map V.bool) σ)=_;rw[ha];show (dE P q C b ρ σ).bind _=_;rw[hb];show R.of ((pS σ op v w).map V.bool) σ=_;rw[e];rfl
theorem mE{i:Nat}{v:V}(h:ρ[i]?.join=some v):dE P q C (.v i) ρ σ=.ok v σ:=by
 show R.of (ρ[i]?.join) σ=_;rw[h];rfl
theorem HI{a:MX}(ha:dE P q C a ρ σ=.ok (.int k) σ)(hq:q=false)(hk:k < 6):dE P q C (.bi .str a) ρ σ=.ok (.itxt k) σ:=by
 subst hq;show (dE P false C a ρ σ).bind (λv σ=>uI σ .str v)=_;rw[ha];show gd (-1000<=(k:Int)/\(k:Int)<=1000) _=_;unfold gd;rw[if_pos ⟨Q5,Q4 hk⟩]
theorem Py{a:MX}(ha:dE pg false C a ρ σ=.ok (.int k) σ)(hk:k < 6):dE pg false C (.bin .add (.s 61) (.bi .str a)) ρ σ=.ok (.sym (62+k)) σ:=oH (v:=.sym 61) (w:=.itxt k) rfl (HI ha rfl hk) (by
 show mH none (mH ((pg.cat 61 k).map V.sym) _)=_
 rw[HQ hk];rfl)
theorem Kj{c a b:MX}{t:Bool}{x y:V}(hc:dT P q C c ρ σ=.ok t σ)(ha:dE P q C a ρ σ=.ok x σ)(hb:dE P q C b ρ σ=.ok y σ):dE P q C (.ite c a b) ρ σ=.ok (if t=true then x else y) σ:=by
 show (dT P q C c ρ σ).bind (λt σ=>if t=true then dE P q C a ρ σ else dE P q C b ρ σ)=_;rw[hc]
 cases t with
 |true=>exact ha
 |false=>exact hb
theorem qI{a:MX}{x y:Bool}(ha:dT P q C a ρ σ=.ok x σ)(hb:dT P q C (.and es) ρ σ=.ok y σ):dT P q C (.and (.cons a es)) ρ σ=.ok (x&&y) σ:=by
 show (dT P q C a ρ σ).bind (λt σ=>if t=true then dT P q C (.and es) ρ σ else R.ok false σ)=_;rw[ha]
 cases x with
 |true=>exact hb
 |false=>rfl
theorem KJ:∀{k:Nat},k < 3->pg.cat 139 k=some (140+k)
 |0,_=>rfl
 |1,_=>rfl
 |2,_=>rfl
 |k+3,h=>absurd h (P5)
theorem IB{a:MX}(ha:dE pg false C a ρ σ=.ok (.int k) σ)(hk:k < 3):dE pg false C (.bin .add (.s 139) (.bi .str a)) ρ σ=.ok (.sym (140+k)) σ:=oH (v:=.sym 139) (w:=.itxt k) rfl (HI ha rfl (P4 hk)) (by
 show mH none (mH ((pg.cat 139 k).map V.sym) _)=_
 rw[KJ hk];rfl)
end
theorem Us.asks_len(u:Us):u.asks.length<=1:=by
 cases u
 .exact ce _
 .exact aN _
 .exact aN _
theorem yd{a b:MX}{u w:Us}(ha:dE pg false C a ρ σ=.ok (.lst (u.asks.map λk:Nat=>V.int k)) σ)(hb:dE pg false C b ρ σ=.ok (.lst (w.asks.map λk:Nat=>V.int k)) σ):
  dE pg false C (.bin .add a b) ρ σ=.ok (.lst ((u.asks++w.asks).map λk:Nat=>V.int k)) σ:=oH ha hb (by
 show mH none (mH none (og ((u.asks.map (λk:Nat=>V.int k)++w.asks.map λk:Nat=>V.int k).length<=me) (V.lst (u.asks.map (λk:Nat=>V.int k)++w.asks.map λk:Nat=>V.int k))))=_;unfold og
 rw[if_pos (by
  rw[ah,ay,ay]
  exact ac (bk u.asks_len w.asks_len) (by decide)),bf];rfl)
theorem s8{w calls:Nat}(e:σ[w]?=some (mO calls ss)):oM pg σ (.obj w) (.sym 46)=some (.int calls):=by
 show (dictAt σ w).bind (λl=>mC l 46)=_;unfold dictAt;rw[e];rfl
end
section
open L1
theorem Dx{w p calls s:Nat}{xs:List Int}(e:σ[m]?=some (m4 xs p))(ew:σ[w]?=some (mO calls ss))(hmw:m≠w)(h1:p<=90000)(es:ss[k]?=some s)(hs:ss.length<=6)(hc:calls<=3):
  WR (mu pg (d+3) false 39 [.obj m,.obj w,.int k] σ) (λv τ=>∃D:Dc,D.Fits ss calls s/\v=D.outV k s/\∃p':Nat,p'<=p+5/\τ=σ.set m (m4 xs p')) λZ Z=>False:=by
 have hm:m < σ.length:=(aq.mp e).1;have hkl:k < ss.length:=(aq.mp es).1;have hk6:k < 6:=ao hkl hs;refine WR.call rfl rfl (mw (nS (nN (mf (WR.val (nC (nC (v:=.obj w) (w:=.sym 168) rfl rfl (tP ew)) (mE (v:=.int k) rfl) (xM es)) (mf (WR.val (Py (mE (v:=.int k) rfl) hk6) (mf (m5 (mf (mD rfl (mf (mV (mx ?_)))))))))))))) ;refine (oO (d:=d+1) (k:=4) e (bj p) (P8 h1) (by decide)).mono (λv τ h=>?_) λZ Z h=>h.elim;refine mM h λSK XI hv hτ=>?_;subst hv
 have em:τ[m]?=some (m4 xs ((p+1:Nat):Int)):=by rw[hτ];exact aF hm
 have ewτ:τ[w]?=some (mO calls ss):=by rw[hτ,aj hmw];exact ew
 refine mx ⟨rfl,?_⟩;refine WR.val (a:=[some (.obj m),some (.obj w),some (.int k),some (.sym s),some (.sym (62+k)),some (.int SK),none,none,none,none,none,none,none,none]) (σ:=τ) rfl (mh (mw (nS ?_)));refine WR.val (xZ (zx (t:=(s==26)) (mE (v:=.sym s) rfl) rfl rfl) (zx (t:=((SK:Int)==0)) (mE (v:=.int SK) rfl) rfl rfl)) ?_;generalize hz:(s==26||(SK:Int)==0)=z;refine WR.val (a:=[some (.obj m),some (.obj w),some (.int k),some (.sym s),some (.sym (62+k)),some (.int SK),some (.bool z),none,none,none,none,none,none,none]) (σ:=τ) rfl (mh (mw (nS ?_)));refine m5 (mf (mD rfl (mf (mD rfl (mf (mD rfl (mf (WR.val (xZ (x:=z) (y:=(s==143)) (mE rfl) (zx (mE (v:=.sym s) rfl) rfl rfl)) (mx ?_)))))))));refine (uT (d:=d) (b:=z||s==143) em ewτ hmw (P7 h1) (bK hkl) hs).mono (λv υ h=>?_) λZ Z h=>h.elim;refine mM h λu hu hv2 S3=>?_;subst hv2
 have emυ:υ[m]?=some (m4 xs ((p+3:Nat):Int)):=by rw[S3];exact aF (by rw[hτ,aV];exact hm)
 have ewυ:υ[w]?=some (mO calls ss):=by rw[S3,aj hmw];exact ewτ
 have hυ2:υ=σ.set m (m4 xs ((p+3:Nat):Int)):=by rw[S3,hτ,eQ];rfl
 refine WR.val (a:=[some (.obj m),some (.obj w),some (.int k),some (.sym s),some (.sym (62+k)),some (.int SK),some (.bool z),some u.toV,some (.lst (u.asks.map λk:Nat=>V.int k)),none,none,none,none,none]) (σ:=υ) rfl (mh (mw (sH ?_)));refine WR.val (a:=z) (σ:=υ) rfl ?_
 cases z with
 |true=>
  have hu:u.Fits ss true:=hu;refine WR.iteT rfl (mw (nS (WR.val (a:=Dc.spanV u) (σ:=υ) rfl ?_)));refine WR.val (a:=[some (.obj m),some (.obj w),some (.int k),some (.sym s),some (.sym (62+k)),some (.int SK),some (.bool true),some u.toV,some (.lst (u.asks.map λk:Nat=>V.int k)),some (Dc.spanV u),none,none,none,none]) (σ:=υ) rfl (mh (mw (nS ?_)));refine WR.val (a:=(Dc.sized u).whatV s) (σ:=υ) (Kj (oo (v:=.sym s) (w:=.sym 26) (mE rfl) rfl rfl) rfl rfl) ?_;refine WR.val (a:=[some (.obj m),some (.obj w),some (.int k),some (.sym s),some (.sym (62+k)),some (.int SK),some (.bool true),some u.toV,some (.lst (u.asks.map λk:Nat=>V.int k)),some (Dc.spanV u),some ((Dc.sized u).whatV s),none,none,none]) (σ:=υ) rfl (mh (mw (qs ?_)));refine nN (mf (nN (mf (mV (mf (WR.val (a:=.int (10+k:Nat)) (σ:=υ) (oH (v:=.int 10) (w:=.int k) rfl (mE rfl) rfl) (mf (mD rfl (mf (mD rfl (mf (WR.val (a:=(Dc.sized u).valV s) (σ:=υ) (Kj (oo (v:=.sym s) (w:=.sym 143) (mE rfl) rfl rfl) rfl rfl) (mx ⟨rfl,?_⟩)))))))))))));refine mf (mV (mf (mD rfl (mf (WR.val (a:=.lst []) (σ:=υ) rfl (mx ⟨rfl,?_⟩))))));exact nj (nj ⟨.sized u,hu,rfl,p+3,NG,hυ2⟩)
 |false=>
  have hu:u.Fits ss (s==143):=hu;have hz:=(i9.mp hz).1
  have S8:s≠26:=λh=>by rw[h] at hz;exact ma hz.symm
  refine WR.iteF rfl (mn (mh (mw (sH ?_))));refine WR.val (a:=((SK:Int)==1&&(s==186&&(decide ((k:Int) > 1)&&(decide ((calls:Int) > 0)&&true))))) (σ:=υ) (qI (oo (v:=.int SK) (w:=.int 1) (mE rfl) rfl rfl) (qI (oo (v:=.sym s) (w:=.sym 186) (mE rfl) rfl rfl) (qI (oo (v:=.int k) (w:=.int 1) (mE rfl) rfl rfl) (qI (oo (v:=.int calls) (w:=.int 0) (nC (v:=.obj w) (w:=.sym 46) (mE rfl) rfl (s8 ewυ)) rfl rfl) rfl)))) ?_
  cases SO:((SK:Int)==1&&(s==186&&(decide ((k:Int) > 1)&&(decide ((calls:Int) > 0)&&true)))) with
  |true=>
   have q:=b2 SO;have q2:=b2 q.2;have q3:=b2 q2.2;have q4:=b2 q3.2;have hpos:0 < calls:=c8.mp (of_decide_eq_true q4.1);have Ue:s=186:=eq_of_beq q2.1;refine WR.iteT rfl (mw (nS (m5 (mf (mD rfl (mf (WR.val (nC (v:=.obj w) (w:=.sym 46) (mE rfl) rfl (s8 ewυ)) (mx ?_))))))));refine (oO (d:=d+1) (k:=calls) emυ (bj _) (Nv h1) hpos).mono (λv φ h=>?_) λZ Z h=>h.elim;refine mM h λn hn hv3 hφ=>?_;subst hv3
   have SW:φ=σ.set m (m4 xs ((p+4:Nat):Int)):=by rw[hφ,hυ2,eQ];rfl
   refine WR.val (a:=[some (.obj m),some (.obj w),some (.int k),some (.sym s),some (.sym (62+k)),some (.int SK),some (.bool false),some u.toV,some (.lst (u.asks.map λk:Nat=>V.int k)),none,none,some (.int n),none,none]) (σ:=φ) rfl (mh (mw (nS ?_)));refine nN (mf (mV (mf (mV (mf (WR.val (IB (mE (v:=.int n) rfl) (Eo hc hn)) (mf (WR.val (a:=.tup [u.toV]) (σ:=φ) rfl (mx ⟨rfl,?_⟩)))))))));refine WR.val (a:=[some (.obj m),some (.obj w),some (.int k),some (.sym s),some (.sym (62+k)),some (.int SK),some (.bool false),some (Dc.callV n u),some (.lst (u.asks.map λk:Nat=>V.int k)),none,none,some (.int n),none,none]) (σ:=φ) rfl (mh (mw (qs ?_)));refine nN (mf (nN (mf (mV (mf (WR.val (a:=.int (10+k:Nat)) (σ:=φ) (oH (v:=.int 10) (w:=.int k) rfl (mE rfl) rfl) (mf (WR.val (a:=(Dc.call n u).whatV s) (σ:=φ) rfl (mf (mD rfl (mf (mD rfl (mx ⟨rfl,?_⟩)))))))))))));refine mf (mV (mf (mD rfl (mf (WR.val (a:=.lst [.int n]) (σ:=φ) rfl (mx ⟨rfl,?_⟩))))));refine nj (nj ⟨.call n u,⟨hn,Ue,?_⟩,rfl,p+4,M9,SW⟩);rw[Ue] at hu;exact hu
  |false=>
   refine WR.iteF rfl (mn (mh (mw (nS (m5 (mf (mD rfl (mf (mD rfl (mf (mD rfl (mf (WR.val (zx (v:=.sym s) (w:=.sym 143) (mE rfl) rfl rfl) (mx ?_))))))))))))));refine (uT (d:=d) (b:=s==143) emυ ewυ hmw (P6 h1) (bK hkl) hs).mono (λv φ h=>?_) λZ Z h=>h.elim;refine mM h λu2 Xa hv3 hφ=>?_;subst hv3
   have SW:φ=σ.set m (m4 xs ((p+5:Nat):Int)):=by rw[hφ,hυ2,eQ];rfl
   refine WR.val (a:=[some (.obj m),some (.obj w),some (.int k),some (.sym s),some (.sym (62+k)),some (.int SK),some (.bool false),some u.toV,some (.lst (u.asks.map λk:Nat=>V.int k)),none,none,none,some u2.toV,some (.lst (u2.asks.map λk:Nat=>V.int k))]) (σ:=φ) rfl (mh (mw (nS ?_)));refine WR.val (a:=.tup [Dc.sumV u u2,Dc.plainV s]) (σ:=φ) rfl ?_;refine WR.val (a:=[some (.obj m),some (.obj w),some (.int k),some (.sym s),some (.sym (62+k)),some (.int SK),some (.bool false),some (Dc.sumV u u2),some (.lst (u.asks.map λk:Nat=>V.int k)),none,some (Dc.plainV s),none,some u2.toV,some (.lst (u2.asks.map λk:Nat=>V.int k))]) (σ:=φ) rfl (mh (mw (sH ?_)));refine WR.val (a:=((SK:Int)==3)) (σ:=φ) (oo (v:=.int SK) (w:=.int 3) (mE rfl) rfl rfl) ?_
   cases (SK:Int)==3 with
   |true=>
    refine WR.iteT rfl (mw (qs ?_));refine nN (mf (nN (mf (mV (mf (WR.val (a:=.int (10+k:Nat)) (σ:=φ) (oH (v:=.int 10) (w:=.int k) rfl (mE rfl) rfl) (mf (mD rfl (mf (mD rfl (mf (mV (mx ⟨rfl,?_⟩)))))))))))));refine mf (nN (mf (mV (mf (WR.val (a:=.int (30+k:Nat)) (σ:=φ) (oH (v:=.int 30) (w:=.int k) rfl (mE rfl) rfl) (mf (mD rfl (mf (mD rfl (mx ⟨rfl,?_⟩))))))))));refine mf (WR.val (yd (mE rfl) (mE rfl)) (mf (WR.val (a:=.lst []) (σ:=φ) rfl (mx ⟨rfl,?_⟩))));exact nj (nj ⟨.late u u2,⟨S8,hu,Xa⟩,rfl,p+5,Jy,SW⟩)
   |false=>
    refine WR.iteF rfl (mn (mh (mw (qs ?_))));refine nN (mf (nN (mf (mV (mf (WR.val (a:=.int (10+k:Nat)) (σ:=φ) (oH (v:=.int 10) (w:=.int k) rfl (mE rfl) rfl) (mf (mD rfl (mf (mD rfl (mf (mD rfl (mx ⟨rfl,?_⟩)))))))))))));refine mf (mV (mf (WR.val (yd (mE rfl) (mE rfl)) (mf (WR.val (a:=.lst []) (σ:=φ) rfl (mx ⟨rfl,?_⟩))))));exact nj ⟨.val u u2,⟨S8,hu,Xa⟩,rfl,p+5,Jy,SW⟩
end
section
open L1
structure Pd where
 u:Us
 c:Option Nat
namespace Pd
noncomputable def bodyV(u:Us):V:=.tup [.sym 41,.int 11,.sym 10,.tup [.sym 41,.int 11,.sym 3,.tup [.sym 128,.int 11,.sym 121],u.toV],.tup [.sym 103,.int 11,.int 9]]
noncomputable def withV(b:V)(n:Nat):V:=.tup [.sym 41,.int 12,.sym 9,b,.tup [.sym 44,.int 12,.sym (140+n),.tup [.tup [.sym 128,.int 12,.sym 121]]]]
noncomputable def allV(D:Pd):V:=match D.c with
 |none=>bodyV D.u
 |some n=>withV (bodyV D.u) n
noncomputable def item(k:Nat)(D:Pd):V:=.tup [.sym 148,.int (50+k:Nat),.sym (140+k),.tup [.tup [.tup [.sym 103,.bool true,.tup [],.none],.sym 121]],D.allV]
noncomputable def calls(D:Pd):List Nat:=D.c.toList
noncomputable def outV(k:Nat)(D:Pd):V:=.tup [D.item k,.lst (D.u.asks.map λk:Nat=>V.int k),.lst (D.calls.map λk:Nat=>V.int k)]
end Pd
noncomputable def E1:MS:=.q (.for (.v 8) (.v 7) (.a (.v 5) (.tup (.cons (.s 41) (.c4 (.i 12) (.s 9) (.v 5) (.tup (.c4 (.s 44) (.i 12) (.bin .add (.s 139) (.bi .str (.v 8))) (.tup (.c1 (.tup (.c3 (.s 128) (.i 12) (.s 121)))))))))) .skip)) (.r (.tup (.c3 (.tup (.cons (.s 148) (.c4 (.bin .add (.i 50) (.v 2)) (.bin .add (.s 139) (.bi .str (.v 2))) (.tup (.c1 (.tup (.c2 (.tup (.c4 (.s 103) (.lit (.bool true)) (.tup .nil) (.lit .none))) (.s 121))))) (.v 5)))) (.v 4) (.v 7))))
theorem yZ{C:Bool->Call}{φ:St}{w many:Nat}{D:Pd}{x8:Option V}(hk:k < 3):
  WR (dS pg C false (.r (.tup (.c3 (.tup (.cons (.s 148) (.c4 (.bin .add (.i 50) (.v 2)) (.bin .add (.s 139) (.bi .str (.v 2))) (.tup (.c1 (.tup (.c2 (.tup (.c4 (.s 103) (.lit (.bool true)) (.tup .nil) (.lit .none))) (.s 121))))) (.v 5)))) (.v 4) (.v 7)))) [some (.obj m),some (.obj w),some (.int k),some D.u.toV,some (.lst (D.u.asks.map λk:Nat=>V.int k)),some D.allV,some (.int many),some (.lst (D.calls.map λk:Nat=>V.int k)),x8] φ) (λp τ=>sq p.1=D.outV k/\τ=φ) λZ Z=>False:=by
 refine mw (qs ?_);refine nN (mf (nN (mf (mV (mf (WR.val (a:=.int (50+k:Nat)) (σ:=φ) (oH (v:=.int 50) (w:=.int k) rfl (mE rfl) rfl) (mf (WR.val (IB (mE (v:=.int k) rfl) hk) (mf (WR.val (a:=.tup [.tup [.tup [.sym 103,.bool true,.tup [],.none],.sym 121]]) (σ:=φ) rfl (mf (mD rfl (mx ⟨rfl,?_⟩)))))))))))));exact mf (mD rfl (mf (mD rfl (mx ⟨rfl,nj ⟨rfl,rfl⟩⟩))))
theorem uh{C:Bool->Call}{φ:St}{w many:Nat}{D:Pd}(hk:k < 3)(hc:∀n,D.c=some n->n < 3):
  WR (dS pg C false E1 [some (.obj m),some (.obj w),some (.int k),some D.u.toV,some (.lst (D.u.asks.map λk:Nat=>V.int k)),some (Pd.bodyV D.u),some (.int many),some (.lst (D.calls.map λk:Nat=>V.int k)),none] φ) (λp τ=>sq p.1=D.outV k/\τ=φ) λZ Z=>False:=by
 obtain ⟨u,c⟩:=D
 cases c with
 |none=>
  refine mw (qr rfl (WR.val (a:=.items []) (σ:=φ) rfl (un rfl (mh ?_))));exact yZ (D:=⟨u,none⟩) hk
 |some n=>
  have hn:=hc n rfl;refine mw (qr rfl (WR.val (a:=.items [.int n]) (σ:=φ) rfl (q7 rfl (q0 rfl (mw (nS ?_))))));refine nN (mf (mV (mf (mV (mf (mV (mf (mD rfl (mf (nN (mf (mV (mf (mV (mf (WR.val (IB (mE (v:=.int n) rfl) hn) (mf (WR.val (a:=.tup [.tup [.sym 128,.int 12,.sym 121]]) (σ:=φ) rfl (mx ⟨rfl,?_⟩)))))))))))))))))));refine mx ⟨rfl,?_⟩;refine WR.val (a:=[some (.obj m),some (.obj w),some (.int k),some u.toV,some (.lst (u.asks.map λk:Nat=>V.int k)),some (Pd.withV (Pd.bodyV u) n),some (.int many),some (.lst [.int n]),some (.int n)]) (σ:=φ) rfl (mh (mn (mh (un rfl (mh ?_)))));exact yZ (D:=⟨u,some n⟩) hk
end
variable {Pk:Nat->Pd}
section
open L1
theorem C9{P:Pg}{q:Bool}{E:Unit->St->Prop}{Q:Bool->St->Prop}{a:MX}(h:WR (dT P q C a ρ σ) (λt σ=>WR (if t=true then dT P q C (.and es) ρ σ else .ok false σ) Q E) E):WR (dT P q C (.and (.cons a es)) ρ σ) Q E:=WR.bind h
def Pd.Fits(ss:List Nat)(n:Nat)(D:Pd):Prop:=D.u.Fits ss false/\∀i,D.c=some i->i < n
theorem E3{w p calls:Nat}{xs:List Int}(e:σ[m]?=some (m4 xs p))(ew:σ[w]?=some (mO calls ss))(hmw:m≠w)(h1:p<=90000)(h2:2<=ss.length)(hs:ss.length<=6)(hk:k < calls)(hc:calls<=3):
  WR (mu pg (d+3) false 40 [.obj m,.obj w,.int k] σ) (λv τ=>∃D:Pd,D.Fits ss calls/\v=D.outV k/\∃p':Nat,p'<=p+5/\τ=σ.set m (m4 xs p')) λZ Z=>False:=by
 have hm:m < σ.length:=(aq.mp e).1;refine WR.call rfl rfl (mw (nS (m5 (mf (mD rfl (mf (mD rfl (mf (mV (mf (mV (mx ?_))))))))))));refine (uT (d:=d) (below:=2) (b:=false) e ew hmw (Qb h1) h2 hs).mono (λv τ h=>?_) λZ Z h=>h.elim;refine mM h λu hu hv hτ=>?_;subst hv
 have em:τ[m]?=some (m4 xs ((p+2:Nat):Int)):=by rw[hτ];exact aF hm
 have ewτ:τ[w]?=some (mO calls ss):=by rw[hτ,aj hmw];exact ew
 refine WR.val (a:=[some (.obj m),some (.obj w),some (.int k),some u.toV,some (.lst (u.asks.map λk:Nat=>V.int k)),none,none,none,none]) (σ:=τ) rfl (mh (mw (nS ?_)));refine WR.val (a:=Pd.bodyV u) (σ:=τ) rfl ?_;refine WR.val (a:=[some (.obj m),some (.obj w),some (.int k),some u.toV,some (.lst (u.asks.map λk:Nat=>V.int k)),some (Pd.bodyV u),none,none,none]) (σ:=τ) rfl (mh (mw (nS ?_)));refine C2 (AY (m5 (mf (mD rfl (mf (mV (mx ?_)))))));refine (oO (d:=d+1) (k:=12) em (bj _) (Qa h1) (by decide)).mono (λv υ h=>?_) λZ Z h=>h.elim;refine mM h λr hr hv2 S3=>?_;subst hv2;have hml:m < τ.length:=(aq.mp em).1
 have emυ:υ[m]?=some (m4 xs ((p+3:Nat):Int)):=by rw[S3];exact aF hml
 have ewυ:υ[w]?=some (mO calls ss):=by rw[S3,aj hmw];exact ewτ
 have hυ2:υ=σ.set m (m4 xs ((p+3:Nat):Int)):=by rw[S3,hτ,eQ];rfl
 refine mV (WR.of (a:=((r:Int)==11)) rfl ?_)
 obtain ⟨many,hmany,key⟩:∃many:Nat,many<=calls/\∀(C:Call) (ρ:mc),ρ[1]?.join=some (.obj w)->ρ[2]?.join=some (.int k)->(if ((r:Int)==11)=true then dE pg false C (.idx (.v 1) (.s 46)) ρ υ else dE pg false C (.v 2) ρ υ)=.ok (.int many) υ:=by
  cases (r:Int)==11 with
  |true=>exact⟨calls,aN _,λC ρ a1 a2=>by rw[if_pos rfl];exact nC (mE a1) rfl (s8 ewυ)⟩
  |false=>exact⟨k,bK hk,λC ρ a1 a2=>by rw[if_neg (by decide)];exact mE a2⟩
 refine WR.val (key _ _ rfl rfl) ?_;refine WR.val (a:=[some (.obj m),some (.obj w),some (.int k),some u.toV,some (.lst (u.asks.map λk:Nat=>V.int k)),some (Pd.bodyV u),some (.int many),none,none]) (σ:=υ) rfl (mh (mw (nS ?_)));refine C2 (C9 (WR.val (a:=decide ((many:Int) > 0)) (σ:=υ) (oo (v:=.int many) (w:=.int 0) (mE rfl) rfl rfl) ?_))
 cases hpos:decide ((many:Int) > 0) with
 |false=>
  refine WR.iteF rfl (WR.ok (WR.iteF rfl (WR.val (a:=.lst []) (σ:=υ) rfl ?_)));refine WR.val (a:=[some (.obj m),some (.obj w),some (.int k),some u.toV,some (.lst (u.asks.map λk:Nat=>V.int k)),some (Pd.bodyV u),some (.int many),some (.lst []),none]) (σ:=υ) rfl (mh ?_);exact (uh (D:=⟨u,none⟩) (Jz hk hc) (λn h=>mr h)).mono (λx ψ h=>⟨⟨u,none⟩,⟨hu,λn h=>mr h⟩,h.1,p+3,NG,by rw[h.2];exact hυ2⟩) λZ Z h=>h.elim
 |true=>
  have XX:0 < many:=c8.mp (of_decide_eq_true hpos);refine WR.iteT rfl (C9 (AY (m5 (mf (mD rfl (mf (mV (mx ?_))))))));refine (oO (d:=d+1) (k:=3) emυ (bj _) (Nv h1) (by decide)).mono (λv φ h=>?_) λZ Z h=>h.elim;refine mM h λr2 UA hv3 hφ=>?_;subst hv3
  have WV:φ[m]?=some (m4 xs ((p+4:Nat):Int)):=by rw[hφ];exact aF (aq.mp emυ).1
  have SW:φ=σ.set m (m4 xs ((p+4:Nat):Int)):=by rw[hφ,hυ2,eQ];rfl
  refine mV (WR.of (a:=decide ((r2:Int) > 0)) rfl ?_)
  cases decide ((r2:Int) > 0) with
  |false=>
   refine WR.iteF rfl (WR.ok (WR.iteF rfl (WR.val (a:=.lst []) (σ:=φ) rfl ?_)));refine WR.val (a:=[some (.obj m),some (.obj w),some (.int k),some u.toV,some (.lst (u.asks.map λk:Nat=>V.int k)),some (Pd.bodyV u),some (.int many),some (.lst []),none]) (σ:=φ) rfl (mh ?_);exact (uh (D:=⟨u,none⟩) (Jz hk hc) (λn h=>mr h)).mono (λx ψ h=>⟨⟨u,none⟩,⟨hu,λn h=>mr h⟩,h.1,p+4,M9,by rw[h.2];exact SW⟩) λZ Z h=>h.elim
  |true=>
   refine WR.iteT rfl (WR.val (a:=true) (σ:=φ) rfl (WR.iteT rfl (oG (mf (m5 (mf (mD rfl (mf (mD rfl (mx ?_))))))))));refine (oO (d:=d+1) (k:=many) WV (bj _) (P9 h1) XX).mono (λv ψ h=>?_) λZ Z h=>h.elim;refine mM h λn hn XJ TY=>?_;subst XJ
   have Wc:ψ=σ.set m (m4 xs ((p+5:Nat):Int)):=by rw[TY,SW,eQ];rfl
   refine mx ⟨rfl,WR.val (a:=.lst [.int n]) (σ:=ψ) rfl ?_⟩;refine WR.val (a:=[some (.obj m),some (.obj w),some (.int k),some u.toV,some (.lst (u.asks.map λk:Nat=>V.int k)),some (Pd.bodyV u),some (.int many),some (.lst [.int n]),none]) (σ:=ψ) rfl (mh ?_)
   have hnc:∀i,(some n:Option Nat)=some i->i < calls:=λi h=>by rw[<-am h];exact JA hmany hn
   exact (uh (D:=⟨u,some n⟩) (Jz hk hc) (λi h=>ao (hnc i h) hc)).mono (λx θ h=>⟨⟨u,some n⟩,⟨hu,hnc⟩,h.1,p+5,Jy,by rw[h.2];exact Wc⟩) λZ Z h=>h.elim
end
section
open L1
noncomputable def vU(c:Nat->Option Nat):Nat->List Nat->Option Nat->List Nat
 |0,f,_=>f
 |_+1,f,none=>f
 |n+1,f,some i=>if f.contains i=true then f else vU c n (f++[i]) (c i)
noncomputable def mj(l:List Nat):List V:=l.map λk:Nat=>V.int k
section
variable {P:Pg}{C:Bool->Call}{Q:Fl×mc->St->Prop}{E:mc->St->Prop}
theorem v7{c:MX}{b:MS}(h:WR (qg (dT P false (C false) c) (dS P C false b) mU ρ σ) Q E):WR (dS P C false (.whl c b) ρ σ) Q E:=h
theorem s5{c:mc->St->R Unit Bool}{f:mc->St->R mc (Fl×mc)}(e:c ρ σ=.ok false σ)(h:Q (.next,ρ) σ):WR (qg c f (k+1) ρ σ) Q E:=by
 show WR (((c ρ σ).lift ρ).bind _) Q E;rw[e];exact h
theorem v8{c:mc->St->R Unit Bool}{f:mc->St->R mc (Fl×mc)}(e:c ρ σ=.ok true σ)(h:WR (f ρ σ) (λp σ=>WR (after (qg c f k) p σ) Q E) E):WR (qg c f (k+1) ρ σ) Q E:=by
 show WR (((c ρ σ).lift ρ).bind _) Q E;rw[e];show WR ((f ρ σ).bind (after (qg c f k))) Q E;exact WR.bind h
end
theorem vr{l:List Nat}{i:Nat}(e:listAt σ n=some (mj l))(hl:l.length<=10):uJ σ (.int i) (.obj n)=some (l.contains i):=by
 have sh:∀l:List Nat,m9 40 (mj l)=true:=λl=>by induction l with
  |nil=>rfl
  |cons a l ih=>show (true&&m9 40 (mj l))=true;rw[ih];rfl
 have an:∀l:List Nat,((mj l).any λy=>sG y (.int i))=l.contains i:=λl=>by induction l with
  |nil=>rfl
  |cons a l ih=>
   show (((a:Int)==(i:Int))||(mj l).any λy=>sG y (.int i))=(i==a||l.contains i);rw[ih]
   congr 1
   by_cases h:a=i
   .subst h;rw[beq_self_eq_true,beq_self_eq_true]
   .rw[beq_false_of_ne (a:=(a:Int)) (b:=(i:Int)) (λe=>h (lu e)),beq_false_of_ne (λe=>h e.symm)]
 have hd:rE σ (.obj n)=none:=by
  refine (JV (l:=mj l) (v:=.obj n) ?_).2.2;show mH none (mH none (listAt σ n))=_;rw[e];rfl
 have hs:rI σ (.obj n)=some (mj l):=by
  show mH none (mH none (listAt σ n))=_;rw[e];rfl
 unfold uJ DT DV;rw[hd,hs];show og (oA 40 (.int i)&&m9 40 (mj l)) _=_;unfold og;rw[sh,an];rfl
end
section
open L1
theorem zY{o:Option Nat}(e:listAt σ n=some (mj o.toList)):pS σ .ne (.obj n) (.lst [])=some o.isSome:=by
 have hn:vt σ (.obj n)=.lst (mj o.toList):=by
  show (match listAt σ n with | some l=>V.lst l | none=>.obj n)=_;rw[e]
 show (og (oA 40 (vt σ (.obj n))&&true) (sG (vt σ (.obj n)) (.lst []))).map not=_;rw[hn]
 cases o<;>rfl
theorem rP{P:Pg}{C:Bool->Call}{Q:Fl×mc->St->Prop}{E:mc->St->Prop}{i:Nat}{a:MX}{x:V}(e:ρ[i]?.join=some (.obj n))(hl:listAt σ n=some l)(hn:l.length < me)(ha:dE P false (C false) a ρ σ=.ok x σ)(h:Q (.next,ρ) (σ.set n (.list (l++[x])))):WR (dS P C false (.expr (.bm .append (.v i) (.c1 a))) ρ σ) Q E:=by
 refine zC (uU (mD e ⟨?_,mf (WR.val ha (mx ?_))⟩))
 .show ((si (.obj n)).bind (listAt σ)).isSome=true;show (listAt σ n).isSome=true;rw[hl];rfl
 .refine WR.val (a:=.none) (σ:=σ.set n (.list (l++[x]))) ?_ h;show R.opt (listAt σ n) (λl=>gd (l.length < me) (.ok V.none (σ.set n (.list (l++[x])))))=_;rw[hl];show gd (l.length < me) _=_;unfold gd;rw[if_pos hn]
theorem HM{P:Pg}{C:Bool->Call}{Q:Fl×mc->St->Prop}{E:mc->St->Prop}{i:Nat}{r:List V}{a:MX}(e:ρ[i]?.join=some (.obj n))(hl:listAt σ n=some l)(hn:(l++r).length<=me)(ha:dE P false (C false) a ρ σ=.ok (.lst r) σ)(h:Q (.next,ρ) (σ.set n (.list (l++r)))):WR (dS P C false (.expr (.bm .extend (.v i) (.c1 a))) ρ σ) Q E:=by
 refine zC (uU (mD e ⟨?_,mf (WR.val ha (mx ?_))⟩))
 .show (listAt σ n).isSome=true;rw[hl];rfl
 .refine WR.val (a:=.none) (σ:=σ.set n (.list (l++r))) ?_ h;show R.opt (listAt σ n) (λl=>gd ((l++r).length<=me) (.ok V.none (σ.set n (.list (l++r)))))=_;rw[hl];show gd ((l++r).length<=me) _=_;unfold gd;rw[if_pos hn]
theorem zy{P:Pg}{Q:V->St->Prop}{E:Unit->St->Prop}{i:Nat}{x:V}(e:ρ[i]?.join=some (.obj n))(hl:listAt σ n=some (l++[x]))(h:Q x (σ.set n (.list l))):WR (dE P false C (.bm .pop0 (.v i) .nil) ρ σ) Q E:=by
 refine uU (mD e ⟨?_,mx ?_⟩)
 .show (listAt σ n).isSome=true;rw[hl];rfl
 .refine WR.val (a:=x) (σ:=σ.set n (.list l)) ?_ h;show R.opt (listAt σ n) (λl=>R.opt (l.getLast?) λv=>.ok v (σ.set n (.list l.dropLast)))=_;rw[hl];show R.opt ((l++[x]).getLast?) _=_;rw[je];show R.ok x (σ.set n (.list (l++[x]).dropLast))=_;rw[jc]
theorem rh{l0:List V}(h:listAt σ n=some l0):listAt (σ.set n (.list l)) n=some l:=by
 unfold listAt;rw[aF (aq.mp (listAt_eq h)).1];rfl
theorem pj{o:O}(h:n≠m):listAt (σ.set n o) m=listAt σ m:=by
 unfold listAt;rw[aj h]
end
section
open L1
noncomputable def PT:MX:=.cmp .ne (.v 3) (.lst false .nil)
noncomputable def PS:MS:=.a (.v 4) (.bm .pop0 (.v 3) .nil) (.f (.cmp .notin (.v 4) (.v 2)) (.q (.expr (.bm .append (.v 2) (.c1 (.v 4)))) (.q (.expr (.bm .extend (.v 3) (.c1 (.idx (.v 1) (.v 4))))) .skip)) .skip)
noncomputable abbrev Gk(v0:V)(nr nf nw:Nat)(x:Option V):mc:=[some v0,some (.obj nr),some (.obj nf),some (.obj nw),x]
theorem yn{C:Bool->Call}{nf nw nr N:Nat}{c:Nat->Option Nat}{v0:V}{R:List V}(h1:nf≠nw)(h2:nf≠nr)(h3:nw≠nr)(hN:N<=3)(hcl:∀i,i < N->∀j,c i=some j->j < N)(hR:∀i,i < N->R[i]?=some (.lst (mj (c i).toList))):
  ∀(n:Nat) {K:Nat} {f:List Nat} {o:Option Nat} {τ:St} {x:Option V},listAt τ nf=some (mj f)->listAt τ nw=some (mj o.toList)->listAt τ nr=some R->f.Nodup->(∀i∈f,i < N)->(∀i,o=some i->i < N)->N < f.length+n->
  WR (qg (dT pg false (C false) PT) (dS pg C false PS) (K+n+1) (Gk v0 nr nf nw x) τ) (λp υ=>p.1=.next/\(∃x,p.2=Gk v0 nr nf nw x)/\listAt υ nf=some (mj (vU c n f o))/\(∀i,i≠nf->i≠nw->υ[i]?=τ[i]?)/\υ.length=τ.length) λZ Z=>False
 |0,K,f,o,τ,x,hf,hw,hr,hd,hb,ho,hn=>by
  have:f.length<=(az N).length:=m7 hd λi hi=>bt.mpr (hb i hi);rw[aR] at this;exact absurd hn (Ou this)
 |n+1,K,f,none,τ,x,hf,hw,hr,hd,hb,ho,hn=>s5 (oo (mE (v:=.obj nw) rfl) rfl (zY hw)) ⟨rfl,⟨_,rfl⟩,hf,λZ Z Z=>rfl,rfl⟩
 |n+1,K,f,some i,τ,x,hf,hw,hr,hd,hb,ho,hn=>by
  have hi:=ho i rfl;have T3:f.length<=(az N).length:=m7 hd λi hi=>bt.mpr (hb i hi);rw[aR] at T3;refine v8 (oo (mE (v:=.obj nw) rfl) rfl (zY hw)) (mw (nS (zy (n:=nw) (l:=[]) (x:=.int i) rfl hw ?_)))
  have VP:listAt (τ.set nw (.list [])) nf=some (mj f):=by rw[pj (bJ h1)];exact hf
  have W8:listAt (τ.set nw (.list [])) nw=some []:=rh hw
  have UR:listAt (τ.set nw (.list [])) nr=some R:=by rw[pj h3];exact hr
  refine WR.val (a:=Gk v0 nr nf nw (some (.int i))) (σ:=τ.set nw (.list [])) rfl (mh (mw (sH ?_)));refine WR.val (a:=!f.contains i) (σ:=τ.set nw (.list [])) (oo (v:=.int i) (w:=.obj nf) (mE rfl) (mE rfl) ?_) ?_
  .show (uJ _ _ _).map not=_;rw[vr VP (Ot hN T3)];rfl
  cases Sw:f.contains i with
  |true=>
   refine WR.iteF rfl (mn (mh (mn (mh ?_))));refine s5 (oo (mE (v:=.obj nw) rfl) rfl (zY (o:=none) W8)) ⟨rfl,⟨_,rfl⟩,?_,λj Z hj=>aj (bJ hj),aV⟩;show _=some (mj (if f.contains i=true then f else _));rw[Sw];exact VP
  |false=>
   refine WR.iteT rfl (mw (rP (n:=nf) (l:=mj f) (x:=.int i) rfl VP ?_ (mE rfl) (mh (mw ?_))))
   .show (f.map _).length < me;rw[ay];exact aB (ac T3 hN) (by decide)
   have WH:listAt ((τ.set nw (.list [])).set nf (.list (mj f++[.int i]))) nf=some (mj (f++[i])):=by
    rw[rh VP];show some (f.map (λk:Nat=>V.int k)++[V.int i])=some ((f++[i]).map λk:Nat=>V.int k);rw[bf];rfl
   have W7:listAt ((τ.set nw (.list [])).set nf (.list (mj f++[.int i]))) nw=some []:=by rw[pj h1];exact W8
   have UA:listAt ((τ.set nw (.list [])).set nf (.list (mj f++[.int i]))) nr=some R:=by rw[pj h2];exact UR
   have WD:oM pg ((τ.set nw (.list [])).set nf (.list (mj f++[.int i]))) (.obj nr) (.int i)=some (.lst (mj (c i).toList)):=by
    show mH ((mH none (mH none (listAt _ nr))).bind λl=>vT l i) _=_;rw[UA];show mH (vT R i) _=_;unfold vT;rw[if_pos (bj i),show ((i:Int).toNat)=i from bU i,hR i hi];rfl
   refine HM (n:=nw) (l:=[]) (r:=mj (c i).toList) rfl W7 ?_ (nC (v:=.obj nr) (w:=.int i) (mE rfl) (mE rfl) WD) (mh (mn (mh (mn (mh ?_)))))
   .show ((c i).toList.map _).length<=me;rw[ay]
    cases c i
    .exact ce _
    .exact (by decide:1<=me)
   have Wz:¬i∈f:=λh=>by rw[bx.mpr h] at Sw;exact ma Sw.symm
   have UE:∀j∈f++[i],j < N:=λj hj=>(aH.mp hj).elim (hb j) λh=>by rw[au.mp h];exact hi
   have hnd:(f++[i]).Nodup:=bV.mpr ⟨hd,bo.mpr ⟨λh=>(nomatch h),cu⟩,λa ha b hb' e=>Wz (by rw[<-au.mp hb',<-e];exact ha)⟩;refine (yn h1 h2 h3 hN hcl hR n (K:=K) (f:=f++[i]) (o:=c i) (x:=some (.int i)) ?_ ?_ ?_ hnd UE (hcl i hi) ?_).mono (λp υ h=>⟨h.1,h.2.1,?_,λj a b=>?_,?_⟩) λZ Z h=>h
   .rw[pj (bJ h1)];exact WH
   .exact rh W7
   .rw[pj h3];exact UA
   .rw[ah];show N < f.length+1+n;exact Os hn
   .rw[h.2.2.1];show _=some (mj (if f.contains i=true then f else _));rw[Sw];rfl
   .rw[h.2.2.2.1 j a b,aj (bJ b),aj (bJ a),aj (bJ b)]
   .rw[h.2.2.2.2,aV,aV,aV]
end
section
open L1
theorem Gm{nr:Nat}{c:Nat->Option Nat}{o:Option Nat}{R:List V}(hN:N<=3)(hcl:∀i,i < N->∀j,c i=some j->j < N)(hR:∀i,i < N->R[i]?=some (.lst (mj (c i).toList)))(hr:listAt σ nr=some R)(ho:∀i,o=some i->i < N)(hl:σ.length+2<=1000):
  WR (mu pg (d+1) false 41 [.lst (mj o.toList),.obj nr] σ) (λv υ=>v=.obj σ.length/\listAt υ σ.length=some (mj (vU c (N+1) [] o))/\(∀i,i < σ.length->υ[i]?=σ[i]?)/\υ.length=σ.length+2) λZ Z=>False:=by
 have hlen:nr < σ.length:=(aq.mp (listAt_eq hr)).1;refine WR.call rfl rfl (mw (nS (nN (mf (oG (mx ⟨rfl,?_⟩))))));refine WR.val (a:=.obj σ.length) (σ:=σ++[.list []]) rfl (mf (Iy rfl (mD rfl ?_)));refine WR.val (a:=.obj (σ.length+1)) (σ:=(σ++[.list []])++[.list (mj o.toList)]) ?_ (mx ⟨rfl,?_⟩)
 .show gd ((mj o.toList).length<=me) (Mine.Internal.R.ok (V.obj (σ++[O.list []]).length) ((σ++[O.list []])++[O.list (mj o.toList)]))=_;unfold gd;rw[if_pos (by cases o;exact ce _;exact (by decide:1<=me)),ah];rfl
 refine WR.val (a:=Gk (.lst (mj o.toList)) nr σ.length (σ.length+1) none) (σ:=(σ++[.list []])++[.list (mj o.toList)]) rfl (mh (mw (v7 ?_)))
 have hk:∀i,i < σ.length->((σ++[O.list []])++[.list (mj o.toList)])[i]?=σ[i]?:=λi hi=>by
  rw[aJ (by rw[ah];exact ao hi (aA _ _)),aJ hi]
 have e1:listAt ((σ++[O.list []])++[.list (mj o.toList)]) σ.length=some (mj []):=by
  unfold listAt;rw[aJ (by rw[ah];exact bO _),aI (aN _),bC];rfl
 have e2:listAt ((σ++[O.list []])++[.list (mj o.toList)]) (σ.length+1)=some (mj o.toList):=by
  unfold listAt;rw[aI (by rw[ah];exact aN _),ah];show ([O.list (mj o.toList)][σ.length+1 - (σ.length+1)]?).bind _=_;rw[bC];rfl
 have e3:listAt ((σ++[O.list []])++[.list (mj o.toList)]) nr=some R:=by unfold listAt;rw[hk nr hlen];exact hr
 have hw:mU=(mU - (N+2))+(N+1)+1:=by
  have:mU=10000:=rfl;exact Ox hN this
 rw[hw];refine (yn (nf:=σ.length) (nw:=σ.length+1) (nr:=nr) (GJ) (Ce hlen) (Ow hlen) hN hcl hR (N+1) (K:=mU - (N+2)) (f:=[]) (o:=o) e1 e2 e3 cu (λi h=>(nomatch h)) ho (by show N < 0+(N+1);exact Ov)).mono (λp υ h=>?_) λZ Z h=>h.elim;refine sC h λhp1 RV Wt Ws Wr=>?_;obtain ⟨x,hp2⟩:=RV;obtain ⟨fl,ρ⟩:=p;have hp1:fl=.next:=hp1;have hp2:ρ=_:=hp2;subst hp1;subst hp2;refine mh (mw (qs (mD rfl (nj ⟨rfl,Wt,λi hi=>?_,?_⟩))))
 .rw[Ws i (zX hi) (xg hi)];exact hk i hi
 .rw[Wr,ah,ah];rfl
end
section
open L1
noncomputable def qU(need:Nat->List Nat)(order found:List Nat):Option Nat:=(order.filter λk=>!found.contains k&&(need k).all found.contains).head?
noncomputable def m8(need:Nat->List Nat)(order:List Nat):Nat->List Nat->Option (List Nat)
 |0,found=>some found
 |n+1,found=>(qU need order found).bind λk=>m8 need order n (found++[k])
theorem yo{l found:List Nat}:(l.filter λk=>!found.contains k)=[]↔l.all found.contains=true:=by
 induction l with
 |nil=>exact⟨λZ=>rfl,λZ=>rfl⟩
 |cons a l ih=>
  show lT _ (a::l)=[]↔(found.contains a&&l.all found.contains)=true;rw[dN]
  cases found.contains a with
  |true=>exact ih
  |false=>exact⟨λh=>(nomatch h),λh=>ma h⟩
theorem tv{l:List Nat}{p:Nat->Bool}{g:V->Option V}(h:∀k∈l,g (.int (k:Nat))=if p k=true then some (.int k) else none):(mj l).filterMap g=mj (l.filter p):=by
 induction l with
 |nil=>rfl
 |cons a l ih=>
  have ha:=h a ax;have ih:=ih λk hk=>h k (aE _ hk);show List.filterMap g (V.int (a:Nat)::mj l)=mj (lT p (a::l));rw[dN]
  cases hp:p a with
  |true=>
   rw[hp] at ha;rw[bE (show g (V.int (a:Nat))=some (V.int a) from ha),ih];rfl
  |false=>
   rw[hp] at ha;rw[bG (show g (V.int (a:Nat))=none from ha),ih];rfl
end
section
open L1
noncomputable def Pi(found:List Nat):V->Option V
 |.int (.ofNat j)=>if (!found.contains j)=true then some (.int j) else none
 |_=>none
theorem AD{found l:List Nat}{R:List V}(e1:ρ[1]?.join=some (.obj nn))(e2:ρ[2]?.join=some (.obj nf))(e5:ρ[5]?.join=some (.int k))(hl:ρ.length=7)(hn:listAt τ nn=some R)(hR:R[k]?=some (.lst (mj l)))(hf:listAt τ nf=some (mj found))(h1:l.length<=me)(h2:found.length<=10):
  dE pg false C (.comp (.v 6) (.idx (.v 1) (.v 5)) (.cmp .notin (.v 6) (.v 2)) (.v 6)) ρ τ=.ok (.lst (mj (l.filter λj=>!found.contains j))) τ:=by
 rw[<-tv (g:=Pi found) λk Z=>rfl];refine sA ?_ (by show (l.map _).length<=me;rw[ay];exact h1) ?_
 .have WD:oM pg τ (.obj nn) (.int k)=some (.lst (mj l)):=by
   show mH ((mH none (mH none (listAt τ nn))).bind λl=>vT l k) _=_;rw[hn];show mH (vT R k) _=_;unfold vT;rw[if_pos (bj k),show ((k:Int).toNat)=k from bU k,hR];rfl
  show (dE pg false C (.idx (.v 1) (.v 5)) ρ τ).bind _=_;rw[nC (mE e1) (mE e5) WD];rfl
 .intro v hv;refine l8 (aW.mp hv) λj hj e=>?_;rw[<-e]
  have hb:nA (.v 6) (.int j) ρ=some (ρ.set 6 (some (.int j))):=by
   show (og (6 < ρ.length) (ρ.set 6 (some (V.int j)))).bind _=_;unfold og;rw[if_pos (Oy hl)];rfl
  have g2:(ρ.set 6 (some (V.int j)))[2]?.join=some (.obj nf):=by rw[aj (by decide)];exact e2
  have g6:(ρ.set 6 (some (V.int j)))[6]?.join=some (.int j):=by rw[aF (Oy hl)];rfl
  have hc:dT pg false C (.cmp .notin (.v 6) (.v 2)) (ρ.set 6 (some (.int j))) τ=.ok (!found.contains j) τ:=oo (mE g6) (mE g2) (by
   show (uJ _ _ _).map not=_
   rw[vr hf h2];rfl)
  show Mine.Internal.R.opt (nA (.v 6) (.int j) ρ) (λρ'=>(dT pg false C (.cmp .notin (.v 6) (.v 2)) ρ' τ).bind λb σ=>if b=true then (dE pg false C (.v 6) ρ' σ).bind λx σ=>.ok (some x) σ else .ok none σ)=_;rw[hb];show (dT pg false C (.cmp .notin (.v 6) (.v 2)) (ρ.set 6 (some (.int j))) τ).bind _=_;rw[hc];show (if (!found.contains j)=true then (dE pg false C (.v 6) (ρ.set 6 (some (.int j))) τ).bind _ else _)=Mine.Internal.R.ok (if (!found.contains j)=true then some (V.int j) else none) τ;rw[mE g6]
  cases (!found.contains j)<;>rfl
end
section
open L1
noncomputable def DX:MX:=.comp (.v 6) (.idx (.v 1) (.v 5)) (.cmp .notin (.v 6) (.v 2)) (.v 6)
noncomputable def y7:MX:=.and (.c2 (.cmp .notin (.v 5) (.v 2)) (.cmp .eq DX (.lst false .nil)))
noncomputable def tB(need:Nat->List Nat)(found:List Nat)(k:Nat):Bool:=!found.contains k&&(need k).all found.contains
noncomputable def Li(need:Nat->List Nat)(found:List Nat):V->Option V
 |.int (.ofNat j)=>if tB need found j=true then some (.int j) else none
 |_=>none
theorem yT{l:List Nat}(h:l.length<=100):pS τ .eq (.lst (mj l)) (.lst [])=some l.isEmpty:=by
 have sh:∀l:List Nat,m9 39 (mj l)=true:=λl=>by induction l with
  |nil=>rfl
  |cons a l ih=>show (true&&m9 39 (mj l))=true;rw[ih];rfl
 show og (m9 39 (mj l)&&true) (sG (.lst (mj l)) (.lst []))=_;rw[sh]
 cases l<;>rfl
theorem CJ{found:List Nat}{R:List V}(e0:ρ[0]?.join=some (.lst (mj order)))(e1:ρ[1]?.join=some (.obj nn))(e2:ρ[2]?.join=some (.obj nf))(hl:ρ.length=7)(hn:listAt τ nn=some R)(hR:∀k∈order,R[k]?=some (.lst (mj (need k)))/\(need k).length<=100)(hf:listAt τ nf=some (mj found))(h2:found.length<=10)(h3:order.length<=10):
  dE pg false C (.comp (.v 5) (.v 0) y7 (.v 5)) ρ τ=.ok (.lst (mj (order.filter (tB need found)))) τ:=by
 rw[<-tv (g:=Li need found) λk Z=>rfl];refine sA ?_ (by show (order.map _).length<=me;rw[ay];exact ac h3 (by decide)) ?_
 .show (dE pg false C (.v 0) ρ τ).bind _=_;rw[mE e0];rfl
 .intro v hv;refine l8 (aW.mp hv) λk hk e=>?_;rw[<-e]
  have hb:nA (.v 5) (.int k) ρ=some (ρ.set 5 (some (.int k))):=by
   show (og (5 < ρ.length) (ρ.set 5 (some (V.int k)))).bind _=_;unfold og;rw[if_pos (Oz hl)];rfl
  have g1:(ρ.set 5 (some (V.int k)))[1]?.join=some (.obj nn):=by rw[aj (by decide)];exact e1
  have g2:(ρ.set 5 (some (V.int k)))[2]?.join=some (.obj nf):=by rw[aj (by decide)];exact e2
  have g5:(ρ.set 5 (some (V.int k)))[5]?.join=some (.int k):=by rw[aF (Oz hl)];rfl
  have gl:(ρ.set 5 (some (V.int k))).length=7:=by rw[aV];exact hl
  have TF:dE pg false C DX (ρ.set 5 (some (.int k))) τ=_:=AD (l:=need k) g1 g2 g5 gl hn (hR k hk).1 hf (ac (hR k hk).2 (by decide)) h2
  have T3:((need k).filter λj=>!found.contains j).isEmpty=(need k).all found.contains:=by
   cases hx:(need k).all found.contains with
   |true=>rw[yo.mpr hx];rfl
   |false=>
    cases hy:(need k).filter λj=>!found.contains j with
    |nil=>rw[yo.mp hy] at hx;exact ma hx.symm
    |cons a l=>rfl
  have hc:dT pg false C y7 (ρ.set 5 (some (.int k))) τ=.ok (tB need found k) τ:=by
   have t1:dT pg false C (.cmp .notin (.v 5) (.v 2)) (ρ.set 5 (some (.int k))) τ=.ok (!found.contains k) τ:=oo (mE g5) (mE g2) (by
    show (uJ _ _ _).map not=_
    rw[vr hf h2];rfl)
   have t2:dT pg false C (.cmp .eq DX (.lst false .nil)) (ρ.set 5 (some (.int k))) τ=.ok ((need k).all found.contains) τ:=oo TF rfl (by
    rw[yT (ac (eB _ _) (hR k hk).2),T3])
   have:=qI t1 (qI t2 (show dT pg false C (.and .nil) (ρ.set 5 (some (.int k))) τ=.ok true τ from rfl));rw[fh] at this;exact this
  show Mine.Internal.R.opt (nA (.v 5) (.int k) ρ) (λρ'=>(dT pg false C y7 ρ' τ).bind λb σ=>if b=true then (dE pg false C (.v 5) ρ' σ).bind λx σ=>.ok (some x) σ else .ok none σ)=_;rw[hb];show (dT pg false C y7 (ρ.set 5 (some (.int k))) τ).bind _=_;rw[hc];show (if tB need found k=true then (dE pg false C (.v 5) (ρ.set 5 (some (.int k))) τ).bind _ else _)=Mine.Internal.R.ok (if tB need found k=true then some (V.int k) else none) τ;rw[mE g5]
  cases tB need found k<;>rfl
end
section
open L1
noncomputable def Ph:MS:=.a (.v 4) (.comp (.v 5) (.v 0) y7 (.v 5)) (.f (.cmp .eq (.v 4) (.lst false .nil)) (.r (.lit .none)) (.q (.expr (.bm .append (.v 2) (.c1 (.x (.v 4) 0)))) .skip))
noncomputable abbrev y8(order:List Nat)(nn nf:Nat)(a b:Option V):mc:=[some (.lst (mj order)),some (.obj nn),some (.obj nf),a,b,none,none]
theorem wG{C:Bool->Call}{nf nn:Nat}{order:List Nat}{need:Nat->List Nat}{R:List V}(Xn:nf≠nn)(hR:∀k∈order,R[k]?=some (.lst (mj (need k)))/\(need k).length<=100)(h3:order.length<=10):
  ∀(Se:List V) {pre:List V} {found:List Nat} {τ:St} {a b:Option V},listAt τ nn=some R->listAt τ nf=some (mj found)->found.length+Se.length<=10->
  WR (pR (.items (pre++Se)) (λv ρ σ=>Mine.Internal.R.opt (nA (.v 3) v ρ) λρ'=>dS pg C false Ph ρ' σ) (Se.length+1) pre.length (y8 order nn nf a b) τ)
   (λp υ=>(∀i,i≠nf->υ[i]?=τ[i]?)/\υ.length=τ.length/\match m8 need order Se.length found with
    |none=>p.1=.ret .none
    |some r=>p.1=.next/\(∃a b,p.2=y8 order nn nf a b)/\listAt υ nf=some (mj r)) λZ Z=>False
 |[],pre,found,τ,a,b,hn,hf,hl=>un (by show some ((pre++[])[pre.length]?)=_;rw[aI (aN _),bC];rfl) ⟨λZ Z=>rfl,rfl,rfl,⟨_,_,rfl⟩,hf⟩
 |v::Se,pre,found,τ,a,b,hn,hf,hl=>by
  have hl:found.length+(Se.length+1)<=10:=hl;refine q7 (v:=v) (by show some ((pre++v::Se)[pre.length]?)=_;rw[aI (aN _),bC];rfl) (q0 (ρ':=y8 order nn nf (some v) b) rfl (mw (nS ?_)));refine WR.val (CJ (found:=found) rfl rfl rfl rfl hn hR hf (JB hl) h3) ?_;generalize hfree:order.filter (tB need found)=free
  have hlen:free.length<=100:=by rw[<-hfree];exact ac (eB _ _) (ac h3 (by decide))
  refine WR.val (a:=y8 order nn nf (some v) (some (.lst (mj free)))) (σ:=τ) rfl (mh (mw (sH (WR.val (oo (mE rfl) rfl (yT hlen)) ?_))))
  cases free with
  |nil=>
   refine WR.iteT rfl (mw (qs (mV (nj (nj ⟨λZ Z=>rfl,rfl,?_⟩)))))
   have:m8 need order (Se.length+1) found=none:=by
    show ((order.filter (tB need found)).head?).bind _=none;rw[hfree];rfl
   show (match m8 need order (Se.length+1) found with | none=>_ | some r=>_);rw[this]
  |cons k free=>
   refine WR.iteF rfl (mn (mh (mw ?_)));have hx:oM pg τ (.lst (mj (k::free))) (.int (0:Nat))=some (.int k):=zT rfl;refine rP (n:=nf) (l:=mj found) (x:=.int k) rfl hf ?_ (nC (v:=.lst (mj (k::free))) (w:=.int (0:Nat)) (mE rfl) rfl hx) (mh (mn ?_))
   .show (found.map _).length < me;rw[ay];exact aB (by exact JB hl:found.length<=10) (by decide)
   have WH:listAt (τ.set nf (.list (mj found++[.int k]))) nf=some (mj (found++[k])):=by
    rw[rh hf];show some (found.map (λk:Nat=>V.int k)++[V.int k])=some ((found++[k]).map λk:Nat=>V.int k);rw[bf];rfl
   have US:listAt (τ.set nf (.list (mj found++[.int k]))) nn=some R:=by rw[pj Xn];exact hn
   have ih:=wG (C:=C) Xn hR h3 Se (pre:=pre++[v]) (a:=some v) (b:=some (.lst (mj (k::free)))) US WH (by rw[ah];show found.length+1+Se.length<=10;exact OA hl);rw[ba,ah] at ih
   have:m8 need order (Se.length+1) found=m8 need order Se.length (found++[k]):=by
    show ((order.filter (tB need found)).head?).bind _=_;rw[hfree];rfl
   refine mh (WR.mono (Q:=_) ih (λp υ h=>⟨λi hi=>?_,?_,?_⟩) λZ Z h=>h)
   .rw[h.1 i hi,aj (bJ hi)]
   .rw[h.2.1,aV]
   .show (match m8 need order (Se.length+1) found with | none=>_ | some r=>_);rw[this];exact h.2.2
end
section
open L1
theorem za{R:List V}(hn:listAt σ nn=some R)(hR:∀k∈order,R[k]?=some (.lst (mj (need k)))/\(need k).length<=100)(h3:order.length<=10):
  WR (mu pg (d+1) false 42 [.lst (mj order),.obj nn] σ) (λv υ=>(∀i,i < σ.length->υ[i]?=σ[i]?)/\υ.length=σ.length+1/\match m8 need order order.length [] with
   |none=>v=.none
   |some r=>v=.obj σ.length/\listAt υ σ.length=some (mj r)) λZ Z=>False:=by
 have hlen:nn < σ.length:=(aq.mp (listAt_eq hn)).1;refine WR.call rfl rfl (mw (nS (oG (mx ⟨rfl,?_⟩))));refine WR.val (a:=.obj σ.length) (σ:=σ++[.list []]) rfl ?_;refine WR.val (a:=y8 order nn σ.length none none) (σ:=σ++[.list []]) rfl (mh (mw (qr rfl (WR.val (a:=.items (mj order)) (σ:=σ++[.list []]) rfl ?_))));have hk:∀i,i < σ.length->(σ++[O.list []])[i]?=σ[i]?:=λi hi=>aJ hi
 have e1:listAt (σ++[O.list []]) nn=some R:=by unfold listAt;rw[hk nn hlen];exact hn
 have e2:listAt (σ++[O.list []]) σ.length=some (mj []):=by
  unfold listAt;rw[aI (aN _),bC];rfl
 have hol:(mj order).length=order.length:=ay _;have ih:=wG (C:=mu pg d) (nf:=σ.length) (Ce hlen) hR h3 (mj order) (pre:=[]) (a:=none) (b:=none) e1 e2 (by rw[hol];show 0+order.length<=10;exact OB h3);refine WR.mono ih (λp υ h=>?_) λZ Z h=>h;obtain ⟨fl,ρ⟩:=p;obtain ⟨h1,h2,h4⟩:=h;rw[hol] at h4
 have f1:∀i,i < σ.length->υ[i]?=σ[i]?:=λi hi=>by rw[h1 i (zX hi)];exact hk i hi
 have f2:υ.length=σ.length+1:=by rw[h2,ah];rfl
 cases ht:m8 need order order.length [] with
 |none=>
  rw[ht] at h4;have h4:fl=.ret .none:=h4;subst h4;exact nj ⟨f1,f2,rfl⟩
 |some r=>
  rw[ht] at h4;obtain ⟨p1,⟨a,b,p2⟩,p3⟩:=h4;have p1:fl=.next:=p1;have p2:ρ=_:=p2;subst p1;subst p2;refine mh (mw (qs (mD rfl (nj ⟨f1,f2,rfl,p3⟩))))
end
section
open L1
section
variable {P:Pg}{C:Bool->Call}{q:Bool}{Q:Fl×mc->St->Prop}{E:mc->St->Prop}
theorem qD{c:MX}{a b r:MS}(e:dT P q (C q) c ρ σ=.ok false σ)(h:WR (dS P C q b ρ σ) (λp σ=>WR (after (dS P C q r) p σ) Q E) E):WR (dS P C q (.seq (.iff c a b) r) ρ σ) Q E:=mw (sH (WR.val e (WR.iteF rfl h)))
theorem nH{c:MX}{a b r:MS}(e:dT P q (C q) c ρ σ=.ok true σ)(h:WR (dS P C q a ρ σ) (λp σ=>WR (after (dS P C q r) p σ) Q E) E):WR (dS P C q (.seq (.iff c a b) r) ρ σ) Q E:=mw (sH (WR.val e (WR.iteT rfl h)))
theorem mS{c:MX}{a r:MS}(e:dT P q (C q) c ρ σ=.ok false σ)(h:WR (dS P C q r ρ σ) Q E):WR (dS P C q (.seq (.iff c a .skip) r) ρ σ) Q E:=qD e (mn (mh h))
theorem nG{r:MS}{v:V}(h0:dE P q (C q) e ρ σ=.ok v σ)(h1:dA P q (C q) t v ρ σ=.ok ρ' σ')(h:WR (dS P C q r ρ' σ') Q E):WR (dS P C q (.seq (.asg t e) r) ρ σ) Q E:=mw (nS (WR.val h0 (WR.val h1 (mh h))))
theorem mX{r:MS}(h:WR (dE P q (C q) e ρ σ) (λv σ=>WR (dA P q (C q) t v ρ σ) (λρ σ=>WR (dS P C q r ρ σ) Q E) E) λZ σ=>E ρ σ):WR (dS P C q (.seq (.asg t e) r) ρ σ) Q E:=mw (nS (h.mono (λZ Z h=>h.mono (λZ Z h=>mh h) λZ Z h=>h) λZ Z h=>h))
theorem oZ{r:MS}(h:WR (dE P q (C q) e ρ σ) (λZ σ=>WR (dS P C q r ρ σ) Q E) λZ σ=>E ρ σ):WR (dS P C q (.seq (.expr e) r) ρ σ) Q E:=mw (zC (h.mono (λZ Z h=>mh h) λZ Z h=>h))
theorem n8{r:MS}(h:WR (dE P q (C q) e ρ σ) (λv σ=>Q (.ret v,ρ) σ) λZ σ=>E ρ σ):WR (dS P C q (.seq (.ret e) r) ρ σ) Q E:=mw (qs (h.mono (λZ Z h=>nj h) λZ Z h=>h))
end
section
variable {P:Pg}{q:Bool}{E:Unit->St->Prop}
theorem oB{a:MX}{l:List (Nat×V)}{v:V}(ha:dE P q C a ρ σ=.ok (.obj n) σ)(hn:σ[n]?=some (.inst c d))(hd:σ[d]?=some (.dict l))(hg:mC l k=some v):dE P q C (.attr a k) ρ σ=.ok v σ:=by
 show (dE P q C a ρ σ).bind (λv σ=>R.of (zD σ v k) σ)=_;rw[ha];show R.of ((qG σ n).bind λc=>(dictAt σ c.2).bind λl=>mC l k) σ=_;unfold qG;rw[hn];show R.of ((dictAt σ d).bind λl=>mC l k) σ=_;unfold dictAt;rw[hd];show R.of (mC l k) σ=_;rw[hg];rfl
theorem nM{a:MX}{f:Nat}{l:List (Nat×V)}{Q:V->St->Prop}(ha:dE P q C a ρ σ=.ok (.obj n) σ)(hn:σ[n]?=some (.inst c d))(hd:σ[d]?=some (.dict l))(hg:mC l k=none)(hm:P.meth c k=some f)(h:WR (dL P q C es ρ σ) (λl σ=>WR (C f (.obj n::l) σ) Q E) E):WR (dE P q C (.meth a k es) ρ σ) Q E:=by
 refine C3 (WR.val ha (Kr (f:=f) ?_ h));show (qG σ n).bind (λc=>(dictAt σ c.2).bind λl=>if (mC l k).isNone=true then P.meth c.1 k else none)=_;unfold qG;rw[hn];show (dictAt σ d).bind (λl=>if (mC l k).isNone=true then P.meth c k else none)=_;unfold dictAt;rw[hd];show (if (mC l k).isNone=true then P.meth c k else none)=_;rw[hg];exact hm
theorem tH{l:List (Nat×V)}(hn:σ[n]?=some (.dict l)):uJ σ (.sym k) (.obj n)=some (mC l k).isSome:=by
 show mH ((dictAt σ n).bind λl=>some (l.any λp=>p.1==k)) _=_;unfold dictAt;rw[hn];show some (l.any λp=>p.1==k)=_;rw[rV]
theorem vS{a b:MX}{l:List (Nat×V)}{t:Bool}(ha:dE P q C a ρ σ=.ok (.sym k) σ)(hb:dE P q C b ρ σ=.ok (.obj n) σ)(hn:σ[n]?=some (.dict l))(ht:(mC l k).isSome=t):dT P q C (.cmp .isin a b) ρ σ=.ok t σ:=oo ha hb (by rw[<-ht];exact tH hn)
theorem tX{P:Pg}{l:List (Nat×V)}{v:V}(hn:σ[n]?=some (.dict l))(hg:mC l k=some v):oM P σ (.obj n) (.sym k)=some v:=by
 show (dictAt σ n).bind (λl=>mC l k)=_;unfold dictAt;rw[hn];exact hg
theorem item_at{P:Pg}{v:V}(hn:σ[n]?=some (.list l))(hg:l[k]?=some v):oM P σ (.obj n) (.int k)=some v:=by
 show mH ((mH none (mH none (listAt σ n))).bind λl=>vT l k) _=_;unfold listAt;rw[hn];show mH (vT l k) _=_;unfold vT;rw[if_pos (bj k),show ((k:Int).toNat)=k from bU k,hg];rfl
end
section
variable {P:Pg}{q:Bool}
theorem rO{i:MX}{l:List (Nat×V)}{x:V}(he:dE P q C e ρ σ=.ok (.obj n) σ)(hi:dE P q C i ρ σ=.ok (.sym k) σ)(hn:σ[n]?=some (.dict l))(hl:l.length < me):dA P q C (.idx e i) x ρ σ=.ok ρ (σ.set n (.dict (ng l k x))):=by
 show ((dE P q C e ρ σ).lift ρ).bind (λc σ=>((dE P q C i ρ σ).lift ρ).bind λi σ=>R.opt (y1 σ c i x) λσ'=>.ok ρ σ')=_;rw[he];show ((dE P q C i ρ σ).lift ρ).bind _=_;rw[hi];show R.opt ((dictAt σ n).bind λl=>og (l.length < me) (σ.set n (.dict (ng l k x)))) _=_;unfold dictAt;rw[hn];show R.opt (og (l.length < me) _) _=_;unfold og;rw[if_pos hl];rfl
theorem Iw{l:List (Nat×V)}{x:V}(he:dE P q C e ρ σ=.ok (.obj n) σ)(hn:σ[n]?=some (.inst c d))(hd:σ[d]?=some (.dict l))(hl:l.length < me):dA P q C (.attr e k) x ρ σ=.ok ρ (σ.set d (.dict (ng l k x))):=by
 show ((dE P q C e ρ σ).lift ρ).bind (λv σ=>R.opt (E6 σ v k x) λσ'=>.ok ρ σ')=_;rw[he];show R.opt ((qG σ n).bind λc=>(dictAt σ c.2).bind λl=>og (l.length < me) (σ.set c.2 (.dict (ng l k x)))) _=_;unfold qG;rw[hn];show R.opt ((dictAt σ d).bind λl=>og (l.length < me) (σ.set d (.dict (ng l k x)))) _=_;unfold dictAt;rw[hd];show R.opt (og (l.length < me) _) _=_;unfold og;rw[if_pos hl];rfl
end
theorem oa{l:List (Nat×V)}{v:V}:mC (ng l k v) j=if k=j then some v else mC l j:=by
 induction l with
 |nil=>show mC [(k,v)] j=_;rw[oC]
 |cons p l ih=>
  obtain ⟨i,w⟩:=p;rw[tT]
  by_cases h:i=k
  .rw[if_pos h,oC,oC,h]
   by_cases hj:k=j
   .rw[if_pos hj,if_pos hj]
   .rw[if_neg hj,if_neg hj,if_neg hj]
  .rw[if_neg h,oC,oC,ih]
   by_cases hi:i=j
   .rw[if_pos hi,if_pos hi,if_neg λhk=>h (hi.trans hk.symm)]
   .rw[if_neg hi,if_neg hi]
def ow(a b:Nat)(l:List (Nat×V)):Prop:=(l.map (·.1)).Nodup/\∀p∈l,a<=p.1/\p.1 < b
theorem ow.set{a b:Nat}{v:V}{l:List (Nat×V)}(h:ow a b l)(hk:a<=k/\k < b):ow a b (ng l k v):=⟨u6 h.1,λp hp=>by
 rcases tU p hp with e | ⟨q,hq,e⟩
 .rw[e];exact hk
 .rw[<-e];exact h.2 q hq⟩
theorem ow.len{a b:Nat}{l:List (Nat×V)}(h:ow a b l):l.length<=b:=by
 have:=m7 (w:=az b) h.1 λx hx=>by
  refine l8 (aW.mp hx) λp hp e=>?_;rw[<-e];exact bt.mpr (h.2 p hp).2
 rw[ay,aR] at this;exact this
theorem ow.nil{a b:Nat}:ow a b []:=⟨cu,λZ h=>nomatch h⟩
end
section
open L1
structure Kx where
 N:Nat
 na:Nat
 nc:Nat
 sc:List V
 D0:List (Nat×V)
 PR:List (Nat×V)
 AG:List (Nat×V)
noncomputable abbrev mK:V:=.tup [.sym 103,.bool true,.int 0]
noncomputable abbrev kP:V:=.tup [.sym 103,.bool false,.int 0]
noncomputable abbrev kB:V:=.tup [.sym 42,.bool true,.int 0]
noncomputable abbrev kA:V:=.tup [.sym 103,.bool true,.int 1]
structure KH(X:Kx)(σ:St):Prop where
 k:σ[X.N]?=some (.dict [(129,.obj (X.N+3)),(149,.obj (X.N+7)),(34,.obj (X.N+8)),(37,.obj (X.N+9)),(107,.bool false),(45,.obj X.nc)])
 ki:σ[X.N+1]?=some (.inst 1 X.N)
 n:σ[X.N+2]?=some (.dict [(162,.obj (X.N+5)),(32,.obj X.na)])
 ni:σ[X.N+3]?=some (.inst 0 (X.N+2))
 s0:σ[X.N+4]?=some (.dict X.D0)
 sc:σ[X.N+5]?=some (.list X.sc)
 pr:σ[X.N+7]?=some (.dict X.PR)
 ag:σ[X.N+9]?=some (.dict X.AG)
 ha:∀i,i < 10->i≠6->X.na≠X.N+i
 hc:∀i,i < 10->i≠6->X.nc≠X.N+i
 ne:X.na≠X.nc
 lo:X.N<=X.na/\X.N<=X.nc
 m:X.sc=[.obj (X.N+4)]\/∃M,X.sc=[.obj (X.N+4),.obj M]/\σ[M]?=some (.dict [(121,mK)])/\M≠X.na/\M≠X.nc
structure Ft(X:Kx)(A C:List (Nat×V))(σ τ:St):Prop where
 len:σ.length<=τ.length
 fr:∀i,i < σ.length->i≠X.na->i≠X.nc->τ[i]?=σ[i]?
 a:τ[X.na]?=some (.dict A)
 c:τ[X.nc]?=some (.dict C)
 ka:ow 62 68 A
 kc:ow 140 143 C
section
variable {X:Kx}{A C A' C':List (Nat×V)}{Rv:St}
theorem Ft.at(G:Ft X A C Rv σ){i:Nat}{o:O}(e:Rv[i]?=some o)(ha:i≠X.na)(hc:i≠X.nc):σ[i]?=some o:=(G.fr i (aq.mp e).1 ha hc).trans e
theorem KH.ft(H:KH X Rv)(G:Ft X A C Rv σ):KH X σ:=by
 have a:∀{i:Nat} {o:O},i < 10->i≠6->Rv[X.N+i]?=some o->σ[X.N+i]?=some o:=λhi h6 e=>G.at e (λh=>H.ha _ hi h6 h.symm) λh=>H.hc _ hi h6 h.symm;refine⟨a (i:=0) (by decide) (by decide) H.k,a (by decide) (by decide) H.ki,a (by decide) (by decide) H.n,a (by decide) (by decide) H.ni,a (by decide) (by decide) H.s0,a (by decide) (by decide) H.sc,a (by decide) (by decide) H.pr,a (by decide) (by decide) H.ag,H.ha,H.hc,H.ne,H.lo,?_⟩
 rcases H.m with h | ⟨M,h,e,h1,h2⟩
 .exact .inl h
 .exact .inr ⟨M,h,G.at e h1 h2,h1,h2⟩
theorem Ft.self(G:Ft X A C Rv σ):Ft X A C σ σ:=⟨aN _,λZ Z Z Z=>rfl,G.a,G.c,G.ka,G.kc⟩
theorem Ft.trans(G:Ft X A C Rv σ)(F:Ft X A' C' σ τ):Ft X A' C' Rv τ:=⟨ac G.len F.len,λi hi h1 h2=>(F.fr i (ao hi G.len) h1 h2).trans (G.fr i hi h1 h2),F.a,F.c,F.ka,F.kc⟩
theorem Ft.la(G:Ft X A C Rv σ):X.na < σ.length:=(aq.mp G.a).1
theorem Ft.lc(G:Ft X A C Rv σ):X.nc < σ.length:=(aq.mp G.c).1
theorem Ft.push(G:Ft X A C Rv σ){o:O}:Ft X A C Rv (σ++[o]):=⟨by rw[ah];exact ac G.len (aA _ _),λi hi h1 h2=>(aJ (ao hi G.len)).trans (G.fr i hi h1 h2),(aJ G.la).trans G.a,(aJ G.lc).trans G.c,G.ka,G.kc⟩
theorem Ft.out(G:Ft X A C Rv σ){o:O}(hn:Rv.length<=n)(h1:n≠X.na)(h2:n≠X.nc):Ft X A C Rv (σ.set n o):=⟨by rw[aV];exact G.len,λi hi h1 h2=>(aj λe=>absurd hi (by rw[<-e];exact dD.mpr hn)).trans (G.fr i hi h1 h2),(aj h1).trans G.a,(aj h2).trans G.c,G.ka,G.kc⟩
theorem Ft.asked(G:Ft X A C Rv σ)(hn:X.na≠X.nc){v:V}(hk:62<=k/\k < 68):Ft X (ng A k v) C Rv (σ.set X.na (.dict (ng A k v))):=⟨by rw[aV];exact G.len,λi hi h1 h2=>(aj (bJ h1)).trans (G.fr i hi h1 h2),aF G.la,(aj hn).trans G.c,G.ka.set hk,G.kc⟩
theorem Ft.called(G:Ft X A C Rv σ)(hn:X.na≠X.nc){v:V}(hk:140<=k/\k < 143):Ft X A (ng C k v) Rv (σ.set X.nc (.dict (ng C k v))):=⟨by rw[aV];exact G.len,λi hi h1 h2=>(aj (bJ h2)).trans (G.fr i hi h1 h2),(aj (bJ hn)).trans G.a,aF G.lc,G.ka,G.kc.set hk⟩
end
noncomputable def ask(A:List (Nat×V))(l:List Nat):List (Nat×V):=l.foldl (λA j=>ng A (62+j) (.bool true)) A
noncomputable def rK(A:List (Nat×V))(l:List Nat):List (Nat×V):=l.foldl (λA j=>ng A (140+j) (.bool true)) A
theorem AZ{A:List (Nat×V)}{l r:List Nat}:ask A (l++r)=ask (ask A l) r:=fB
theorem wR{A:List (Nat×V)}{l r:List Nat}:rK A (l++r)=rK (rK A l) r:=fB
section
variable {P:Pg}{q:Bool}
theorem s4{v:V}(h:dE P q C e ρ σ=.ok v σ)(k:dL P q C es ρ σ=.ok l σ):dL P q C (.cons e es) ρ σ=.ok (v::l) σ:=by
 show (dE P q C e ρ σ).bind (λv σ=>(dL P q C es ρ σ).bind λl σ=>.ok (v::l) σ)=_;rw[h];show (dL P q C es ρ σ).bind _=_;rw[k];rfl
theorem qq{a:MX}(ha:dE P q C a ρ σ=.ok (.obj n) σ)(hn:σ[n]?=some (.list l)):dE P q C (.bi .len a) ρ σ=.ok (.int l.length) σ:=by
 show gd ((q&&false)=false) ((dE P q C a ρ σ).bind λv σ=>uI σ .len v)=_;unfold gd;rw[if_pos (kY q),ha];show R.of ((mH none (mH none (listAt σ n))).map λl=>V.int (l.length:Nat)) σ=_;unfold listAt;rw[hn];rfl
theorem zA{a:Int}(h:dL P q C es ρ σ=.ok [.int a,.int (-1),.int (-1)] σ)(h1:-1<=a)(h2:a<=10)(e:sF a=l):dI P q C (.rng es) ρ σ=.ok (.items l) σ:=by
 show (dL P q C es ρ σ).bind wv=_;rw[h];show gd ((-1:Int)=-1/\(-1:Int)=-1/\-1<=a/\a<=me) _=_;unfold gd;rw[if_pos ⟨rfl,rfl,h1,b6 h2 (by decide)⟩,e]
end
noncomputable def JI:MS:=.f (.cmp .isin (.v 1) (.idx (.attr (.v 0) 162) (.v 3))) (.f (.cmp .eq (.v 3) (.i 0)) (.a (.idx (.attr (.v 0) 32) (.v 1)) (.lit (.bool true)) .skip) (.r (.idx (.idx (.attr (.v 0) 162) (.v 3)) (.v 1)))) .skip
noncomputable abbrev OR(n key:Nat)(spot:V)(x:Option V):mc:=[some (.obj n),some (.sym key),some spot,x]
section
variable {X:Kx}{A C:List (Nat×V)}{Rv:St}{key:Nat}{kd spot:V}
theorem qh{CC:Call}(K:KH X σ)(h0:ρ[0]?.join=some (.obj (X.N+3))):dE pg false CC (.attr (.v 0) 162) ρ σ=.ok (.obj (X.N+5)) σ:=oB (mE h0) K.ni K.n rfl
theorem Bp{CC:Bool->Call}{it:It}{i:Nat}{x:Option V}{r:MS}(H:KH X Rv)(G:Ft X A C Rv σ)(hk:62<=key/\key < 68)(hg:mC X.D0 key=some kd)(he:it.at i σ=some (some (.int 0)))(hs:X.sc[0]?=some (.obj (X.N+4))):
  WR (pR it (λv ρ σ=>R.opt (nA (.v 3) v ρ) λρ'=>dS pg CC false JI ρ' σ) (k+1) i (OR (X.N+3) key spot x) σ) (λp τ=>WR (after (dS pg CC false r) p τ) (λp τ=>sq p.1=kd/\Ft X (ng A key (.bool true)) C Rv τ) λZ Z=>False) λZ Z=>False:=by
 have K:=H.ft G;have K1:=H.ft (G.asked H.ne (v:=.bool true) hk);refine q7 he (q0 (ρ':=OR (X.N+3) key spot (some (.int 0))) rfl ?_);refine nH (vS (mE rfl) (nC (qh K rfl) (mE (v:=.int (0:Nat)) rfl) (item_at K.sc hs)) K.s0 (t:=true) (by rw[hg];rfl)) ?_;refine nH rfl (nG (v:=.bool true) rfl (rO (oB (mE rfl) K.ni K.n rfl) (mE rfl) G.a (aB G.ka.len (by decide))) (mn (mh ?_)));exact n8 (WR.val (nC (nC (qh K1 rfl) (mE (v:=.int (0:Nat)) rfl) (item_at K1.sc hs)) (mE rfl) (tX K1.s0 hg)) (nj (nj ⟨rfl,G.asked H.ne hk⟩)))
theorem wh(H:KH X Rv)(G:Ft X A C Rv σ)(hk:62<=key/\key < 68)(hg:mC X.D0 key=some kd):
  WR (mu pg (d+1) false 8 [.obj (X.N+3),.sym key,spot] σ) (λv τ=>v=kd/\Ft X (ng A key (.bool true)) C Rv τ) λZ Z=>False:=by
 have K:=H.ft G
 rcases K.m with h | ⟨M,h,e,h1,h2⟩
 .refine WR.call rfl rfl (mw (qr rfl ?_));refine WR.val (zA (a:=0) (l:=[.int 0]) (s4 (oH (v:=.int (1:Nat)) (w:=.int 1) (by rw[qq (qh K rfl) K.sc,h];rfl) rfl rfl) rfl) (by decide) (by decide) rfl) ?_;exact Bp H G hk hg rfl (by rw[h];rfl)
 .refine WR.call rfl rfl (mw (qr rfl ?_));refine WR.val (zA (a:=1) (l:=[.int 1,.int 0]) (s4 (oH (v:=.int (2:Nat)) (w:=.int 1) (by rw[qq (qh K rfl) K.sc,h];rfl) rfl rfl) rfl) (by decide) (by decide) rfl) ?_;refine q7 (v:=.int 1) rfl (q0 (ρ':=OR (X.N+3) key spot (some (.int 1))) rfl ?_);refine mS (vS (mE rfl) (nC (qh K rfl) (mE (v:=.int (1:Nat)) rfl) (item_at K.sc (v:=.obj M) (by rw[h];rfl))) e (t:=false) ?_) (mn (mh ?_))
  .rw[oC,if_neg (Qc hk)];rfl
  .exact Bp H G hk hg rfl (by rw[h];rfl)
theorem GL{M:Nat}(K:KH X σ)(h:X.sc=[.obj (X.N+4),.obj M])(e:σ[M]?=some (.dict [(121,mK)])):WR (mu pg (d+1) false 8 [.obj (X.N+3),.sym 121,spot] σ) (λv τ=>v=mK/\τ=σ) λZ Z=>False:=by
 refine WR.call rfl rfl (mw (qr rfl ?_));refine WR.val (zA (a:=1) (l:=[.int 1,.int 0]) (s4 (oH (v:=.int (2:Nat)) (w:=.int 1) (by rw[qq (qh K rfl) K.sc,h];rfl) rfl rfl) rfl) (by decide) (by decide) rfl) ?_;refine q7 (v:=.int 1) rfl (q0 (ρ':=OR (X.N+3) 121 spot (some (.int 1))) rfl ?_);have hM:dE pg false (mu pg d false) (.idx (.attr (.v 0) 162) (.v 3)) (OR (X.N+3) 121 spot (some (.int 1))) σ=.ok (.obj M) σ:=nC (qh K rfl) (mE (v:=.int (1:Nat)) rfl) (item_at K.sc (v:=.obj M) (by rw[h];rfl));refine nH (vS (mE rfl) hM e (t:=true) rfl) (mS rfl ?_);exact n8 (WR.val (nC hM (mE rfl) (tX e rfl)) (nj (nj ⟨rfl,rfl⟩)))
end
end
section
open L1
structure NodeOk(X:Kx)(D:Nat)(node v:V)(as cs:List Nat):Prop where
 run:∀{Rv σ:St} {A C:List (Nat×V)} {d:Nat},KH X Rv->Ft X A C Rv σ->WR (mu pg (d+D) false 11 [.obj (X.N+1),node] σ) (λw τ=>w=v/\Ft X (ask A as) (rK C cs) Rv τ) λZ Z=>False
theorem NodeOk.le{X:Kx}{D D':Nat}{node v:V}{as cs:List Nat}(h:NodeOk X D node v as cs)(hD:D<=D'):NodeOk X D' node v as cs:=by
 refine⟨λ{_ _ _ _ d} H G=>?_⟩;rw[show d+D'=(d+(D' - D))+D by exact Qd hD];exact h.run H G
def isI(v:V):Prop:=v=mK\/v=kP\/v=kB
noncomputable abbrev kS:V:=.tup [.sym 163,.bool false,.int 0]
noncomputable abbrev kF:V:=.tup [.sym 42,.bool false,.int 0]
section
variable {P:Pg}{E:Unit->St->Prop}
theorem AT{x:V}{Q:V->St->Prop}(hs:dI P false C Rt ρ σ=.ok (.items [x]) σ)(hj:decide (j < ρ.length)=true)(h:WR (dE P false C RF (ρ.set j (some x)) σ) (λv τ=>Q (.lst [v]) τ) E):WR (dE P false C (.comp (.var j) Rt .nil RF) ρ σ) Q E:=by
 have hb:nA (.var j) x ρ=some (ρ.set j (some x)):=by
  show (og (j < ρ.length) (ρ.set j (some x))).bind _=_;unfold og;rw[if_pos (of_decide_eq_true hj)];rfl
 refine zw rfl (WR.val hs (CZ (v:=x) rfl hb (WR.val (a:=true) (σ:=σ) rfl (WR.iteT rfl (WR.bind (h.mono (λv τ h=>?_) λZ Z h=>h))))));refine WR.ok (C6 (l:=[]) rfl ?_);exact HE rfl h
end
section
variable {X:Kx}{D:Nat}{u v:V}{as cs:List Nat}
theorem td{s n:V}:NodeOk X 1 (.tup [.sym 103,s,n]) kP [] []:=⟨λ{_ σ _ _ d} H G=>WR.val (a:=kP) (σ:=σ) rfl ⟨rfl,G⟩⟩
theorem Bh{s kd:V}(hk:k < 6)(hg:mC X.D0 (62+k)=some kd):NodeOk X 2 (.tup [.sym 128,s,.sym (62+k)]) kd [k] []:=by
 refine⟨λ{Rv σ A C d} H G=>?_⟩;have K:=H.ft G;refine WR.call rfl rfl (nG (v:=.tup [.sym 128,s]) (ρ':=[some (.obj (X.N+1)),some (.tup [.sym 128,s,.sym (62+k)]),some (.sym 128),some s,none]) rfl rfl (mS rfl (nH rfl (n8 (nM (oB (mE rfl) K.ki K.k rfl) K.ni K.n rfl rfl (WR.val (a:=[.sym (62+k),s]) (σ:=σ) rfl ?_))))));exact (wh (d:=d) H G ⟨GK,OC hk⟩ hg).mono (λw τ h=>nj h) λZ Z h=>h
theorem D9{s M:V}(hM:X.sc=[.obj (X.N+4),M]):NodeOk X 2 (.tup [.sym 128,s,.sym 121]) mK [] []:=by
 refine⟨λ{Rv σ A C d} H G=>?_⟩;have K:=H.ft G;refine WR.call rfl rfl (nG (v:=.tup [.sym 128,s]) (ρ':=[some (.obj (X.N+1)),some (.tup [.sym 128,s,.sym 121]),some (.sym 128),some s,none]) rfl rfl (mS rfl (nH rfl (n8 (nM (oB (mE rfl) K.ki K.k rfl) K.ni K.n rfl rfl (WR.val (a:=[.sym 121,s]) (σ:=σ) rfl ?_))))))
 rcases K.m with h | ⟨M',h,e,h1,h2⟩
 .rw[hM] at h;cases h
 .exact (GL (d:=d) K h e).mono (λw τ h=>nj ⟨h.1,by rw[h.2];exact G⟩) λZ Z h=>h
theorem kind_len{s:V}(hu:NodeOk X 2 u kA as cs)(hp:mC X.PR 114=none):NodeOk X 3 (.tup [.sym 44,s,.sym 114,.tup [u]]) kP as cs:=by
 refine⟨λ{Rv σ A C d} H G=>?_⟩;have K:=H.ft G;refine WR.call rfl rfl (nG (v:=.tup [.sym 44,s]) (ρ':=[some (.obj (X.N+1)),some (.tup [.sym 44,s,.sym 114,.tup [u]]),some (.sym 44),some s,none]) rfl rfl (mS rfl (mS rfl (mS rfl (mS rfl (mS rfl (nH rfl (n8 (nM (mE rfl) K.ki K.k rfl rfl (mf (WR.val (a:=.sym 114) (σ:=σ) rfl (mf (AT (x:=u) rfl rfl ?_)))))))))))));refine nM (mE rfl) K.ki K.k rfl rfl (WR.val (a:=[u]) (σ:=σ) rfl ((hu.run (d:=d) H G).mono (λw τ h=>?_) λZ Z h=>h));obtain ⟨h1,G1⟩:=h;subst h1;have K1:=H.ft G1;refine WR.val (a:=[s]) (σ:=τ) rfl ?_;refine WR.call rfl rfl (nG (v:=.bool true) (ρ':=[some (.obj (X.N+1)),some (.sym 114),some (.lst [kA]),some s,some (.bool true),none,none,none]) rfl rfl (mS (vS (mE rfl) (oB (mE rfl) K1.ki K1.k rfl) K1.pr (by rw[hp];rfl)) (mS rfl (nH rfl (n8 (nM (mE rfl) K1.ki K1.k rfl rfl (WR.val (a:=[.sym 114,.lst [kA],s]) (σ:=τ) rfl (WR.val (a:=kP) (σ:=τ) rfl (nj ⟨rfl,G1⟩)))))))))
end
end
section
open L1
section
variable {X:Kx}{D:Nat}{u v:V}{as cs:List Nat}
theorem AO{s x y v:V}(h:isI v):mu pg (d+3) false 24 [x,y,.lst [v],.tup [mK],s] σ=.ok .none σ:=by
 rcases h with h | h | h<;>subst h<;>rfl
noncomputable def V.isVar:V->Bool
 |.tup [_,.bool b,_]=>b
 |_=>false
theorem Jt{v:V}(h:isI v)(h2:ρ[2]?.join=some (.lst [v]))(hl:decide (7 < ρ.length)=true):∃b,dE pg false C (.cmp .gt (.bi .len (.comp (.v 7) (.v 2) (.x (.v 7) 1) (.v 7))) (.i 0)) ρ σ=.ok (.bool b) σ:=by
 have body:∃r,m3 pg false C (.v 7) (.x (.v 7) 1) (.v 7) ρ v σ=.ok r σ:=by
  have hb:nA (.v 7) v ρ=some (ρ.set 7 (some v)):=by
   show (og (7 < ρ.length) (ρ.set 7 (some v))).bind _=_;unfold og;rw[if_pos (of_decide_eq_true hl)];rfl
  have g7:dE pg false C (.v 7) (ρ.set 7 (some v)) σ=.ok v σ:=mE (by rw[aF (of_decide_eq_true hl)];rfl);refine⟨if v.isVar=true then some v else none,?_⟩;show R.opt (nA (.v 7) v ρ) _=_;rw[hb]
  rcases h with h | h | h<;>subst h
  all_goals
   show ((dE pg false C (.idx (.v 7) (.lit (.int 1))) _ σ).bind _).bind _=_;rw[nC g7 rfl rfl]
  .show (dE pg false C (.v 7) _ σ).bind _=_;rw[g7];rfl
  .rfl
  .show (dE pg false C (.v 7) _ σ).bind _=_;rw[g7];rfl
 have e:∃l,dE pg false C (.comp (.v 7) (.v 2) (.x (.v 7) 1) (.v 7)) ρ σ=.ok (.lst l) σ:=by
  refine mF body λr hr=>⟨[v].filterMap λZ=>r,sA ?_ (show 1<=me by decide) λw hw=>?_⟩
  .show (dE pg false C (.v 2) ρ σ).bind _=_;rw[mE h2];rfl
  .rw[au.mp hw];exact hr
 refine mF e λl e=>?_;refine⟨decide ((l.length:Int) > 0),?_⟩;refine zx (v:=.int l.length) (w:=.int 0) ?_ rfl rfl;show (dE pg false C (.comp (.v 7) (.v 2) (.x (.v 7) 1) (.v 7)) ρ σ).bind (λv σ=>uI σ .len v)=_;rw[e];rfl
theorem vg{s:V}(hu:NodeOk X 3 u v as cs)(hv:isI v)(hn:n < 3)(hp:mC X.PR (140+n)=some (.tup [mK])):NodeOk X 5 (.tup [.sym 44,s,.sym (140+n),.tup [u]]) kB as (cs++[n]):=by
 refine⟨λ{Rv σ A C d} H G=>?_⟩;have K:=H.ft G;refine WR.call rfl rfl (nG (v:=.tup [.sym 44,s]) (ρ':=[some (.obj (X.N+1)),some (.tup [.sym 44,s,.sym (140+n),.tup [u]]),some (.sym 44),some s,none]) rfl rfl (mS rfl (mS rfl (mS rfl (mS rfl (mS rfl (nH rfl (n8 (nM (mE rfl) K.ki K.k rfl rfl (mf (WR.val (a:=.sym (140+n)) (σ:=σ) rfl (mf (AT (x:=u) rfl rfl ?_)))))))))))));refine nM (mE rfl) K.ki K.k rfl rfl (WR.val (a:=[u]) (σ:=σ) rfl (((hu.le (by decide:3<=4)).run (d:=d) H G).mono (λw τ h=>?_) λZ Z h=>h));refine nt h λh1 G1=>?_;subst h1;have K1:=H.ft G1;have hk:140<=140+n/\140+n < 143:=⟨OD,Qe hn⟩;have G2:=G1.called H.ne (v:=.bool true) hk;have K2:=H.ft G2;refine WR.val (a:=[s]) (σ:=τ) rfl ?_;refine mF (Jt (C:=mu pg (d+3) false) (σ:=τ) (ρ:=[some (.obj (X.N+1)),some (.sym (140+n)),some (.lst [w]),some s,none,none,none,none]) hv rfl rfl) λb hb=>?_;refine WR.call rfl rfl (nG (v:=.bool b) (ρ':=[some (.obj (X.N+1)),some (.sym (140+n)),some (.lst [w]),some s,some (.bool b),none,none,none]) hb rfl (nH (vS (mE rfl) (oB (mE rfl) K1.ki K1.k rfl) K1.pr (t:=true) (by rw[hp];rfl)) ?_));refine nG (v:=.bool true) rfl (rO (oB (mE rfl) K1.ki K1.k rfl) (mE rfl) G1.c (aB G1.kc.len (by decide))) ?_;refine oZ (nM (mE rfl) K2.ki K2.k rfl rfl (WR.val (s4 (mE (v:=.sym (140+n)) rfl) (s4 (mE (v:=.lst [w]) rfl) (s4 (nC (oB (mE rfl) K2.ki K2.k rfl) (mE rfl) (tX K2.pr hp)) (s4 (mE (v:=s) rfl) rfl)))) (WR.val (AO (d:=d) hv) ?_)));exact n8 (WR.val (a:=kB) rfl (nj (nj ⟨rfl,by rw[wR];exact G2⟩)))
theorem zS{s s2 n:V}(hu:NodeOk X 3 u kP as cs):NodeOk X 5 (.tup [.sym 156,s,.tup [.sym 103,s2,n],u]) kS as cs:=by
 refine⟨λ{Rv σ A C d} H G=>?_⟩;have K:=H.ft G;refine WR.call rfl rfl (nG (v:=.tup [.sym 156,s]) (ρ':=[some (.obj (X.N+1)),some (.tup [.sym 156,s,.tup [.sym 103,s2,n],u]),some (.sym 156),some s,none]) rfl rfl (mS rfl (mS rfl (mS rfl (mS rfl (mS rfl (mS rfl (nH rfl (n8 (nM (mE rfl) K.ki K.k rfl rfl (WR.val (a:=[.sym 156,.tup [.sym 156,s,.tup [.sym 103,s2,n],u]]) (σ:=σ) rfl ?_)))))))))));refine WR.call rfl rfl (nH rfl (oZ (m5 (mf (nM (mE rfl) K.ki K.k rfl rfl (WR.val (a:=[.tup [.sym 103,s2,n]]) (σ:=σ) rfl (WR.val (a:=kP) (σ:=σ) rfl (WR.val (a:=[kP,s,.sym 8]) (σ:=σ) rfl (WR.val (a:=.none) (σ:=σ) rfl ?_)))))))));refine oZ (m5 (mf (nM (mE rfl) K.ki K.k rfl rfl (WR.val (a:=[u]) (σ:=σ) rfl ((hu.run (d:=d) H G).mono (λw τ h=>?_) λZ Z h=>h)))));refine nt h λh1 G1=>?_;subst h1;exact WR.val (a:=[kP,s,.sym 8]) (σ:=τ) rfl (WR.val (a:=.none) (σ:=τ) rfl (n8 (WR.val (a:=kS) (σ:=τ) rfl (nj (nj ⟨rfl,G1⟩)))))
theorem we{Rv:St}{A C:List (Nat×V)}{s l w:V}{D:Nat}(H:KH X Rv)(G:Ft X A C Rv σ)(hu:NodeOk X (D+2) (.tup [.sym 156,s,l,u]) kS as cs):
  WR (mu pg (d+(D+3)) false 12 [.obj (X.N+1),.tup [.sym 156,s,l,u],w] σ) (λZ τ=>Ft X (ask A as) (rK C cs) Rv τ) λZ Z=>False:=by
 have K:=H.ft G;refine WR.call rfl rfl (oZ (m5 (mf (nM (mE rfl) K.ki K.k rfl rfl (WR.val (a:=[.tup [.sym 156,s,l,u]]) (σ:=σ) rfl ((hu.run (d:=d) H G).mono (λv τ h=>?_) λZ Z h=>h))))));refine nt h λh1 G1=>?_;subst h1;exact WR.val (a:=[kS,s,w]) (σ:=τ) rfl (WR.val (a:=.none) (σ:=τ) rfl (mn G1))
end
end
section
open L1
structure Bn where
 s:V
 g:Nat
 r:V
noncomputable def By(b:V):List Bn->V
 |[]=>b
 |x::l=>.tup [.sym 41,x.s,.sym x.g,By b l,x.r]
def Jn(X:Kx)(g:Nat)(v w s u:V):Prop:=∀{σ:St} {d:Nat},KH X σ->mu pg (d+3) false 14 [.obj (X.N+1),.sym g,v,w,s] σ=.ok u σ
noncomputable def F3(X:Kx)(D:Nat)(b:V):List Bn->V->List Nat->List Nat->Prop
 |[],v,as,cs=>NodeOk X (D+3) b v as cs
 |x::l,v,as,cs=>∃v1 as1 cs1 v2 as2 cs2,F3 X D b l v1 as1 cs1/\NodeOk X (D+3) x.r v2 as2 cs2/\Jn X x.g v1 v2 x.s v/\as=as1++as2/\cs=cs1++cs2
noncomputable def PD:MX:=.cmp .eq (.x (.v 1) 0) (.s 41)
noncomputable def PC:MS:=.q (.expr (.bm .append (.v 2) (.c1 (.v 1)))) (.a (.v 1) (.x (.v 1) 3) .skip)
noncomputable def KM:MX:=.cmp .gt (.bi .len (.v 2)) (.i 0)
noncomputable def KL:MS:=.a (.v 1) (.bm .pop0 (.v 2) .nil) (.a (.v 3) (.u 110 (.c4 (.x (.v 1) 2) (.v 3) (.u 111 (.c1 (.x (.v 1) 4))) (.x (.v 1) 1))) .skip)
noncomputable def Rb:MS:=.a (.v 3) (.u 111 (.c1 (.v 1))) (.q (.whl KM KL) (.r (.v 3)))
theorem la(h:σ[n]?=some (.list l)):listAt σ n=some l:=by unfold listAt;rw[h];rfl
section
variable {X:Kx}{D:Nat}{b:V}{Q:Fl×mc->St->Prop}
theorem yj(hb:∃h t,b=.tup (.sym h::t)/\h≠41):∀(l:List Bn) {v:V} {as cs:List Nat},F3 X D b l v as cs->∀{w:List V} {W F:Nat} {Rv σ:St} {A C:List (Nat×V)},KH X Rv->Ft X A C Rv σ->σ[W]?=some (.list w)->Rv.length<=W->W≠X.na->W≠X.nc->w.length+l.length<=100->l.length < F->
  (∀{τ:St} {x:V},Ft X (ask A as) (rK C cs) Rv τ->τ[W]?=some (.list w)->WR (qg (dT pg false (mu pg (d+(D+3)) false) KM) (dS pg (mu pg (d+(D+3))) false KL) (mU - l.length) [some (.obj (X.N+1)),some x,some (.obj W),some v] τ) (λp σ=>WR (after (dS pg (mu pg (d+(D+3))) false (.r (.v 3))) p σ) Q λZ Z=>False) λZ Z=>False)->
  WR (qg (dT pg false (mu pg (d+(D+3)) false) PD) (dS pg (mu pg (d+(D+3))) false PC) F [some (.obj (X.N+1)),some (By b l),some (.obj W),none] σ) (λp σ=>WR (after (dS pg (mu pg (d+(D+3))) false Rb) p σ) Q λZ Z=>False) λZ Z=>False
 |[],v,as,cs,hs,w,W,F,Rv,σ,A,C,H,G,hW,h0,h1,h2,hl,hF,cont=>by
  refine mJ hb λh t e hh=>?_;subst e;have K:=H.ft G;obtain ⟨F,rfl⟩:∃F',F=F'+1:=⟨F - 1,by have:0 < F:=hF;exact Qq this⟩;refine s5 (oo (v:=.sym h) (w:=.sym 41) rfl rfl (show some (h==41)=some false by rw[beq_false_of_ne hh])) ?_;refine mh (mX (nM (mE rfl) K.ki K.k rfl rfl (WR.val (a:=[.tup (.sym h::t)]) (σ:=σ) rfl ((hs.run (d:=d) K G.self).mono (λu τ hu=>?_) λZ Z h=>h.elim))));refine nt hu λe F1=>?_;subst e;refine WR.val (a:=[some (.obj (X.N+1)),some (.tup (.sym h::t)),some (.obj W),some u]) (σ:=τ) rfl (mw (v7 ?_));exact cont (G.trans F1) ((F1.fr W (aq.mp hW).1 h1 h2).trans hW)
 |x::l,v,as,cs,hs,w,W,F,Rv,σ,A,C,H,G,hW,h0,h1,h2,hl,hF,cont=>by
  obtain ⟨v1,as1,cs1,v2,as2,cs2,UQ,hr,hj,ea,ec⟩:=hs;have hl:w.length+(l.length+1)<=100:=hl;have hF:l.length+1 < F:=hF;obtain ⟨F,rfl⟩:∃F',F=F'+1:=⟨F - 1,Qp hF⟩
  have Vj:100 < me:=by decide
  have Yh:W < σ.length:=(aq.mp hW).1;refine v8 (oo (v:=.sym 41) (w:=.sym 41) rfl rfl rfl) (mw (rP (n:=W) (l:=w) (x:=By b (x::l)) rfl (la hW) (aB (ac (aA _ _) hl) Vj) (mE rfl) (mh ?_)));refine nG (v:=By b l) (ρ':=[some (.obj (X.N+1)),some (By b l),some (.obj W),none]) rfl rfl (mn (mh ?_));have G1:=G.out (n:=W) (o:=.list (w++[By b (x::l)])) h0 h1 h2;refine yj hb l UQ H G1 (aF Yh) h0 h1 h2 (by rw[ah];show w.length+1+l.length<=100;exact Qo hl) (Qm hF) λ{τ y} GT hT=>?_;have K:=H.ft GT;obtain ⟨m,hm⟩:∃m,mU - l.length=m+1:=⟨mU - l.length - 1,by have:mU=10000:=rfl;exact Ql hl this⟩
  have XW:mU - (x::l).length=m:=by show mU - (l.length+1)=m;exact Qk hm
  rw[hm];rw[XW] at cont;have WM:W < τ.length:=(aq.mp hT).1;refine v8 (oo (v:=.int (w++[By b (x::l)]).length) (w:=.int 0) (qq (mE rfl) hT) rfl (congrArg some (decide_eq_true (by rw[ah];show ((w.length+1:Nat):Int) > 0;exact OE)))) (mX (zy (n:=W) (l:=w) (x:=By b (x::l)) rfl (la hT) ?_));have G2:=GT.out (n:=W) (o:=.list w) h0 h1 h2;have K2:=H.ft G2;have Xj:(τ.set W (.list w))[W]?=some (.list w):=aF WM;refine WR.val (a:=[some (.obj (X.N+1)),some (By b (x::l)),some (.obj W),some v1]) (σ:=τ.set W (.list w)) rfl (mX (nM (mE rfl) K2.ki K2.k rfl rfl (mf (WR.val (a:=.sym x.g) (σ:=τ.set W (.list w)) rfl (mf (mD rfl (mf ?_)))))));refine nM (mE rfl) K2.ki K2.k rfl rfl (WR.val (a:=[x.r]) (σ:=τ.set W (.list w)) rfl ((hr.run (d:=d) K2 G2.self).mono (λu υ hu=>?_) λZ Z h=>h.elim));refine nt hu λe F1=>?_;subst e;refine WR.val (a:=[x.s]) (σ:=υ) rfl (WR.val (hj (d:=d+D) (K2.ft F1)) ?_);refine WR.val (a:=[some (.obj (X.N+1)),some (By b (x::l)),some (.obj W),some v]) (σ:=υ) rfl (mn (mh (cont ?_ ?_)))
  .rw[ea,ec,AZ,wR];exact G2.trans F1
  .exact (F1.fr W (aq.mp Xj).1 h1 h2).trans Xj
theorem tc{x:Bn}{l:List Bn}{v:V}{as cs:List Nat}(hb:∃h t,b=.tup (.sym h::t)/\h≠41)(hs:F3 X D b (x::l) v as cs)(hl:l.length < 50):NodeOk X (D+5) (By b (x::l)) v as cs:=by
 refine⟨λ{Rv σ A C d} H G=>?_⟩;have K:=H.ft G;refine WR.call rfl rfl (nG (v:=.tup [.sym 41,x.s]) (ρ':=[some (.obj (X.N+1)),some (By b (x::l)),some (.sym 41),some x.s,none]) rfl rfl (mS rfl (mS rfl (nH rfl (n8 (nM (mE rfl) K.ki K.k rfl rfl (WR.val (a:=[By b (x::l)]) (σ:=σ) rfl ?_)))))));have hlt:X.na < σ.length/\X.nc < σ.length:=⟨G.la,G.lc⟩;refine WR.call rfl rfl (mX (oG (mx ⟨rfl,WR.val (a:=.obj σ.length) (σ:=σ++[.list []]) rfl (WR.val (a:=[some (.obj (X.N+1)),some (By b (x::l)),some (.obj σ.length),none]) (σ:=σ++[.list []]) rfl (mw (v7 ?_)))⟩)))
 have e0:(σ++[O.list []])[σ.length]?=some (.list []):=by rw[aI (aN _),bC];rfl
 refine (yj (d:=d) (D:=D) (Q:=λp τ=>sq p.1=v/\Ft X (ask A as) (rK C cs) σ τ) hb (x::l) hs (w:=[]) (W:=σ.length) (F:=mU) K G.self.push e0 (aN _) (Qj hlt) (Qi hlt) (by show 0+(l.length+1)<=100;exact Qh hl) (by show l.length+1 < 10000;exact Qg hl) λ{τ y} GT hT=>?_).mono (λp τ h=>h.mono (λp τ h=>nj ⟨h.1,G.trans h.2⟩) λZ Z h=>h) λZ Z h=>h;obtain ⟨m,hm⟩:∃m,mU - (x::l).length=m+1:=⟨mU - (l.length+1) - 1,by have:mU=10000:=rfl;show mU - (l.length+1)=_;exact Qf hl this⟩;rw[hm];refine s5 (oo (v:=.int (0:Nat)) (w:=.int 0) (qq (mE rfl) hT) rfl rfl) (mh (n8 (mD rfl ⟨rfl,GT⟩)))
end
end
section
open L1
theorem WR.eqn{ε:Type}{r:R ε α}{a:α}(h:WR r (λb τ=>b=a/\τ=σ) λZ Z=>False):r=.ok a σ:=by
 cases r with
 |ok b τ=>rw[h.1,h.2]
 |_=>exact h.elim
section
variable {X:Kx}{u w v s:V}
theorem Bg(hv:isI v)(hw:isI w):∃u,(u=mK\/u=kP)/\(v=kP->w=kP->u=kP)/\Jn X 3 v w s u:=by
 rcases hv with h | h | h<;>rcases hw with k | k | k<;>subst h<;>subst k
 .exact⟨mK,.inl rfl,λh=>(nomatch h),λZ=>rfl⟩
 .exact⟨mK,.inl rfl,λh=>(nomatch h),λZ=>rfl⟩
 .exact⟨mK,.inl rfl,λh=>(nomatch h),λZ=>rfl⟩
 .exact⟨mK,.inl rfl,λZ h=>(nomatch h),λZ=>rfl⟩
 .exact⟨kP,.inr rfl,λZ Z=>rfl,λZ=>rfl⟩
 .exact⟨mK,.inl rfl,λZ h=>(nomatch h),λZ=>rfl⟩
 .exact⟨mK,.inl rfl,λh=>(nomatch h),λZ=>rfl⟩
 .exact⟨mK,.inl rfl,λh=>(nomatch h),λZ=>rfl⟩
 .exact⟨mK,.inl rfl,λh=>(nomatch h),λZ=>rfl⟩
theorem Bf(hv:isI v):∃u,(u=kB\/u=kF)/\Jn X 10 v kP s u:=by
 have go:∀{b u:V},(∀{C:Call} {ρ:mc} {σ:St},ρ[2]?.join=some v->ρ[3]?.join=some kP->dE pg false C (.or (.c2 (.x (.v 2) 1) (.x (.v 3) 1))) ρ σ=.ok b σ)->(∀{d:Nat} {x:V} {σ:St},mu pg (d+2) false 16 [x,.sym 10,v,kP,s] σ=.ok u σ)->Jn X 10 v kP s u:=λ{b u} h1 h2 {σ d} K=>by
  refine WR.eqn (WR.call rfl rfl (nG (v:=b) (ρ':=[some (.obj (X.N+1)),some (.sym 10),some v,some kP,some s,some b]) (h1 rfl rfl) rfl ?_));exact mS rfl (mS rfl (mS rfl (mS rfl (mS rfl (mS rfl (n8 (nM (mE rfl) K.ki K.k rfl rfl (WR.val (a:=[.sym 10,v,kP,s]) (σ:=σ) rfl (WR.val (h2 (d:=d)) ⟨rfl,rfl⟩)))))))))
 rcases hv with h | h | h<;>subst h
 .exact⟨kB,.inl rfl,go (b:=.bool true) (λh2 h3=>xZ (x:=true) (y:=false) (nC (mE h2) rfl rfl) (nC (mE h3) rfl rfl)) rfl⟩
 .exact⟨kF,.inr rfl,go (b:=.bool false) (λh2 h3=>xZ (x:=false) (y:=false) (nC (mE h2) rfl rfl) (nC (mE h3) rfl rfl)) rfl⟩
 .exact⟨kB,.inl rfl,go (b:=.bool true) (λh2 h3=>xZ (x:=true) (y:=false) (nC (mE h2) rfl rfl) (nC (mE h3) rfl rfl)) rfl⟩
theorem Jl(hv:v=kB\/v=kF):Jn X 9 v kB s kB:=by
 rcases hv with h | h<;>subst h
 .exact λZ=>rfl
 .exact λZ=>rfl
end
def Us.Kd(X:Kx):Us->V->Prop
 |.two,v=>v=kP
 |.nm k,v=>k < 6/\mC X.D0 (62+k)=some v/\isI v
 |.ln k,v=>k < 6/\mC X.D0 (62+k)=some kA/\v=kP
section
variable {X:Kx}{v v':V}{u w:Us}
theorem Us.Kd.isI(h:u.Kd X v):isI v:=by
 cases u with
 |two=>exact .inr (.inl h)
 |nm k=>exact h.2.2
 |ln k=>exact .inr (.inl h.2.2)
theorem sX(hp:mC X.PR 114=none)(h:u.Kd X v):NodeOk X 3 u.toV v u.asks []:=by
 cases u with
 |two=>have h:v=kP:=h;subst h;exact td.le (by decide)
 |nm k=>exact (Bh h.1 h.2.1).le (by decide)
 |ln k=>rw[h.2.2];exact kind_len (Bh h.1 h.2.1) hp
theorem Us.hd41(u:Us):∃h t,u.toV=.tup (.sym h::t)/\h≠41:=by
 cases u with
 |two=>exact⟨_,_,rfl,by decide⟩
 |nm k=>exact⟨_,_,rfl,by decide⟩
 |ln k=>exact⟨_,_,rfl,by decide⟩
theorem At(hp:mC X.PR 114=none)(h:u.Kd X v)(k:w.Kd X v'):∃a,(a=mK\/a=kP)/\(v=kP->v'=kP->a=kP)/\NodeOk X 5 (Dc.sumV u w) a (u.asks++w.asks) []:=by
 refine mM (Bg (X:=X) (s:=.int 4) h.isI k.isI) λa h1 h2 h3=>⟨a,h1,h2,?_⟩;exact tc (D:=0) (x:=⟨.int 4,3,w.toV⟩) (l:=[]) u.hd41 ⟨v,u.asks,[],v',w.asks,[],sX hp h,sX hp k,h3,rfl,rfl⟩ (by decide)
theorem GG{n:V}(hp:mC X.PR 114=none)(h:u.Kd X v):∃a,(a=kB\/a=kF)/\NodeOk X 5 (.tup [.sym 41,.int 13,.sym 10,u.toV,.tup [.sym 103,.int 13,n]]) a u.asks []:=by
 refine l8 (Bf (X:=X) (s:=.int 13) h.isI) λa h1 h3=>⟨a,h1,?_⟩;exact tc (D:=0) (x:=⟨.int 13,10,.tup [.sym 103,.int 13,n]⟩) (l:=[]) u.hd41 ⟨v,u.asks,[],kP,[],[],sX hp h,td.le (by decide),h3,(aT _).symm,rfl⟩ (by decide)
theorem F9{M:V}(hp:mC X.PR 114=none)(hM:X.sc=[.obj (X.N+4),M])(h:u.Kd X v){c:Option Nat}(hc:∀n,c=some n->n < 3/\mC X.PR (140+n)=some (.tup [mK])):∃a,(a=kB\/a=kF)/\NodeOk X 7 (Pd.allV ⟨u,c⟩) a u.asks c.toList:=by
 refine mM (Bg (X:=X) (s:=.int 11) (v:=mK) (.inl rfl) h.isI) λa h1 Z h3=>?_;have ha:isI a:=h1.elim .inl λh=>.inr (.inl h);refine l8 (Bf (X:=X) (s:=.int 11) ha) λb h4 h5=>?_;have hm:∃h t,V.tup [.sym 128,.int 11,.sym 121]=.tup (.sym h::t)/\h≠41:=⟨_,_,rfl,by decide⟩;have s0:F3 X 2 (.tup [.sym 128,.int 11,.sym 121]) [⟨.int 11,10,.tup [.sym 103,.int 11,.int 9]⟩,⟨.int 11,3,u.toV⟩] b u.asks []:=⟨a,u.asks,[],kP,[],[],⟨mK,[],[],v,u.asks,[],(D9 hM).le (by decide),(sX hp h).le (by decide),h3,rfl,rfl⟩,td.le (by decide),h5,(aT _).symm,rfl⟩
 cases c with
 |none=>exact⟨b,h4,tc (D:=2) (x:=⟨.int 11,10,.tup [.sym 103,.int 11,.int 9]⟩) (l:=[⟨.int 11,3,u.toV⟩]) hm s0 (show 1 < 50 by decide)⟩
 |some n=>
  have hn:=hc n rfl;have SO:NodeOk X 5 (.tup [.sym 44,.int 12,.sym (140+n),.tup [.tup [.sym 128,.int 12,.sym 121]]]) kB [] ([]++[n]):=vg (u:=.tup [.sym 128,.int 12,.sym 121]) (v:=mK) ((D9 hM).le (by decide)) (.inl rfl) hn.1 hn.2;refine⟨kB,.inl rfl,?_⟩;exact tc (D:=2) (x:=⟨.int 12,9,.tup [.sym 44,.int 12,.sym (140+n),.tup [.tup [.sym 128,.int 12,.sym 121]]]⟩) (l:=[⟨.int 11,10,.tup [.sym 103,.int 11,.int 9]⟩,⟨.int 11,3,u.toV⟩]) hm ⟨b,u.asks,[],kB,[],[n],s0,SO,Jl h4,(aT _).symm,rfl⟩ (show 2 < 50 by decide)
end
end
section
open L1
noncomputable abbrev sJ(s:Nat):V:=.tup [.sym 103,.bool (s==186),.int 0]
namespace Dc
noncomputable def kind(s:Nat):Dc->V
 |.sized _=>if (s==26)=true then kA else sJ s
 |.call _ _=>kB
 |_=>sJ s
noncomputable def asksV:Dc->List Nat
 |.late _ _=>[]
 |D=>D.asks
noncomputable def asksT:Dc->List Nat
 |.sized u=>u.asks
 |_=>[]
def Kd(X:Kx)(s:Nat):Dc->Prop
 |.sized u=>u.Kd X kP
 |.call n u=>n < 3/\mC X.PR (140+n)=some (.tup [mK])/\∃v,u.Kd X v
 |.val u w=>s≠26/\∃v v',u.Kd X v/\w.Kd X v'/\(s=143->v=kP/\v'=kP)
 |.late u w=>s≠26/\∃v v',u.Kd X v/\w.Kd X v'/\(s=143->v=kP/\v'=kP)
end Dc
def x6(s:Nat):Prop:=s=186\/s=143\/s=26
section
variable {X:Kx}{A C:List (Nat×V)}{Rv:St}{s:Nat}{D:Dc}
theorem E0{x:V}(hs:x6 s):mu pg (d+1) false 30 [x,D.whatV s] σ=.ok (D.kind s) σ:=by
 rcases hs with h | h | h<;>subst h<;>cases D<;>rfl
theorem zc{u:Us}{b:Bool}{t:V}(H:KH X Rv)(G:Ft X A C Rv σ)(hu:NodeOk X 5 (Dc.spanV u) kS u.asks []):WR (mu pg (d+7) false 27 [.obj (X.N+1),.tup [.sym 103,.bool b,.tup [],Dc.spanV u],t] σ) (λv τ=>v=.tup [.sym 103,.bool b,.int 0]/\Ft X (ask A u.asks) (rK C []) Rv τ) λZ Z=>False:=by
 have K:=H.ft G
 have eb:dT pg false (mu pg (d+6) false) (.and (.c2 (.v 4) (.cmp .isin (.v 3) (.tup (.c2 (.s 170) (.s 163)))))) [some (.obj (X.N+1)),some (.tup [.sym 103,.bool b,.tup [],Dc.spanV u]),some t,some (.sym 103),some (.bool b),some (.tup []),some (Dc.spanV u),none] σ=.ok false σ:=by cases b<;>rfl
 refine WR.call rfl rfl (nG (v:=.tup [.sym 103,.bool b,.tup [],Dc.spanV u]) (ρ':=[some (.obj (X.N+1)),some (.tup [.sym 103,.bool b,.tup [],Dc.spanV u]),some t,some (.sym 103),some (.bool b),some (.tup []),some (Dc.spanV u),none]) rfl rfl (mS eb (nH rfl (oZ (nM (mE rfl) K.ki K.k rfl rfl (WR.val (a:=[Dc.spanV u,.sym 74]) (σ:=σ) rfl ((we (d:=d) (D:=3) H G hu).mono (λv τ h=>?_) λZ Z h=>h)))))));refine mn (mh (mw (qr rfl (WR.val (a:=.items []) (σ:=τ) rfl (un rfl (mh (n8 (WR.val (a:=.tup [.sym 103,.bool b,.int 0]) (σ:=τ) rfl ⟨rfl,h⟩))))))))
theorem Fn{u:Us}{t:V}(H:KH X Rv)(G:Ft X A C Rv σ)(hu:NodeOk X 5 (Dc.spanV u) kS u.asks []):WR (mu pg (d+7) false 27 [.obj (X.N+1),.tup [.sym 103,.bool true,.tup [Dc.spanV u],.none],t] σ) (λv τ=>v=kA/\Ft X (ask A u.asks) (rK C []) Rv τ) λZ Z=>False:=by
 have K:=H.ft G;refine WR.call rfl rfl (nG (v:=.tup [.sym 103,.bool true,.tup [Dc.spanV u],.none]) (ρ':=[some (.obj (X.N+1)),some (.tup [.sym 103,.bool true,.tup [Dc.spanV u],.none]),some t,some (.sym 103),some (.bool true),some (.tup [Dc.spanV u]),some .none,none]) rfl rfl (mS rfl (mS rfl (mw (qr rfl (WR.val (a:=.items [Dc.spanV u]) (σ:=σ) rfl (q7 rfl (q0 rfl (nH rfl (oZ (nM (mE rfl) K.ki K.k rfl rfl (WR.val (a:=[Dc.spanV u,.sym 97]) (σ:=σ) rfl ((we (d:=d) (D:=3) H G hu).mono (λv τ h=>?_) λZ Z h=>h)))))))))))));refine mn (mh (mn (mh (un rfl (mh (n8 (WR.val (a:=kA) (σ:=τ) rfl (⟨rfl,h⟩))))))))
theorem Fo{t:V}(hs:x6 s)(hp:mC X.PR 114=none)(hD:D.Kd X s)(H:KH X Rv)(G:Ft X A C Rv σ):WR (mu pg (d+7) false 27 [.obj (X.N+1),D.whatV s,t] σ) (λv τ=>v=D.kind s/\Ft X (ask A D.asksT) (rK C []) Rv τ) λZ Z=>False:=by
 cases D with
 |sized u=>
  have hu:NodeOk X 5 (Dc.spanV u) kS u.asks []:=zS (sX hp hD)
  rcases hs with h | h | h<;>subst h
  .exact zc H G hu
  .exact zc H G hu
  .exact Fn H G hu
 |call n u=>exact WR.val (a:=kB) (σ:=σ) rfl ⟨rfl,G⟩
 |val u w=>rcases hs with h | h | h<;>subst h<;>exact WR.val (σ:=σ) rfl ⟨rfl,G⟩
 |late u w=>rcases hs with h | h | h<;>subst h<;>exact WR.val (σ:=σ) rfl ⟨rfl,G⟩
end
end
section
open L1
section
variable {X:Kx}{A C:List (Nat×V)}{Rv:St}{s:Nat}{D:Dc}
theorem J1(hs:x6 s)(hp:mC X.PR 114=none)(hD:D.Kd X s):(D.valV s=.none/\D.calls=[]/\D.asksV=D.asksT)\/
  ∃t r v as,D.valV s=.tup (t::r)/\NodeOk X 5 (D.valV s) v as D.calls/\D.asksV=D.asksT++as/\∀{d:Nat} {x y:V} {σ:St},mu pg (d+2) false 2 [v,D.kind s,x,y] σ=.ok .none σ:=by
 cases D with
 |sized u=>
  rcases hs with h | h | h<;>subst h
  .exact .inl ⟨rfl,rfl,rfl⟩
  .exact .inr ⟨_,_,kP,[],rfl,td.le (by decide),(aT _).symm,rfl⟩
  .exact .inl ⟨rfl,rfl,rfl⟩
 |call n u=>
  refine z6 hD λh1 h2 v hu=>?_;exact .inr ⟨_,_,kB,u.asks,rfl,vg (sX hp hu) hu.isI h1 h2,rfl,rfl⟩
 |late u w=>exact .inl ⟨rfl,rfl,rfl⟩
 |val u w=>
  refine oJ hD λUJ v v' hu hw hk=>?_;refine mM (At hp hu hw) λa h1 h2 h3=>?_;refine .inr ⟨_,_,a,u.asks++w.asks,rfl,h3,rfl,?_⟩
  rcases hs with h | h | h
  .subst h
   rcases h1 with h | h<;>subst h
   .exact rfl
   .exact rfl
  .subst h;have:=h2 (hk rfl).1 (hk rfl).2;subst this;exact λ{_ _ _ _}=>rfl
  .exact absurd h UJ
theorem Gh{C:Call}{x y z:V}(hs:x6 s):dT pg false C (.cmp .gt (.bi .len (.comp (.v 4) (.x (.x (.v 1) 2) 2) (.cmp .eq (.x (.v 4) 0) (.s 104)) (.v 4))) (.i 0)) [some x,some (D.item k s),some y,some z,none] σ=.ok false σ:=by
 rcases hs with h | h | h<;>subst h<;>cases D<;>rfl
theorem wU{b:V}(hs:x6 s)(hp:mC X.PR 114=none)(hD:D.Kd X s)(H:KH X Rv)(G:Ft X A C Rv σ):WR (mu pg (d+8) false 28 [.obj (X.N+1),D.item k s,b] σ) (λZ τ=>Ft X (ask A D.asksV) (rK C D.calls) Rv τ) λZ Z=>False:=by
 have K:=H.ft G;refine WR.call rfl rfl (mX (nM (mE rfl) K.ki K.k rfl rfl (WR.val (a:=[D.whatV s,.int (10+k:Nat)]) (σ:=σ) rfl ((Fo (d:=d) hs hp hD H G).mono (λv τ h=>?_) λZ Z h=>h))));refine nt h λh1 G1=>?_;subst h1;have K1:=H.ft G1;refine WR.val (a:=[some (.obj (X.N+1)),some (D.item k s),some b,some (D.kind s),none]) (σ:=τ) rfl ?_
 rcases J1 hs hp hD with ⟨e,ec,ea⟩ | ⟨t,r,v,as,e,hv,ea,hw⟩
 .refine qD (show dT pg false (mu pg (d+7) false) (.cmp .isnt (.x (.v 1) 4) (.lit .none)) [some (.obj (X.N+1)),some (D.item k s),some b,some (D.kind s),none] τ=.ok false τ from oo (v:=.none) (w:=.none) (nC (v:=D.item k s) (w:=.int (4:Nat)) (mE rfl) rfl (by rw[<-e];rfl)) rfl rfl) (mS (Gh hs) (mn (mh (n8 (mD rfl ?_)))));rw[ec,ea];exact G1
 .refine nH (show dT pg false (mu pg (d+7) false) (.cmp .isnt (.x (.v 1) 4) (.lit .none)) [some (.obj (X.N+1)),some (D.item k s),some b,some (D.kind s),none] τ=.ok true τ from oo (v:=.tup (t::r)) (w:=.none) (nC (v:=D.item k s) (w:=.int (4:Nat)) (mE rfl) rfl (by rw[<-e];rfl)) rfl rfl) (oZ (m5 (mf (nM (mE rfl) K1.ki K1.k rfl rfl (WR.val (a:=[D.valV s]) (σ:=τ) rfl (((hv.le (by decide:5<=7)).run (d:=d) H G1).mono (λx υ h=>?_) λZ Z h=>h))))));refine nt h λh1 G2=>?_;subst h1;refine WR.val (a:=[D.kind s,.int (10+k:Nat),.sym (62+k)]) (σ:=υ) rfl (WR.val hw (mn (mh (n8 (mD rfl ?_)))));rw[ea,AZ];exact G2
theorem B3(hs:x6 s)(hp:mC X.PR 114=none)(hD:D.Kd X s)(H:KH X Rv)(G:Ft X A C Rv σ):WR (mu pg (d+9) false 35 [.obj (X.N+1),D.item k s] σ) (λZ τ=>Ft X (ask A D.asksV) (rK C D.calls) Rv τ) λZ Z=>False:=by
 have K:=H.ft G;refine WR.call rfl rfl (nG (v:=.tup [.sym 68,.int (10+k:Nat)]) (ρ':=[some (.obj (X.N+1)),some (D.item k s),some (.sym 68),some (.int (10+k:Nat))]) rfl rfl (nH rfl (oZ (nM (mE rfl) K.ki K.k rfl rfl (mf (mD rfl (mf (WR.val (zx (nC (v:=D.item k s) (w:=.int (3:Nat)) (u:=.sym (62+k)) (mE rfl) rfl rfl) (oB (mE rfl) K.ki K.k rfl) (tH K.ag)) (mx ((wU (d:=d) hs hp hD H G).mono (λx υ h=>mn (mh (mn h))) λZ Z h=>h))))))))))
end
end
section
open L1
theorem wQ{x:V}(h:σ[n]?=some (.list l))(hl:l.length < me):sU σ .append (.obj n) [x]=.ok .none (σ.set n (.list (l++[x]))):=by
 show R.opt (listAt σ n) (λl=>gd (l.length < me) (.ok V.none (σ.set n (.list (l++[x])))))=_;rw[la h];show gd (l.length < me) _=_;unfold gd;rw[if_pos hl]
theorem IV{x:V}(h:σ[n]?=some (.list (l++[x]))):sU σ .pop0 (.obj n) []=.ok x (σ.set n (.list l)):=by
 show R.opt (listAt σ n) (λl=>R.opt (l.getLast?) λv=>.ok v (σ.set n (.list l.dropLast)))=_;rw[la h];show R.opt ((l++[x]).getLast?) _=_;rw[je];show R.ok x (σ.set n (.list (l++[x]).dropLast))=_;rw[jc]
theorem A3(h:σ[n]?=some (.list l)):(rm σ (.obj n)).isSome=true:=by
 show (listAt σ n).isSome=true;rw[la h];rfl
theorem GC{P:Pg}{v:V}(hn:σ[n]?=some (.list l))(hg:vT l (-1)=some v):oM P σ (.obj n) (.int (-1))=some v:=by
 show mH ((mH none (mH none (listAt σ n))).bind λl=>vT l (-1)) _=_;rw[la hn];show mH (vT l (-1)) _=_;rw[hg];rfl
theorem Bv{M key:Nat}{x:V}{sc:List V}{DM:List (Nat×V)}{kd spot:V}(hn:σ[n]?=some (.inst 0 c))(hc:σ[c]?=some (.dict [(162,.obj (c+3)),(32,x)]))(hs:σ[c+3]?=some (.list sc))(hl:vT sc (-1)=some (.obj M))(hM:σ[M]?=some (.dict DM))(hk:mC DM key=none)(hD:DM.length < me):
  mu pg (d+1) false 7 [.obj n,.sym key,kd,spot] σ=.ok .none (σ.set M (.dict (ng DM key kd))):=by
 have e:∀{C:Call},dE pg false C (.idx (.attr (.v 0) 162) (.i (-1))) [some (.obj n),some (.sym key),some kd,some spot] σ=.ok (.obj M) σ:=λ{C}=>nC (oB (mE rfl) hn hc rfl) rfl (GC hs hl);refine WR.eqn (WR.call rfl rfl (mS (vS (mE rfl) e hM (by rw[hk];rfl)) (nG (mE rfl) (rO e (mE rfl) hM hD) (mn ⟨rfl,rfl⟩))))
section
variable {X:Kx}{A C:List (Nat×V)}{Rv:St}{s:Nat}{D:Dc}{u w:Us}{v v':V}
theorem D3{Vc:Nat}{n:V}(hp:mC X.PR 114=none)(hu:u.Kd X v)(H:KH X Rv)(G:Ft X A C Rv σ):WR (mu pg (d+9) false 35 [.obj (X.N+1),.tup [.sym 58,.int Vc,.tup [.sym 41,.int 13,.sym 10,u.toV,.tup [.sym 103,.int 13,n]]]] σ) (λZ τ=>∃A' C',Ft X A' C' Rv τ) λZ Z=>False:=by
 have K:=H.ft G;refine l8 (GG (n:=n) hp hu) λa ha hn=>?_;refine WR.call rfl rfl (nG (v:=.tup [.sym 58,.int Vc]) (ρ':=[some (.obj (X.N+1)),some (.tup [.sym 58,.int Vc,.tup [.sym 41,.int 13,.sym 10,u.toV,.tup [.sym 103,.int 13,n]]]),some (.sym 58),some (.int Vc)]) rfl rfl (qD rfl (qD rfl (nH rfl (oZ (m5 (mf (nM (mE rfl) K.ki K.k rfl rfl (WR.val (a:=[.tup [.sym 41,.int 13,.sym 10,u.toV,.tup [.sym 103,.int 13,n]]]) (σ:=σ) rfl (((hn.le (by decide:5<=8)).run (d:=d) H G).mono (λx υ h=>?_) λZ Z h=>h))))))))));refine nt h λh1 G1=>?_;subst h1;refine WR.val (a:=[kB,.int Vc,.sym 58]) (σ:=υ) rfl ?_
 rcases ha with h | h<;>subst h<;>exact WR.val (a:=.none) (σ:=υ) rfl (mn (mh (mn (mh (mn (mh (mn ⟨_,_,G1⟩)))))))
theorem D4{p:Nat}{m:V}(hp:mC X.PR 114=none)(hu:u.Kd X v)(H:KH X Rv)(G:Ft X A C Rv σ):WR (mu pg (d+9) false 35 [.obj (X.N+1),.tup [.sym 166,.int p,m,u.toV]] σ) (λZ τ=>∃A' C',Ft X A' C' Rv τ) λZ Z=>False:=by
 have K:=H.ft G;have hn:=sX hp hu
 have e:dT pg false (mu pg (d+8) false) (.cmp .isnt (.x (.v 1) 3) (.lit .none)) [some (.obj (X.N+1)),some (.tup [.sym 166,.int p,m,u.toV]),some (.sym 166),some (.int p)] σ=.ok true σ:=by cases u<;>rfl
 refine WR.call rfl rfl (nG (v:=.tup [.sym 166,.int p]) (ρ':=[some (.obj (X.N+1)),some (.tup [.sym 166,.int p,m,u.toV]),some (.sym 166),some (.int p)]) rfl rfl (qD rfl (qD rfl (qD rfl (nH rfl (nH e (oZ (m5 (mf (nM (mE rfl) K.ki K.k rfl rfl (WR.val (a:=[u.toV]) (σ:=σ) rfl (((hn.le (by decide:3<=8)).run (d:=d) H G).mono (λx υ h=>?_) λZ Z h=>h))))))))))));refine nt h λh1 G1=>?_;subst h1;refine WR.val (a:=[mK,.int p,.sym 166]) (σ:=υ) rfl ?_
 rcases hu.isI with h | h | h<;>subst h<;>exact WR.val (a:=.none) (σ:=υ) rfl (mn (mh (mn (mh (mn (mh (mn (mh (mn (mh (mn ⟨_,_,G1⟩)))))))))))
theorem B4(hs:x6 s)(hp:mC X.PR 114=none)(hk:k < 6)(hD:(Dc.late u w).Kd X s)(hg:mC X.D0 (62+k)=some (sJ s))(H:KH X Rv)(G:Ft X A C Rv σ):WR (mu pg (d+9) false 35 [.obj (X.N+1),(Dc.late u w).lateV k] σ) (λZ τ=>∃A' C',Ft X A' C' Rv τ) λZ Z=>False:=by
 have K:=H.ft G;refine oJ hD λUJ v v' hu hw Vo=>?_;refine mM (At hp hu hw) λa h1 h2 h3=>?_
 have hwant:∀{d:Nat} {x y:V} {σ:St},mu pg (d+2) false 2 [a,sJ s,x,y] σ=.ok .none σ:=by
  rcases hs with h | h | h
  .subst h
   rcases h1 with h | h<;>subst h<;>exact λ{_ _ _ _}=>rfl
  .subst h;have:=h2 (Vo rfl).1 (Vo rfl).2;subst this;exact λ{_ _ _ _}=>rfl
  .exact absurd h UJ
 refine WR.call rfl rfl (nG (v:=.tup [.sym 36,.int (30+k:Nat)]) (ρ':=[some (.obj (X.N+1)),some ((Dc.late u w).lateV k),some (.sym 36),some (.int (30+k:Nat))]) rfl rfl (qD rfl (qD rfl (qD rfl (qD rfl (qD rfl (nH rfl (oZ (m5 (mf (nM (mE rfl) K.ki K.k rfl rfl (WR.val (a:=[Dc.sumV u w]) (σ:=σ) rfl (((h3.le (by decide:5<=8)).run (d:=d) H G).mono (λx υ h=>?_) λZ Z h=>h)))))))))))));refine nt h λe1 G1=>?_;subst e1;have K1:=H.ft G1;refine mf (nM (oB (mE rfl) K1.ki K1.k rfl) K1.ni K1.n rfl rfl (WR.val (a:=[.sym (62+k),.int (30+k:Nat)]) (σ:=υ) rfl ((wh (d:=d+7) H G1 ⟨GK,OC hk⟩ hg).mono (λx ω h=>?_) λZ Z h=>h)));refine nt h λe1 G2=>?_;subst e1;refine WR.val (a:=[.int (30+k:Nat),.sym (62+k)]) (σ:=ω) rfl (WR.val hwant ?_);exact mn (mh (mn (mh (mn (mh (mn (mh (mn (mh (mn (mh (mn ⟨_,_,G2⟩))))))))))))
end
end
section
open L1
def Pd.Kd(X:Kx)(p:Pd):Prop:=(∃v,p.u.Kd X v)/\∀n,p.c=some n->n < 3/\mC X.PR (140+n)=some (.tup [mK])
noncomputable def yX:V:=.tup [.sym 103,.bool true,.tup [],.none]
section
variable {X:Kx}{A C:List (Nat×V)}{Rv:St}{p:Pd}
theorem Us.Kd.sc{s:List V}{u:Us}{v:V}(h:u.Kd X v):u.Kd {X with sc:=s} v:=by cases u<;>exact h
theorem E7{o:O}{l:O}(h:n < σ.length):((σ++[o]).set n l)[σ.length]?=some o:=by
 rw[aj (aP h),aI (aN _),bC];rfl
theorem An(hp:mC X.PR 114=none)(Sx:X.sc=[.obj (X.N+4)])(hP:p.Kd X)(H:KH X Rv)(G:Ft X A C Rv σ):WR (mu pg (d+9) false 36 [.obj (X.N+1),p.item k] σ) (λZ τ=>Ft X (ask A p.u.asks) (rK C p.calls) Rv τ) λZ Z=>False:=by
 have K:=H.ft G;have hN:∀{i:Nat} {o:O},σ[X.N+i]?=some o->X.N+i < σ.length:=λe=>(aq.mp e).1;have h5:=hN (i:=5) K.sc;generalize hM:σ.length=M;generalize hσ1:(σ++[O.dict []]).set (X.N+5) (.list ([.obj (X.N+4)]++[.obj M]))=σ1
 have o1:∀i,i < M->i≠X.N+5->σ1[i]?=σ[i]?:=λi hi hne=>by
  rw[<-hσ1,aj (bJ hne),aJ (by rw[hM];exact hi)]
 have sc1:σ1[X.N+5]?=some (.list [.obj (X.N+4),.obj M]):=by
  rw[<-hσ1,aF (by rw[ah];exact ao h5 (aA _ _))];rfl
 have m1:σ1[M]?=some (.dict []):=by rw[<-hσ1,<-hM];exact E7 h5
 have l1:σ1.length=M+1:=by rw[<-hσ1,aV,ah,hM];rfl
 have ni1:σ1[X.N+3]?=some (.inst 0 (X.N+2)):=(o1 _ (by rw[<-hM];exact hN K.ni) (OG)).trans K.ni;have n1:σ1[X.N+2]?=some (.dict [(162,.obj (X.N+5)),(32,.obj X.na)]):=(o1 _ (by rw[<-hM];exact hN K.n) (OH)).trans K.n;have ki1:σ1[X.N+1]?=some (.inst 1 X.N):=(o1 _ (by rw[<-hM];exact hN K.ki) (OI)).trans K.ki;have k1:σ1[X.N]?=_:=(o1 _ (by rw[<-hM];exact hN (i:=0) K.k) (OJ)).trans K.k;generalize hσ2:σ1.set M (.dict (ng [] 121 mK))=σ2
 have o2:∀i,i≠M->σ2[i]?=σ1[i]?:=λi hne=>by rw[<-hσ2,aj (bJ hne)]
 have m2:σ2[M]?=some (.dict [(121,mK)]):=by rw[<-hσ2,aF (by rw[l1];exact bO _)];rfl
 have l2:σ2.length=M+1:=by rw[<-hσ2,aV,l1]
 have hna:X.na < M:=by rw[<-hM];exact G.la
 have hnc:X.nc < M:=by rw[<-hM];exact G.lc
 have h5a:=H.ha 5 (by decide) (by decide);have h5c:=H.hc 5 (by decide) (by decide)
 have o12:∀{i:Nat} {o:O},i≠X.N+5->σ[i]?=some o->σ2[i]?=some o:=λ{i o} hne e=>by
  have hi:i < M:=by rw[<-hM];exact (aq.mp e).1
  rw[o2 i (aP hi),o1 i hi hne];exact e
 have H2:KH {X with sc:=[.obj (X.N+4),.obj M]} σ2:=⟨o12 (by show X.N≠_;exact OJ) K.k,o12 (by show X.N+1≠_;exact OI) K.ki,o12 (by show X.N+2≠_;exact OH) K.n,o12 (by show X.N+3≠_;exact OG) K.ni,o12 (by show X.N+4≠_;exact Qv) K.s0,by rw[o2 _ (by show X.N+5≠_;exact Qu h5 hM)];exact sc1,o12 (by show X.N+7≠_;exact Qt) K.pr,o12 (by show X.N+9≠_;exact Qr) K.ag,H.ha,H.hc,H.ne,H.lo,.inr ⟨M,rfl,m2,aY hna,aY hnc⟩⟩;have G2:Ft {X with sc:=[.obj (X.N+4),.obj M]} A C σ2 σ2:=⟨aN _,λZ Z Z Z=>rfl,o12 h5a G.a,o12 h5c G.c,G.ka,G.kc⟩;refine WR.call rfl rfl (oZ (nM (oB (mE rfl) K.ki K.k rfl) K.ni K.n rfl rfl (WR.val (a:=[]) (σ:=σ) rfl (WR.call rfl rfl (oZ (uU ?_))))));refine WR.val (oB (mE rfl) K.ni K.n rfl) ⟨A3 K.sc,mf (WR.val (a:=.obj M) (σ:=σ++[.dict []]) ?_ (mx (WR.val (a:=.none) (σ:=σ1) ?_ ?_)))⟩
 .show zZ σ (.dict (nQ [] []))=_;rw[<-hM];rfl
 .rw[<-hσ1];refine wQ (l:=[.obj (X.N+4)]) ?_ (show 1 < me by decide);rw[aJ h5,K.sc,Sx]
 refine mn (mw (IL rfl (mw (qr rfl (WR.val (a:=.items [.tup [yX,.sym 121]]) (σ:=σ1) rfl (q7 (v:=.tup [yX,.sym 121]) rfl (q0 (ρ':=[some (.obj (X.N+1)),some (p.item k),some yX,some (.sym 121)]) rfl (oZ ?_))))))));refine nM (oB (mE rfl) ki1 k1 rfl) ni1 n1 rfl rfl (mf (mD rfl (mf (nM (mE rfl) ki1 k1 rfl rfl (WR.val (a:=[yX,.int (50+k:Nat)]) (σ:=σ1) rfl (WR.val (a:=mK) (σ:=σ1) rfl (WR.val (a:=[.int (50+k:Nat)]) (σ:=σ1) rfl (WR.val (Bv (M:=M) (key:=121) (DM:=[]) (kd:=mK) ni1 n1 sc1 rfl m1 rfl (show 0 < me by decide)) ?_))))))));rw[hσ2];refine mn (mh (un rfl (mh (oZ (m5 (mf ?_))))));refine nt hP λR6 hc=>?_;obtain ⟨v,hu⟩:=R6;refine l8 (F9 (X:={X with sc:=[.obj (X.N+4),.obj M]}) (M:=.obj M) (c:=p.c) hp rfl hu.sc hc) λa ha hb=>?_;refine nM (mE rfl) H2.ki H2.k rfl rfl (WR.val (a:=[p.allV]) (σ:=σ2) rfl (((hb.le (by decide:7<=8)).run (d:=d) H2 G2).mono (λx υ h=>?_) λZ Z h=>h.elim));refine nt h λe1 G3=>?_;subst e1;have K3:=H2.ft G3;refine WR.val (a:=[kB,.int (50+k:Nat),.sym (140+k)]) (σ:=υ) rfl ?_
 have fin:∀{τ:St},τ=υ.set (X.N+5) (.list [.obj (X.N+4)])->Ft X (ask A p.u.asks) (rK C p.calls) Rv τ:=λ{τ} e=>by
  have WQ:X.N+5 < υ.length:=(aq.mp K3.sc).1;refine⟨?_,λi hi n1 n2=>?_,?_,?_,G3.ka,G3.kc⟩
  .rw[e,aV];exact ac G.len (ac (by rw[l2,<-hM];exact dU _) G3.len)
  .have WE:i < M:=by rw[<-hM];exact ao hi G.len
   rw[e,<-G.fr i hi n1 n2]
   by_cases h:X.N+5=i
   .rw[<-h,aF WQ,K.sc,Sx]
   .rw[aj h,G3.fr i (by rw[l2];exact OF WE) n1 n2,o2 i (aP WE),o1 i WE (bJ h)]
  .rw[e,aj (bJ h5a)];exact G3.a
  .rw[e,aj (bJ h5c)];exact G3.c
 have pop:WR (dS pg (mu pg (d+8)) false (.q (.expr (.meth (.attr (.v 0) 129) 146 .nil)) .skip) [some (.obj (X.N+1)),some (p.item k),some yX,some (.sym 121)] υ) (λq τ=>q.1=.next/\Ft X (ask A p.u.asks) (rK C p.calls) Rv τ) λZ Z=>False:=by
  refine oZ (nM (oB (mE rfl) K3.ki K3.k rfl) K3.ni K3.n rfl rfl (WR.val (a:=[]) (σ:=υ) rfl (WR.call rfl rfl (oZ (uU (WR.val (oB (mE rfl) K3.ni K3.n rfl) ⟨A3 K3.sc,mx (WR.val (IV (l:=[.obj (X.N+4)]) (x:=.obj M) K3.sc) (mn (mn ⟨rfl,fin rfl⟩)))⟩))))))
 rcases ha with h | h<;>subst h<;>exact WR.val (a:=.none) (σ:=υ) rfl (mn (IK (pop.mono (λq τ h=>⟨h.1,WR.ok (mh (mn h.2))⟩) λZ Z h=>h)))
theorem B5(hp:mC X.PR 114=none)(Sx:X.sc=[.obj (X.N+4)])(hP:p.Kd X)(H:KH X Rv)(G:Ft X A C Rv σ):WR (mu pg (d+10) false 35 [.obj (X.N+1),p.item k] σ) (λZ τ=>Ft X (ask A p.u.asks) (rK C p.calls) Rv τ) λZ Z=>False:=by
 have K:=H.ft G;refine WR.call rfl rfl (nG (v:=.tup [.sym 148,.int (50+k:Nat)]) (ρ':=[some (.obj (X.N+1)),some (p.item k),some (.sym 148),some (.int (50+k:Nat))]) rfl rfl (qD rfl (nH rfl (oZ (nM (mE rfl) K.ki K.k rfl rfl (WR.val (a:=[p.item k]) (σ:=σ) rfl ((An (d:=d) hp Sx hP H G).mono (λx υ h=>mn (mh (mn (mh (mn h))))) λZ Z h=>h)))))))
end
end
section
open L1
noncomputable def upd(Pk:Nat->Pd)(A:List (Nat×V))(v:List Nat):List (Nat×V):=v.foldl (λB i=>nQ B (ask [] (Pk i).u.asks)) A
theorem Hk{A:List (Nat×V)}{v w:List Nat}:upd Pk A (v++w)=upd Pk (upd Pk A v) w:=fB
theorem Ga{f:List Nat}{i:Nat}:∀{A:List (Nat×V)},(mC (rK A f) (140+i)).isSome=((mC A (140+i)).isSome||f.contains i):=by
 induction f with
 |nil=>intro A;exact (dm _).symm
 |cons a f ih=>
  intro A;show (mC (rK (ng A (140+a) (.bool true)) f) (140+i)).isSome=_;rw[ih,oa]
  by_cases h:a=i
  .subst h;rw[if_pos rfl,bS,beq_self_eq_true];show (true||_)=_;rw[iF,dX]
  .rw[if_neg (Qx h),bS,beq_false_of_ne (bJ h),fi]
theorem A0{f:List Nat}{i:Nat}:∀{A:List (Nat×V)},(mC (ask A f) (62+i)).isSome=((mC A (62+i)).isSome||f.contains i):=by
 induction f with
 |nil=>intro A;exact (dm _).symm
 |cons a f ih=>
  intro A;show (mC (ask (ng A (62+a) (.bool true)) f) (62+i)).isSome=_;rw[ih,oa]
  by_cases h:a=i
  .subst h;rw[if_pos rfl,bS,beq_self_eq_true];show (true||_)=_;rw[iF,dX]
  .rw[if_neg (Qw h),bS,beq_false_of_ne (bJ h),fi]
theorem ow.upd{a b:Nat}:∀{r l:List (Nat×V)},ow a b l->(∀p∈r,a<=p.1/\p.1 < b)->ow a b (nQ l r)
 |[],_,h,_=>h
 |(k,v)::r,_,h,k'=>ow.upd (r:=r) (h.set (k' _ ax)) λp hp=>k' p (aE _ hp)
theorem ow.ask{l:List Nat}(hl:∀j∈l,j < 6):∀{A:List (Nat×V)},ow 62 68 A->ow 62 68 (ask A l):=by
 induction l with
 |nil=>exact λh=>h
 |cons a l ih=>
  intro A h;exact ih (λj hj=>hl j (aE _ hj)) (A:=ng A (62+a) (.bool true)) (h.set (by have:=hl a ax;exact OK this))
theorem ow.upds{v:List Nat}(hP:∀i∈v,∀j∈(Pk i).u.asks,j < 6):∀{A:List (Nat×V)},ow 62 68 A->ow 62 68 (Mine.Internal.upd Pk A v):=by
 induction v with
 |nil=>exact λh=>h
 |cons a v ih=>
  intro A h;exact ih (λi hi=>hP i (aE _ hi)) (A:=nQ A (Mine.Internal.ask [] (Pk a).u.asks)) (h.upd λp hp=>((ow.ask (hP a ax) .nil).2 p hp))
theorem ym{k:Nat}:∀{r l:List (Nat×V)},(mC (nQ l r) k).isSome=((mC l k).isSome||(mC r k).isSome)
 |[],l=>(dm _).symm
 |(k',v)::r,l=>by
  show (mC (nQ (ng l k' v) r) k).isSome=_;rw[ym (r:=r),oa,oC]
  by_cases h:k'=k
  .rw[if_pos h,if_pos h];show (true||_)=(_||true);rw[iF,dX]
  .rw[if_neg h,if_neg h]
theorem Hl{v:List Nat}:∀{A:List (Nat×V)},(mC (upd Pk A v) (62+j)).isSome=((mC A (62+j)).isSome||v.any λi=>(Pk i).u.asks.contains j):=by
 induction v with
 |nil=>intro A;exact (dm _).symm
 |cons a v ih=>
  intro A;show (mC (upd Pk (nQ A (ask [] (Pk a).u.asks)) v) (62+j)).isSome=_;rw[ih,ym,A0,jx,Bool.or_assoc];rfl
section
variable {P:Pg}
theorem IA{a:MX}{l:List (Nat×V)}(ha:dE P false C a ρ σ=.ok (.obj n) σ)(hn:σ[n]?=some (.dict l))(hl:l.length<=me):dE P false C (.bi .dict a) ρ σ=.ok (.obj σ.length) (σ++[.dict l]):=by
 show (dE P false C a ρ σ).bind (λv σ=>uI σ .dict v)=_;rw[ha];show R.opt (dictAt σ n) (λl=>gd (l.length<=me) (zZ σ (.dict l)))=_;unfold dictAt;rw[hn];show gd (l.length<=me) _=_;unfold gd;rw[if_pos hl];rfl
theorem C5{m:Bool}{a:MX}{o:Option Nat}(ha:dE P false C a ρ σ=.ok (.obj n) σ)(hn:σ[n]?=some (.dict (rK [] o.toList))):dE P false C (.bi (.sorted m) a) ρ σ=newL m (o.toList.map λi=>.sym (140+i)) σ:=by
 show (dE P false C a ρ σ).bind (λv σ=>uI σ (.sorted m) v)=_;rw[ha];show R.opt (mH ((dictAt σ n).map λl=>l.map (·.1)) _) (λks=>gd (ks.length<=16) (newL m ((rG ks).map .sym) σ))=_;unfold dictAt;rw[hn]
 cases o<;>rfl
theorem IW{l r:List (Nat×V)}(h:σ[n]?=some (.dict l))(k:σ[m]?=some (.dict r))(hne:m≠n)(hl:l.length+r.length<=me):sU σ .update (.obj n) [.obj m]=.ok .none (σ.set n (.dict (nQ l r))):=by
 show R.opt (dictAt σ n) (λl=>R.opt (dictAt σ m) λr=>gd (l.length+r.length<=me/\(some m != some n)=true) (.ok V.none (σ.set n (.dict (nQ l r)))))=_;unfold dictAt;rw[h,k];show gd (l.length+r.length<=me/\(some m != some n)=true) _=_;unfold gd;rw[if_pos ⟨hl,bne_iff_ne.mpr λe=>hne (am e)⟩]
end
end
section
open L1
def Rc(X:Kx)(Pk:Nat->Pd)(np:Nat)(σ:St):Prop:=∃AS,σ[X.N+8]?=some (.dict AS)/\∀i,i < np->∃a c,mC AS (140+i)=some (.tup [.obj a,.obj c])/\σ[a]?=some (.dict (ask [] (Pk i).u.asks))/\σ[c]?=some (.dict (rK [] (Pk i).c.toList))
def nP(σ τ:St):Prop:=∀i,i < σ.length->τ[i]?=σ[i]?
theorem nP.at(h:nP σ τ){i:Nat}{o:O}(e:σ[i]?=some o):τ[i]?=some o:=(h i (aq.mp e).1).trans e
theorem nP.push(h:nP σ τ){o:O}(hl:σ.length<=τ.length):nP σ (τ++[o]):=λi hi=>(aJ (ao hi hl)).trans (h i hi)
theorem nP.set(h:nP σ τ){o:O}(hn:σ.length<=n):nP σ (τ.set n o):=λi hi=>(aj λe=>absurd hi (QC hn e)).trans (h i hi)
theorem nP.refl(σ:St):nP σ σ:=λZ Z=>rfl
theorem KH.same{X:Kx}(K:KH X σ)(h:nP σ τ):KH X τ:=⟨h.at K.k,h.at K.ki,h.at K.n,h.at K.ni,h.at K.s0,h.at K.sc,h.at K.pr,h.at K.ag,K.ha,K.hc,K.ne,K.lo,K.m.imp id λ⟨M,h1,e,h2⟩=>⟨M,h1,h.at e,h2⟩⟩
noncomputable def Rl:MX:=.cmp .gt (.bi .len (.v 2)) (.i 0)
noncomputable def Rk:MS:=.a (.v 4) (.bm .pop0 (.v 2) .nil) (.f (.cmp .notin (.v 4) (.v 3)) (.a (.idx (.v 3) (.v 4)) (.lit (.bool true)) (.q (.expr (.bm .update (.v 1) (.c1 (.x (.idx (.attr (.v 0) 34) (.v 4)) 0)))) (.q (.expr (.bm .extend (.v 2) (.c1 (.bi (.sorted false) (.x (.idx (.attr (.v 0) 34) (.v 4)) 1))))) .skip))) .skip)
noncomputable abbrev Ki(X:Kx)(F W S:Nat)(x:Option V):mc:=[some (.obj (X.N+1)),some (.obj F),some (.obj W),some (.obj S),x]
noncomputable def pV(o:Option Nat):List V:=o.toList.map λi=>.sym (140+i)
section
variable {X:Kx}{np:Nat}
theorem uB{C:Bool->Call}{F W S:Nat}(K:KH X σ)(hR:Rc X Pk np σ)(hn:np<=3)(hF:σ.length<=F)(hW:σ.length<=W)(hS:σ.length<=S)(Uk:F≠W)(WO:F≠S)(VS:W≠S)(hP:∀i,i < np->(∀j∈(Pk i).u.asks,j < 6)/\∀j,(Pk i).c=some j->j < np):
  ∀(n:Nat) {m:Nat} {f:List Nat} {o:Option Nat} {B:List (Nat×V)} {τ:St} {x:Option V},τ[F]?=some (.dict B)->τ[W]?=some (.list (pV o))->τ[S]?=some (.dict (rK [] f))->nP σ τ->f.Nodup->(∀i∈f,i < np)->(∀i,o=some i->i < np)->np < f.length+n->ow 62 68 B->
  WR (qg (dT pg false (C false) Rl) (dS pg C false Rk) (m+n+1) (Ki X F W S x) τ) (λp υ=>p.1=.next/\(∃x,p.2=Ki X F W S x)/\(∃v,vU (λi=>(Pk i).c) n f o=f++v/\υ[F]?=some (.dict (upd Pk B v)))/\nP σ υ/\υ.length=τ.length) λZ Z=>False
 |0,m,f,o,B,τ,x,eF,eW,eS,hs,hd,hb,ho,hl,hB=>by
  have:f.length<=(az np).length:=m7 hd λi hi=>bt.mpr (hb i hi);rw[aR] at this;exact absurd hl (Ou this)
 |n+1,m,f,none,B,τ,x,eF,eW,eS,hs,hd,hb,ho,hl,hB=>s5 (oo (v:=.int (0:Nat)) (w:=.int 0) (qq (mE rfl) eW) rfl rfl) ⟨rfl,⟨_,rfl⟩,⟨[],(aT _).symm,eF⟩,hs,rfl⟩
 |n+1,m,f,some i,B,τ,x,eF,eW,eS,hs,hd,hb,ho,hl,hB=>by
  have hi:=ho i rfl;have T3:f.length<=(az np).length:=m7 hd λi hi=>bt.mpr (hb i hi);rw[aR] at T3;have lF:F < τ.length:=(aq.mp eF).1;have lW:W < τ.length:=(aq.mp eW).1;have lS:S < τ.length:=(aq.mp eS).1;refine v8 (oo (v:=.int (1:Nat)) (w:=.int 0) (qq (mE rfl) eW) rfl rfl) (mX (zy (n:=W) (l:=[]) (x:=.sym (140+i)) rfl (la eW) ?_));generalize Tt:τ.set W (.list [])=τ1
  have VU:τ1[F]?=some (.dict B):=by rw[<-Tt,aj (bJ Uk)];exact eF
  have UL:τ1[W]?=some (.list []):=by rw[<-Tt];exact aF lW
  have Xq:τ1[S]?=some (.dict (rK [] f)):=by rw[<-Tt,aj VS];exact eS
  have UQ:nP σ τ1:=by rw[<-Tt];exact hs.set hW
  have l1:τ1.length=τ.length:=by rw[<-Tt];exact aV
  refine WR.val (a:=Ki X F W S (some (.sym (140+i)))) (σ:=τ1) rfl ?_
  have ht:dT pg false (C false) (.cmp .notin (.v 4) (.v 3)) (Ki X F W S (some (.sym (140+i)))) τ1=.ok (!f.contains i) τ1:=oo (v:=.sym (140+i)) (w:=.obj S) (mE rfl) (mE rfl) (by
   show (uJ _ _ _).map not=_
   rw[tH Xq,Ga];rfl)
  cases Sw:f.contains i with
  |true=>
   rw[Sw] at ht;refine mS ht (mn (mh (s5 (oo (v:=.int (0:Nat)) (w:=.int 0) (qq (mE rfl) UL) rfl rfl) ⟨rfl,⟨_,rfl⟩,⟨[],?_,VU⟩,UQ,l1⟩)));show (if f.contains i=true then f else _)=_;rw[Sw,aT];rfl
  |false=>
   rw[Sw] at ht;refine l8 hR λAS Ul Vk=>?_;refine mI (Vk i hi) λa c h1 h2 h3=>?_;have XD:a < σ.length:=(aq.mp h2).1;refine nH ht (nG (v:=.bool true) rfl (rO (n:=S) (k:=140+i) (mE rfl) (mE rfl) Xq (aB (show (rK [] f).length<=143 from ?_) (by decide))) ?_)
   .have:ow 140 143 (rK [] f):=by
     have go:∀{g:List Nat} {A:List (Nat×V)},(∀j∈g,j < 3)->ow 140 143 A->ow 140 143 (rK A g):=λ{g}=>by
      induction g with
      |nil=>exact λZ h=>h
      |cons b g ih=>exact λ{A} hg h=>ih (A:=ng A (140+b) (.bool true)) (λj hj=>hg j (aE _ hj)) (h.set (by have:=hg b ax;exact JG this))
     exact go (λj hj=>ao (hb j hj) hn) .nil
    exact this.len
   generalize Ts:τ1.set S (.dict (ng (rK [] f) (140+i) (.bool true)))=τ2
   have VD:τ2[F]?=some (.dict B):=by rw[<-Ts,aj (bJ WO)];exact VU
   have UK:τ2[W]?=some (.list []):=by rw[<-Ts,aj (bJ VS)];exact UL
   have Yz:τ2[S]?=some (.dict (rK [] (f++[i]))):=by rw[<-Ts,wR];exact aF (by rw[l1];exact lS)
   have Ud:nP σ τ2:=by rw[<-Ts];exact UQ.set hS
   have l2:τ2.length=τ.length:=by rw[<-Ts,aV];exact l1
   have rd:∀{υ:St},nP σ υ->∀{C:Call} {x:Option V},dE pg false C (.idx (.attr (.v 0) 34) (.v 4)) (Ki X F W S (some (.sym (140+i)))) υ=.ok (.tup [.obj a,.obj c]) υ:=λS3=>nC (oB (mE rfl) (S3.at K.ki) (S3.at K.k) rfl) (mE rfl) (tX (S3.at Ul) h1);refine oZ (uU (WR.val (a:=.obj F) (σ:=τ2) rfl ⟨?_,mf (WR.val (nC (w:=.int (0:Nat)) (rd Ud (x:=x)) rfl rfl) (mx (WR.val (IW VD (Ud.at h2) (OO hF XD) ?_) ?_)))⟩))
   .show (dictAt τ2 F).isSome=true;unfold dictAt;rw[VD];rfl
   .exact ac (bk hB.len (ow.ask (hP i hi).1 .nil).len) (by decide)
   generalize Tr:τ2.set F (.dict (nQ B (ask [] (Pk i).u.asks)))=τ3
   have WX:τ3[F]?=some (.dict (upd Pk B [i])):=by rw[<-Tr];exact aF (by rw[l2];exact lF)
   have WW:τ3[W]?=some (.list []):=by rw[<-Tr,aj Uk];exact UK
   have Yy:τ3[S]?=some (.dict (rK [] (f++[i]))):=by rw[<-Tr,aj WO];exact Yz
   have Wq:nP σ τ3:=by rw[<-Tr];exact Ud.set hF
   have l3:τ3.length=τ.length:=by rw[<-Tr,aV];exact l2
   refine mw (HM (n:=W) (l:=[]) (r:=pV (Pk i).c) rfl (la WW) ?_ ((C5 (m:=false) (nC (w:=.int (1:Nat)) (rd Wq (x:=x)) rfl rfl) (Wq.at h3)).trans rfl) (mh (mn (mh (mn (mh ?_))))))
   .cases (Pk i).c with
    |none=>exact ce _
    |some _=>exact (by decide:1<=me)
   have Wz:¬i∈f:=λh=>by rw[bx.mpr h] at Sw;exact ma Sw.symm
   have UE:∀j∈f++[i],j < np:=λj hj=>(aH.mp hj).elim (hb j) λh=>by rw[au.mp h];exact hi
   have hnd:(f++[i]).Nodup:=bV.mpr ⟨hd,bo.mpr ⟨λh=>(nomatch h),cu⟩,λa ha b hb' e=>Wz (by rw[<-au.mp hb',<-e];exact ha)⟩;refine (uB K ⟨AS,Ul,Vk⟩ hn hF hW hS Uk WO VS hP n (m:=m) (f:=f++[i]) (o:=(Pk i).c) (B:=upd Pk B [i]) (τ:=τ3.set W (.list ([]++pV (Pk i).c))) (x:=some (.sym (140+i))) ?_ (aF (by rw[l3];exact lW)) ?_ (Wq.set hW) hnd UE (hP i hi).2 ?_ (ow.upds (v:=[i]) (λj hj=>by rw[au.mp hj];exact (hP i hi).1) hB)).mono (λp υ h=>⟨h.1,h.2.1,?_,h.2.2.2.1,?_⟩) λZ Z h=>h
   .rw[aj (bJ Uk)];exact WX
   .rw[aj VS];exact Yy
   .rw[ah];show np < f.length+1+n;exact Os hl
   .refine l8 h.2.2.1 λv h1 h2=>?_;refine⟨[i]++v,?_,?_⟩
    .show (if f.contains i=true then f else _)=_;rw[Sw,<-ba];exact h1
    .rw[Hk];exact h2
   .rw[h.2.2.2.2,aV,l3]
theorem AP{A:List (Nat×V)}{o:Option Nat}(K:KH X σ)(hR:Rc X Pk np σ)(hn:np<=3)(hP:∀i,i < np->(∀j∈(Pk i).u.asks,j < 6)/\∀j,(Pk i).c=some j->j < np)(ea:σ[X.na]?=some (.dict A))(ec:σ[X.nc]?=some (.dict (rK [] o.toList)))(ho:∀i,o=some i->i < np)(hA:ow 62 68 A):
  WR (mu pg (d+1) false 34 [.obj (X.N+1)] σ) (λv τ=>v=.obj σ.length/\τ[σ.length]?=some (.dict (upd Pk A (vU (λi=>(Pk i).c) (np+1) [] o)))/\nP σ τ/\τ.length=σ.length+3) λZ Z=>False:=by
 have s1:nP σ (σ++[O.dict A]):=(nP.refl σ).push (aN _)
 have L1:(σ++[O.dict A]).length=σ.length+1:=by rw[ah];rfl
 have s2:nP σ ((σ++[O.dict A])++[O.list (pV o)]):=s1.push (ON L1)
 have L2:((σ++[O.dict A])++[O.list (pV o)]).length=σ.length+2:=by rw[ah,L1];rfl
 have s3:nP σ (((σ++[O.dict A])++[O.list (pV o)])++[O.dict []]):=s2.push (JF L2);refine WR.call rfl rfl (mX (nN (mf (WR.val (IA (oB (oB (mE rfl) K.ki K.k rfl) K.ni K.n rfl) ea (ac hA.len (by decide))) (mf (WR.val (a:=.obj (σ.length+1)) (σ:=(σ++[O.dict A])++[O.list (pV o)]) ?_ (mf (WR.val (a:=.obj (σ.length+2)) (σ:=((σ++[O.dict A])++[O.list (pV o)])++[O.dict []]) ?_ (mx ⟨rfl,WR.val (a:=Ki X σ.length (σ.length+1) (σ.length+2) none) (σ:=((σ++[O.dict A])++[O.list (pV o)])++[O.dict []]) rfl (mw (v7 ?_))⟩)))))))))
 .rw[C5 (m:=true) (oB (mE rfl) (s1.at K.ki) (s1.at K.k) rfl) (s1.at ec)];show R.ok (V.obj (σ++[O.dict A]).length) _=_;rw[L1];rfl
 .show R.ok (V.obj ((σ++[O.dict A])++[O.list (pV o)]).length) _=_;rw[L2];rfl
 generalize hτ:((σ++[O.dict A])++[O.list (pV o)])++[O.dict []]=τ at s3
 have L3:τ.length=σ.length+3:=by rw[<-hτ,ah,L2];rfl
 have eF:τ[σ.length]?=some (.dict A):=by rw[<-hτ,aJ (QB L2),aJ (OM L1),aI (aN _),bC];rfl
 have eW:τ[σ.length+1]?=some (.list (pV o)):=by rw[<-hτ,aJ (QA L2),aI (OL L1),L1,bC];rfl
 have eS:τ[σ.length+2]?=some (.dict (rK [] [])):=by rw[<-hτ,aI (Qz L2),L2,bC];rfl
 have hw:mU=(mU - (np+2))+(np+1)+1:=by
  have:mU=10000:=rfl;exact Ox hn this
 rw[hw];refine (uB (C:=mu pg d) K hR hn (F:=σ.length) (W:=σ.length+1) (S:=σ.length+2) (aN _) (JE) (Qy) (GJ) (JD) (JC) hP (np+1) (m:=mU - (np+2)) (f:=[]) (o:=o) eF eW eS s3 cu (λi h=>(nomatch h)) ho (by show np < 0+(np+1);exact Ov) hA).mono (λp υ h=>?_) λZ Z h=>h.elim;refine sC h λhp1 RV Xx Wr XT=>?_;obtain ⟨x,hp2⟩:=RV;obtain ⟨v,Wt,Ws⟩:=Xx;obtain ⟨fl,ρ⟩:=p;have hp1:fl=.next:=hp1;have hp2:ρ=_:=hp2;subst hp1;subst hp2;refine mh (n8 (mD rfl ⟨rfl,?_,Wr,XT.trans L3⟩));rw[Wt];exact Ws
end
end
section
open L1
section
variable {nl:Nat->List Nat}{f w:List Nat}
theorem zm(hw:w=order.filter λk=>!f.contains k)(hj:j∈order):w.contains j=!f.contains j:=by
 cases h:f.contains j with
 |true=>
  refine cQ.mpr λhc=>?_;have:=bx.mp hc;rw[hw] at this;have:=(cC.mp this).2;rw[h] at this;exact ma this
 |false=>
  refine bx.mpr ?_;rw[hw];exact cC.mpr ⟨hj,by rw[h];rfl⟩
theorem F7(hw:w=order.filter λk=>!f.contains k){a b:List Nat}(h:∀j,j∈a↔j∈b)(hb:∀j∈b,j∈order):a.any w.contains=!b.all f.contains:=by
 cases h1:b.all f.contains with
 |true=>
  refine cQ.mpr λhc=>?_;refine l8 (cL.mp hc) λj hj W9=>?_;have hb':=(h j).mp hj;rw[zm hw (hb j hb'),bh.mp h1 j hb'] at W9;exact ma W9
 |false=>
  refine cL.mpr ?_
  have:∃j∈b,f.contains j=false:=by
   refine gX λhn=>?_
   have:b.all f.contains=true:=bh.mpr λj hj=>by
    cases hc:f.contains j with
    |true=>rfl
    |false=>exact (hn ⟨j,hj,hc⟩).elim
   rw[this] at h1;exact ma h1.symm
  refine l8 this λj hj hc=>?_;exact⟨j,(h j).mpr hj,by rw[zm hw (hb j hj),hc];rfl⟩
theorem Bu(hw:w=order.filter λk=>!f.contains k):qU need order f=(w.filter λk=>(need k).all f.contains).head?:=by
 unfold qU;rw[hw,gO];refine congrArg List.head? (g9 λk Z=>lm _ _)
theorem Ct(hw:w=order.filter λk=>!f.contains k){pre Ry:List Nat}(e:w=pre++k::Ry)(hp:∀x∈pre,(need x).all f.contains=false)(hk:(need k).all f.contains=true):qU need order f=some k:=by
 rw[Bu hw,e,cZ,cj.mpr λx hx=>by rw[hp x hx];exact bR,gq,dN,if_pos hk];rfl
theorem Cs(hw:w=order.filter λk=>!f.contains k)(hp:∀x∈w,(need x).all f.contains=false):qU need order f=none:=by
 rw[Bu hw,cj.mpr λx hx=>by rw[hp x hx];exact bR];rfl
theorem CV(hd:order.Nodup)(hw:w=order.filter λk=>!f.contains k){pre Ry:List Nat}(e:w=pre++k::Ry):pre++Ry=order.filter λj=>!(f++[k]).contains j:=by
 have hnd:w.Nodup:=by rw[hw];exact hd.sublist gw
 rw[e] at hnd;have h1:=bV.mp hnd;have h2:=bo.mp h1.2.1
 have:(order.filter λj=>!(f++[k]).contains j)=w.filter λj=>!(j==k):=by
  rw[hw,gO];refine g9 λj Z=>?_;rw[List.contains_append,Bool.not_or,lm];show (!(j==k||false)&&_)=_;rw[dm]
 rw[this,e,cZ,dN,if_neg (by rw[beq_self_eq_true];exact bR),gv.mpr λx hx=>by rw[beq_false_of_ne (h1.2.2 x hx k ax)];rfl,gv.mpr λx hx=>by rw[beq_false_of_ne λh=>h2.1 (by rw[<-h];exact hx)];rfl]
end
noncomputable def mk(base:Nat)(A:List (Nat×V))(l:List Nat):List (Nat×V):=l.foldl (λA j=>ng A (base+j) (.bool true)) A
theorem Ju{base:Nat}{f:List Nat}{i:Nat}:∀{A:List (Nat×V)},(mC (mk base A f) (base+i)).isSome=((mC A (base+i)).isSome||f.contains i):=by
 induction f with
 |nil=>intro A;exact (dm _).symm
 |cons a f ih=>
  intro A;show (mC (mk base (ng A (base+a) (.bool true)) f) (base+i)).isSome=_;rw[ih,oa]
  by_cases h:a=i
  .subst h;rw[if_pos rfl,bS,beq_self_eq_true];show (true||_)=_;rw[iF,dX]
  .rw[if_neg (QE h),bS,beq_false_of_ne (bJ h),fi]
theorem Jv{base:Nat}{f:List Nat}:∀{A:List (Nat×V)},(mk base A f).length<=A.length+f.length:=by
 induction f with
 |nil=>intro A;exact aN _
 |cons a f ih=>
  intro A;refine ac (ih (A:=ng A (base+a) (.bool true))) ?_;have:=yl A (base+a) (.bool true);show _<=A.length+(f.length+1);exact QD this
section
variable {P:Pg}
theorem uZ{a:MX}{q:Bool}(ha:dT P q C a ρ σ=.ok false σ):dT P q C (.and (.cons a es)) ρ σ=.ok false σ:=by
 show (dT P q C a ρ σ).bind (λt σ=>if t=true then dT P q C (.and es) ρ σ else R.ok false σ)=_;rw[ha];rfl
theorem Dg{L:Nat}{LD:List (Nat×V)}(h:σ[L]?=some (.dict LD)):∀(l:List (Nat×V)),u0 σ (.obj L) l=some (l.map λp=>(mC LD p.1).isSome)
 |[]=>rfl
 |p::l=>by
  show (uJ σ (.sym p.1) (.obj L)).bind (λt=>(u0 σ (.obj L) l).map (t::·))=_;rw[tH h,Dg h l];rfl
theorem yh:∀(l:List Bool),q8 (l.map .bool)=some l
 |[]=>rfl
 |b::l=>by
  show (q8 (l.map .bool)).map (b::·)=_;rw[yh l];rfl
theorem Ky{a L base:Nat}{l:List (Nat×V)}{nk w:List Nat}(hs:dE P false C Rt ρ σ=.ok (.obj a) σ)(ha:σ[a]?=some (.dict l))(h7:ρ[7]?.join=some (.obj L))(hL:σ[L]?=some (.dict (mk base [] w)))(hk:l.map (·.1)=nk.map (base+·))(hl:l.length < me):dT P false C (.bi .any (.inEach Rt 7)) ρ σ=.ok (nk.any w.contains) σ:=by
 have e:dE P false C (.inEach Rt 7) ρ σ=.ok (.lst ((l.map λp=>(mC (mk base [] w) p.1).isSome).map .bool)) σ:=by
  show (dE P false C Rt ρ σ).bind (DU 7 ρ)=_;rw[hs];show R.opt (dictAt σ a) (λl=>R.opt (ρ[7]?.join) λb=>R.opt (u0 σ b l) λbs=>gd (l.length < me) (R.ok (V.lst (bs.map .bool)) σ))=_;unfold dictAt;rw[ha];show R.opt (ρ[7]?.join) _=_;rw[h7];show R.opt (u0 σ (.obj L) l) _=_;rw[Dg hL];show gd (l.length < me) _=_;unfold gd;rw[if_pos hl]
 show ((dE P false C (.inEach Rt 7) ρ σ).bind (λv σ=>uI σ .any v)).bind (λv σ=>R.of (pe v) σ)=_;rw[e];show (R.of ((q8 ((l.map λp=>(mC (mk base [] w) p.1).isSome).map .bool)).map λbs=>V.bool (bs.any id)) σ).bind _=_;rw[yh];show R.ok ((l.map λp=>(mC (mk base [] w) p.1).isSome).any id) σ=_
 have:∀(l:List (Nat×V)) (nk:List Nat),l.map (·.1)=nk.map (base+·)->(l.map λp=>(mC (mk base [] w) p.1).isSome).any id=nk.any w.contains:=λl=>by
  induction l with
  |nil=>intro nk h;cases nk with
   |nil=>rfl
   |cons _ _=>exact nomatch h
  |cons p l ih=>intro nk h;cases nk with
   |nil=>exact nomatch h
   |cons k nk=>
    have h:=dp h;show ((mC (mk base [] w) p.1).isSome||_)=(w.contains k||nk.any w.contains);rw[<-ih nk h.2,show p.1=base+k from h.1,Ju];rfl
 rw[this l nk hk]
end
end
section
open L1
def Nd(base nE:Nat)(nl:Nat->List Nat)(order:List Nat)(σ:St):Prop:=∃NE,σ[nE]?=some (.dict NE)/\∀k∈order,∃a l,mC NE (base+k)=some (.obj a)/\σ[a]?=some (.dict l)/\l.map (·.1)=(nl k).map (base+·)/\l.length < me
noncomputable def HT:MS:=.a (.idx (.v 7) (.idx (.v 4) (.v 2))) (.lit (.bool true)) .skip
noncomputable def Fc:MX:=.and (.c2 (.cmp .lt (.v 8) (.bi .len (.v 6))) (.bi .any (.inEach (.idx (.v 3) (.idx (.idx (.v 6) (.v 8)) (.v 2))) 7)))
noncomputable def Ip:MS:=.q (.aug 8 (.i 1)) .skip
noncomputable def OU:MX:=.cmp .gt (.bi .len (.v 6)) (.i 0)
noncomputable def OT:MS:=.a (.v 7) (.dict [] .nil) (.q (.for (.v 4) (.v 6) HT) (.a (.v 8) (.i 0) (.q (.whl Fc Ip) (.f (.cmp .eq (.v 8) (.bi .len (.v 6))) (.z (.fstr 13 (.c1 (.idx (.x (.v 6) 0) (.v 2)))) (.x (.x (.v 6) 0) 1)) (.q (.expr (.bm .append (.v 5) (.c1 (.bm .pop1 (.v 6) (.c1 (.v 8)))))) .skip)))))
noncomputable abbrev oE(self its:V)(pl nE F W:Nat)(a b c:Option V):mc:=[some self,some its,some (.int pl),some (.obj nE),a,some (.obj F),some (.obj W),b,c]
structure Iv(base pl:Nat)(iv:Nat->V)(order:List Nat):Prop where
 name:∀{k:Nat} {σ:St},oM pg σ (iv k) (.int pl)=some (.sym (base+k))
 spot:∀{k:Nat},∃s,∀{σ:St},oM pg σ (iv k) (.int 1)=some (.int s)
 most:order.length<=10
section
variable {base pl:Nat}{iv:Nat->V}{self:V}{F W L:Nat}{C:Bool->Call}{w:List Nat}
theorem wf(I:Iv base pl iv order)(hw:w.length<=10)(Xi:W≠L):∀(Ry:List Nat) {pre:List Nat} {τ:St} {a c:Option V},w=pre++Ry->τ[W]?=some (.list (w.map iv))->τ[L]?=some (.dict (mk base [] pre))->
  WR (pR (.live W) (λv ρ σ=>R.opt (nA (.v 4) v ρ) λρ'=>dS pg C false HT ρ' σ) (Ry.length+1) pre.length (oE self its pl nE F W a (some (.obj L)) c) τ)
   (λp υ=>p.1=.next/\(∃a,p.2=oE self its pl nE F W a (some (.obj L)) c)/\υ[L]?=some (.dict (mk base [] w))/\(∀i,i≠L->υ[i]?=τ[i]?)/\υ.length=τ.length) λZ Z=>False
 |[],pre,τ,a,c,e,hW,hL=>un (by
   show (listAt τ W).map (λl=>l[pre.length]?)=_;rw[la hW];show some ((w.map iv)[pre.length]?)=some none
   rw[e,aT,cA (by rw[ay];exact aN _)]) ⟨rfl,⟨_,rfl⟩,by rw[e,aT];exact hL,λZ Z=>rfl,rfl⟩
 |k::Ry,pre,τ,a,c,e,hW,hL=>by
  have hk:w[pre.length]?=some k:=by rw[e,aI (aN _),bC];rfl
  refine q7 (v:=iv k) (by
   show (listAt τ W).map (λl=>l[pre.length]?)=_;rw[la hW];show some ((w.map iv)[pre.length]?)=_
   rw[cB,hk];rfl) (q0 (ρ':=oE self its pl nE F W (some (iv k)) (some (.obj L)) c) rfl (nG (v:=.bool true) rfl (rO (n:=L) (k:=base+k) (mE rfl) (nC (v:=iv k) (w:=.int pl) (mE rfl) (mE rfl) I.name) hL ?_) (mn (mh ?_))))
  .have:pre.length<=w.length:=by rw[e,ah];exact aA _ _
   exact aB (ac Jv (show 0+pre.length<=10 by exact QG hw this)) (by decide)
  have hl:L < τ.length:=(aq.mp hL).1;have ih:=wf I hw Xi Ry (pre:=pre++[k]) (τ:=τ.set L (.dict (ng (mk base [] pre) (base+k) (.bool true)))) (a:=some (iv k)) (c:=c) (by rw[ba];exact e) (by rw[aj (bJ Xi)];exact hW) (by rw[aF hl,show mk base [] (pre++[k])=ng (mk base [] pre) (base+k) (.bool true) from fB]);rw[ah] at ih;refine WR.mono ih (λp υ h=>⟨h.1,h.2.1,h.2.2.1,λi hi=>?_,?_⟩) λZ Z h=>h
  .rw[h.2.2.2.1 i hi,aj (bJ hi)]
  .rw[h.2.2.2.2,aV]
theorem wz{nl:Nat->List Nat}{σ:St}(I:Iv base pl iv order)(N:Nd base nE nl order σ)(hw:∀k∈w,k∈order){τ:St}(hs:nP σ τ)(hW:τ[W]?=some (.list (w.map iv)))(hL:τ[L]?=some (.dict (mk base [] w))){a:Option V}:∀(Ry:List Nat) {pre:List Nat} {m:Nat},w=pre++Ry->(∀x∈pre,(nl x).any w.contains=true)->
  WR (qg (dT pg false (C false) Fc) (dS pg C false Ip) (Ry.length+m+1) (oE self its pl nE F W a (some (.obj L)) (some (.int pre.length))) τ)
   (λp υ=>p.1=.next/\υ=τ/\∃Uw suf',p.2=oE self its pl nE F W a (some (.obj L)) (some (.int (Uw:List Nat).length))/\w=Uw++suf'/\(∀x∈Uw,(nl x).any w.contains=true)/\∀k s,suf'=k::s->(nl k).any w.contains=false) λZ Z=>False
 |[],pre,m,e,hp=>by
  have hl:((w.map iv).length:Int)=pre.length:=by rw[ay,e,aT]
  refine s5 (uZ (oo (v:=.int pre.length) (w:=.int (w.map iv).length) (mE rfl) (qq (mE rfl) hW) ?_)) ⟨rfl,rfl,pre,[],rfl,e,hp,λZ Z h=>nomatch h⟩;show some (decide ((pre.length:Int) < ((w.map iv).length:Int)))=some false;rw[hl,decide_eq_false (Int.lt_irrefl _)]
 |k::Ry,pre,m,e,hp=>by
  have hk:w[pre.length]?=some k:=by rw[e,aI (aN _),bC];rfl
  have Sz:k∈order:=hw k (bq hk);refine l8 N λNE Th hr=>?_;refine pH (hr k Sz) λad l h1 h2 h3 h4=>?_
  have e1:dE pg false (C false) (.idx (.v 3) (.idx (.idx (.v 6) (.v 8)) (.v 2))) (oE self its pl nE F W a (some (.obj L)) (some (.int pre.length))) τ=.ok (.obj ad) τ:=
   nC (v:=.obj nE) (w:=.sym (base+k)) (mE rfl) (nC (v:=iv k) (w:=.int pl) (nC (v:=.obj W) (w:=.int pre.length) (mE rfl) (mE rfl) (item_at hW (by rw[cB,hk];rfl))) (mE rfl) I.name) (tX (hs.at Th) h1)
  have e2:=Ky (base:=base) (w:=w) (nk:=nl k) (L:=L) e1 (hs.at h2) rfl hL h3 h4
  have hlt:(pre.length:Int) < ((w.map iv).length:Int):=by rw[ay,e,ah,cM];exact QF
  have e3:dT pg false (C false) Fc (oE self its pl nE F W a (some (.obj L)) (some (.int pre.length))) τ=.ok (true&&((nl k).any w.contains&&true)) τ:=qI (oo (v:=.int pre.length) (w:=.int (w.map iv).length) (mE rfl) (qq (mE rfl) hW) (congrArg some (decide_eq_true hlt))) (qI e2 rfl);rw[ls,fh] at e3
  cases hc:(nl k).any w.contains with
  |false=>
   rw[hc] at e3;exact s5 e3 ⟨rfl,rfl,pre,k::Ry,rfl,e,hp,λk' s h=>by rw[<-(dp h).1];exact hc⟩
  |true=>
   rw[hc] at e3;rw[show (k::Ry).length+m+1=(Ry.length+m+1)+1 by rw[cM];exact OP];refine v8 e3 (mw ?_);refine WR.val (a:=(.next,oE self its pl nE F W a (some (.obj L)) (some (.int ((pre.length:Int)+1))))) (σ:=τ) rfl (mh (mn (mh ?_)));have ih:=wz (a:=a) I ⟨NE,Th,hr⟩ hw hs hW hL Ry (pre:=pre++[k]) (m:=m) (by rw[ba];exact e) (λx hx=>(aH.mp hx).elim (hp x) λh=>by rw[au.mp h];exact hc);rw[ah] at ih;exact ih
end
end
section
open L1
theorem wy(k:Nat):pg.slen k<=1000:=by
 show (slens[k]?).getD 0<=1000
 cases e:slens[k]? with
 |none=>exact ce _
 |some n=>exact of_decide_eq_true (bh.mp (show slens.all (λn=>decide (n<=1000))=true by decide +kernel) n (bq e))
theorem FV{a:MX}(h:dE pg false C a ρ σ=.ok (.sym k) σ):dE pg false C (.fstr 13 (.c1 a)) ρ σ=.ok (.txt (13+(pg.slen k+0))) σ:=by
 have e:dF pg false C (.c1 a) ρ σ=.ok (pg.slen k+0) σ:=by
  show (dE pg false C a ρ σ).bind (λv σ=>EX pg v σ λk σ=>(dF pg false C .nil ρ σ).bind λn σ=>.ok (k+n) σ)=_;rw[h];show gd (pg.slen k<=1000) _=_;unfold gd;rw[if_pos (wy k)];rfl
 show (dF pg false C (.c1 a) ρ σ).bind (λk σ=>gd (13+k<=me) (.ok (V.txt (13+k)) σ))=_;rw[e];show gd (13+(pg.slen k+0)<=me) _=_;unfold gd;rw[if_pos];exact ac (aC (wy k) 13) (by decide)
theorem F8{r:List V}{x:V}(h:σ[n]?=some (.list (l++x::r))):sU σ .pop1 (.obj n) [.int l.length]=.ok x (σ.set n (.list (l++r))):=by
 show R.opt (listAt σ n) (λL=>gd (0<=(l.length:Int)) (R.opt (L[(l.length:Int).toNat]?) λv=>.ok v (σ.set n (.list (L.eraseIdx (l.length:Int).toNat)))))=_;rw[la h];show gd (0<=(l.length:Int)) _=_;unfold gd;rw[if_pos (bj _),show ((l.length:Int).toNat)=l.length from bU _,aI (aN _),bC,List.eraseIdx_append_of_length_le (aN _),bC];rfl
section
variable {base pl:Nat}{iv:Nat->V}{self:V}{F W:Nat}{C:Bool->Call}{nl:Nat->List Nat}
theorem yU(I:Iv base pl iv order)(N:Nd base nE nl order σ)(hn:∀k∈order,(∀j,j∈nl k↔j∈need k)/\∀j∈need k,j∈order)(hd:order.Nodup)(hF:σ.length<=F)(hW:σ.length<=W)(Uk:F≠W):
  ∀(n:Nat) {m:Nat} {f w:List Nat} {τ:St} {a b c:Option V},w.length=n->(w=order.filter λk=>!f.contains k)->τ[F]?=some (.list (f.map iv))->τ[W]?=some (.list (w.map iv))->nP σ τ->σ.length<=τ.length->f.length+n<=10->
  WR (qg (dT pg false (C false) OU) (dS pg C false OT) (n+m+1) (oE self its pl nE F W a b c) τ)
   (λp υ=>∃r,m8 need order n f=some r/\p.1=.next/\(∃a b c,p.2=oE self its pl nE F W a b c)/\υ[F]?=some (.list (r.map iv))/\nP σ υ/\σ.length<=υ.length) λZ Z=>m8 need order n f=none
 |0,m,f,w,τ,a,b,c,hl,hw,eF,eW,hs,Uz,hm=>s5 (oo (v:=.int (w.map iv).length) (w:=.int 0) (qq (mE rfl) eW) rfl (congrArg some (decide_eq_false (by rw[ay,hl];decide)))) ⟨f,rfl,rfl,⟨_,_,_,rfl⟩,eF,hs,Uz⟩
 |n+1,m,f,w,τ,a,b,c,hl,hw,eF,eW,hs,Uz,hm=>by
  have lF:F < τ.length:=(aq.mp eF).1;have lW:W < τ.length:=(aq.mp eW).1
  have Wi:∀k∈w,k∈order:=λk hk=>by rw[hw] at hk;exact (cC.mp hk).1
  rw[show n+1+m+1=(n+m+1)+1 by exact OP];refine v8 (oo (v:=.int (w.map iv).length) (w:=.int 0) (qq (mE rfl) eW) rfl (congrArg some (decide_eq_true (by rw[ay,hl];exact OE)))) ?_;refine mX (WR.val (a:=.obj τ.length) (σ:=τ++[.dict []]) rfl (WR.val (a:=oE self its pl nE F W a (some (.obj τ.length)) c) (σ:=τ++[.dict []]) rfl ?_));have VU:(τ++[O.dict []])[F]?=some (.list (f.map iv)):=(aJ lF).trans eF;have UL:(τ++[O.dict []])[W]?=some (.list (w.map iv)):=(aJ lW).trans eW
  have YA:(τ++[O.dict []])[τ.length]?=some (.dict (mk base [] [])):=by rw[aI (aN _),bC];rfl
  have UQ:nP σ (τ++[O.dict []]):=hs.push Uz
  have Vq:(It.live W).fuel (τ++[O.dict []])=w.length+1:=by
   show ((listAt (τ++[O.dict []]) W).map λl=>l.length+1).getD 0=_;rw[la UL];show (w.map iv).length+1=_;rw[ay]
  refine mw (qr rfl (WR.val (a:=.live W) (σ:=τ++[.dict []]) (by
   show R.opt (listAt (τ++[O.dict []]) W) (λZ=>R.ok (It.live W) (τ++[O.dict []]))=_
   rw[la UL];rfl) ?_))
  rw[Vq];refine WR.mono (wf (C:=C) (w:=w) (self:=self) (its:=its) (nE:=nE) (F:=F) (L:=τ.length) (a:=a) (c:=c) I (Lz hl hm) (aP lW) w (pre:=[]) rfl UL YA) (λp υ h=>?_) λZ Z h=>h.elim;obtain ⟨fl,ρ⟩:=p;refine sC h λh1 RV h3 h4 h5=>?_;obtain ⟨a1,h2⟩:=RV;have h1:fl=.next:=h1;have h2:ρ=_:=h2;subst h1;subst h2;have VD:υ[F]?=some (.list (f.map iv)):=(h4 F (aP lF)).trans VU;have UK:υ[W]?=some (.list (w.map iv)):=(h4 W (aP lW)).trans UL;have Ud:nP σ υ:=λi hi=>(h4 i (OO Uz hi)).trans (UQ i hi)
  have S4:υ.length=τ.length+1:=by rw[h5,ah];rfl
  refine mh (nG (v:=.int 0) (ρ':=oE self its pl nE F W a1 (some (.obj τ.length)) (some (.int ([]:List Nat).length))) rfl rfl (mw (v7 ?_)))
  have hwm:mU=w.length+(mU - w.length - 1)+1:=by
   have:mU=10000:=rfl;exact Ly hl hm this
  rw[hwm];refine WR.mono (wz (C:=C) (w:=w) (self:=self) (its:=its) (F:=F) (a:=a1) I N Wi Ud UK h3 w (pre:=[]) (m:=mU - w.length - 1) rfl (λx hx=>nomatch hx)) (λp φ h=>?_) λZ Z h=>h.elim;obtain ⟨fl,ρ⟩:=p;obtain ⟨g1,g2,pre,Ry,g3,g4,g5,g6⟩:=h;have g1:fl=.next:=g1;have g3:ρ=_:=g3;subst g1;subst g2;subst g3;have bl:∀{x:Nat},x∈w->(nl x).any w.contains=!(need x).all f.contains:=λ{x} hx=>F7 hw (hn x (Wi x hx)).1 (hn x (Wi x hx)).2
  have bp:∀x∈pre,(need x).all f.contains=false:=λx hx=>by
   have h1:=g5 x hx;rw[bl (by rw[g4];exact bD _ hx)] at h1
   cases hq:(need x).all f.contains with
   |false=>rfl
   |true=>rw[hq] at h1;exact ma h1
  refine mh ?_;have ht:dT pg false (C false) (.cmp .eq (.v 8) (.bi .len (.v 6))) (oE self its pl nE F W a1 (some (.obj τ.length)) (some (.int pre.length))) φ=.ok ((pre.length:Int)==((w.map iv).length:Nat)) φ:=oo (v:=.int pre.length) (w:=.int (w.map iv).length) (mE rfl) (qq (mE rfl) UK) rfl
  cases Ry with
  |nil=>
   have WL:m8 need order (n+1) f=none:=by
    show (qU need order f).bind _=none;rw[Cs hw (by rw[g4,aT];exact bp)];rfl
   rw[show ((pre.length:Int)==((w.map iv).length:Nat))=true by rw[ay,g4,aT];exact beq_self_eq_true _] at ht
   cases w with
   |nil=>exact nomatch hl
   |cons k0 w0=>
    have e0:dE pg false (C false) (.x (.v 6) 0) (oE self its pl nE F W a1 (some (.obj τ.length)) (some (.int pre.length))) φ=.ok (iv k0) φ:=nC (v:=.obj W) (w:=.int (0:Nat)) (mE rfl) rfl (item_at UK rfl);refine mF (I.spot (k:=k0)) λs XN=>?_;exact nH ht (mw (FY rfl (WR.val (FV (nC (v:=iv k0) (w:=.int pl) e0 (mE rfl) I.name)) (WR.val (nC e0 rfl XN) ⟨rfl,WL⟩))))
  |cons k Ry=>
   have hk:(need k).all f.contains=true:=by
    have h1:=g6 k Ry rfl;rw[bl (by rw[g4];exact bA _ ax)] at h1
    cases hq:(need k).all f.contains with
    |true=>rfl
    |false=>rw[hq] at h1;exact ma h1.symm
   have Vi:m8 need order (n+1) f=m8 need order n (f++[k]):=by
    show (qU need order f).bind _=_;rw[Ct hw g4 bp hk];rfl
   rw[show ((pre.length:Int)==((w.map iv).length:Nat))=false by
    refine beq_false_of_ne λh=>?_;have h:=lu h;rw[ay,g4,ah,cM] at h
    exact QJ h] at ht
   have WW:φ[W]?=some (.list (pre.map iv++iv k::Ry.map iv)):=by rw[UK,g4,bf];rfl
   have V9:W < φ.length:=OQ lW S4;have Yi:pre.map iv++Ry.map iv=(pre++Ry).map iv:=(bf).symm
   have hp1:sU φ .pop1 (.obj W) [.int pre.length]=.ok (iv k) (φ.set W (.list ((pre++Ry).map iv))):=by
    have:=F8 WW;rw[ay,Yi] at this;exact this
   have WX:(φ.set W (.list ((pre++Ry).map iv)))[F]?=some (.list (f.map iv)):=by rw[aj (bJ Uk)];exact VD
   refine mS ht (oZ (uU (WR.val (a:=.obj F) (σ:=φ) rfl ⟨A3 VD,mf (uU (WR.val (a:=.obj W) (σ:=φ) rfl ⟨A3 UK,WR.val (a:=[.int pre.length]) (σ:=φ) rfl (WR.val hp1 (mx (WR.val (wQ WX (by rw[ay];exact aB (show f.length<=10 by exact JB hm) (by decide))) (mn (mh ?_)))))⟩))⟩)))
   have hlen:(pre++Ry).length=n:=by
    rw[g4,ah,cM] at hl;rw[ah];exact QI hl
   rw[Vi];refine yU I N hn hd hF hW Uk n (f:=f++[k]) (w:=pre++Ry) hlen (CV hd hw g4) ?_ ?_ ((Ud.set hW).set hF) ?_ ?_
   .rw[aF (by rw[aV];exact OQ lF S4),bf];rfl
   .rw[aj Uk];exact aF V9
   .rw[aV,aV];exact QH Uz S4
   .rw[ah];show f.length+1+n<=10;exact OA hm
end
end
section
open L1
section
variable {P:Pg}{C:Bool->Call}{E:mc->St->Prop}{g:α->V}{ks:List α}{I:List α->mc->St->Prop}
theorem qO{it:It}{f:V->mc->St->R mc (Fl×mc)}(RP:∀(pre:List α) (ρ:mc) (σ:St),I pre ρ σ->∀i:Nat,it.at i σ=some ((ks.map g)[i]?))(h:∀(pre:List α) (k:α) (Ry:List α) (ρ:mc) (σ:St),ks=pre++k::Ry->I pre ρ σ->WR (f (g k) ρ σ) (λp σ=>p.1=.next/\I (pre++[k]) p.2 σ) E):
  ∀(Ry:List α) {pre:List α} {ρ:mc} {σ:St},ks=pre++Ry->I pre ρ σ->WR (pR it f (Ry.length+1) pre.length ρ σ) (λp σ=>p.1=.next/\I ks p.2 σ) E
 |[],pre,ρ,σ,e,hI=>un (by
   rw[RP pre ρ σ hI,cA (by rw[ay,e,aT];exact aN _)]) ⟨rfl,by rw[e,aT];exact hI⟩
 |k::Ry,pre,ρ,σ,e,hI=>by
  refine q7 (v:=g k) (by
   rw[RP pre ρ σ hI,e,cB,aI (aN _),bC];rfl) ((h pre k Ry ρ σ e hI).mono (λp τ hp=>?_) λZ Z h=>h)
  obtain ⟨fl,ρ'⟩:=p;have h1:fl=.next:=hp.1;subst h1;have ih:=qO RP h Ry (pre:=pre++[k]) (ρ:=ρ') (σ:=τ) (by rw[ba];exact e) hp.2;rw[ah] at ih;exact mh ih
theorem sM{it:MX}{b r:MS}{Q:Fl×mc->St->Prop}(hi:dI P false (C false) it ρ σ=.ok (.items (ks.map g)) σ)(h0:I [] ρ σ)(h:∀(pre:List α) (k:α) (Ry:List α) (ρ:mc) (σ:St),ks=pre++k::Ry->I pre ρ σ->WR (R.opt (nA t (g k) ρ) λρ'=>dS P C false b ρ' σ) (λp σ=>p.1=.next/\I (pre++[k]) p.2 σ) E)(hk:∀(ρ:mc) (σ:St),I ks ρ σ->WR (dS P C false r ρ σ) Q E):WR (dS P C false (.seq (.for t it b) r) ρ σ) Q E:=by
 refine mw (qr rfl (WR.mono (Q:=λi τ=>i=It.items (ks.map g)/\τ=σ) (E:=λZ Z=>False) (WR.val hi ⟨rfl,rfl⟩) (λi τ e=>?_) λZ Z h=>h.elim));rw[e.1,e.2];show WR (pR _ _ ((ks.map g).length+1) 0 ρ σ) _ E;rw[ay];refine (qO (pre:=[]) (λZ Z Z Z Z=>rfl) h ks rfl h0).mono (λp τ hp=>?_) λZ Z h=>h;obtain ⟨fl,ρ'⟩:=p;have h1:fl=.next:=hp.1;subst h1;exact mh (hk ρ' τ hp.2)
end
def Sq(σ:St)(v:V)(l:List V):Prop:=v=.lst l\/∃n,v=.obj n/\σ[n]?=some (.list l)
theorem Sq.it{v:V}(h:Sq σ v l):∃it,uD v σ=.ok it σ/\it.fuel σ=l.length+1/\∀τ,Sq τ v l->∀i:Nat,it.at i τ=some l[i]?:=by
 rcases h with h | ⟨n,h,e⟩
 .subst h;exact⟨.items l,rfl,rfl,λZ Z Z=>rfl⟩
 .subst h;refine⟨.live n,by show R.opt (listAt σ n) _=_;rw[la e];rfl,by show ((listAt σ n).map λl=>l.length+1).getD 0=_;rw[la e];rfl,λτ hτ i=>?_⟩
  rcases hτ with h | ⟨m,h,e⟩
  .exact nomatch h
  .cases h
   show (listAt τ n).map _=_;rw[la e];rfl
section
variable {P:Pg}{C:Bool->Call}{E:mc->St->Prop}{g:α->V}{ks:List α}{I:List α->mc->St->Prop}
theorem AX{v:V}{b r:MS}{Q:Fl×mc->St->Prop}(hj:ρ[j]?.join=some v)(hv:Sq σ v (ks.map g))(hI:∀pre ρ τ,I pre ρ τ->Sq τ v (ks.map g))(h0:I [] ρ σ)(h:∀(pre:List α) (k:α) (Ry:List α) (ρ:mc) (σ:St),ks=pre++k::Ry->I pre ρ σ->WR (R.opt (nA t (g k) ρ) λρ'=>dS P C false b ρ' σ) (λp σ=>p.1=.next/\I (pre++[k]) p.2 σ) E)(hk:∀(ρ:mc) (σ:St),I ks ρ σ->WR (dS P C false r ρ σ) Q E):WR (dS P C false (.seq (.for t (.v j) b) r) ρ σ) Q E:=by
 refine mM hv.it λit h1 h2 h3=>?_;refine mw (qr rfl (WR.val (a:=it) (σ:=σ) ?_ ?_))
 .show (dE P false (C false) (.v j) ρ σ).bind uD=_;rw[mE hj];exact h1
 .rw[h2,ay];refine (qO (pre:=[]) (λpre ρ τ hp i=>h3 τ (hI pre ρ τ hp) i) h ks rfl h0).mono (λp τ hp=>?_) λZ Z h=>h;obtain ⟨fl,ρ'⟩:=p;have h1:fl=.next:=hp.1;subst h1;exact mh (hk ρ' τ hp.2)
end
theorem Q8{P:Pg}{UX:mc}{RY:St}{s:MX}{x y:V}(h:dA P false C s x ρ σ=.ok ρ' σ')(k:dA P false C t y ρ' σ'=.ok UX RY):dA P false C (.tup (.c2 s t)) (.tup [x,y]) ρ σ=.ok UX RY:=by
 show (dA P false C s x ρ σ).bind (λρ σ=>(dA P false C t y ρ σ).bind λρ σ=>.ok ρ σ)=_;rw[h];show (dA P false C t y ρ' σ').bind _=_;rw[k];rfl
def Fx(N nE:Nat)(σ τ:St):Prop:=σ.length<=τ.length/\∀i,i < σ.length->(i < N\/N+10 < i)->i≠nE->τ[i]?=σ[i]?
theorem Fx.trans{υ:St}(h:Fx N nE σ τ)(k:Fx N nE τ υ):Fx N nE σ υ:=⟨ac h.1 k.1,λi hi h1 h2=>(k.2 i (ao hi h.1) h1 h2).trans (h.2 i hi h1 h2)⟩
theorem Fx.at(h:Fx N nE σ τ){i:Nat}{o:O}(e:σ[i]?=some o)(h1:i < N\/N+10 < i)(h2:i≠nE):τ[i]?=some o:=(h.2 i (aq.mp e).1 h1 h2).trans e
theorem Fx.set(h:Fx N nE σ τ){o:O}(hn:n=nE\/N<=n/\n<=N+10):Fx N nE σ (τ.set n o):=⟨by rw[aV];exact h.1,λi hi h1 h2=>(aj (Mg hn h1 h2)).trans (h.2 i hi h1 h2)⟩
theorem Fx.refl(σ:St):Fx N nE σ σ:=⟨aN _,λZ Z Z Z=>rfl⟩
section
variable {X:Kx}
theorem KH.set(K:KH X σ)(Sx:X.sc=[.obj (X.N+4)]){o:O}(hn:n=X.N+8\/X.N+10 < n):KH X (σ.set n o):=by
 have a:∀{i:Nat} {o':O},i < X.N+8\/i=X.N+9->σ[i]?=some o'->(σ.set n o)[i]?=some o':=λhi e=>by rw[aj (Mf hn hi)];exact e
 exact⟨a (.inl (Me)) K.k,a (.inl (Md)) K.ki,a (.inl (Mc)) K.n,a (.inl (Mb)) K.ni,a (.inl (Ma)) K.s0,a (.inl (L9)) K.sc,a (.inl (L8)) K.pr,a (.inr rfl) K.ag,K.ha,K.hc,K.ne,K.lo,.inl Sx⟩
theorem fresh{C:Bool->Call}{r:MS}{Q:Fl×mc->St->Prop}{E:mc->St->Prop}(K:KH X σ)(Sx:X.sc=[.obj (X.N+4)])(h0:ρ[0]?.join=some (.obj (X.N+1)))(hE:X.N+10 < nE/\nE < σ.length)(h:∀τ,KH {X with na:=σ.length,nc:=σ.length+1} τ->Ft {X with na:=σ.length,nc:=σ.length+1} [] [] τ τ->Fx X.N nE σ τ->τ.length=σ.length+2->τ[X.N+8]?=σ[X.N+8]?->τ[nE]?=σ[nE]?->WR (dS pg C false r ρ τ) Q E):
  WR (dS pg C false (.a (.tup (.c2 (.attr (.attr (.v 0) 129) 32) (.attr (.v 0) 45))) (.tup (.c2 (.dict [] .nil) (.dict [] .nil))) r) ρ σ) Q E:=by
 have l9:X.N+9 < σ.length:=(aq.mp K.ag).1;have e1:(σ++[O.dict []])++[O.dict []]=σ++[O.dict [],O.dict []]:=ba _ _ _
 have l1:(σ++[O.dict []]).length=σ.length+1:=by rw[ah];rfl
 have l2:(σ++[O.dict [],O.dict []]).length=σ.length+2:=by rw[ah];rfl
 generalize hσ1:σ++[O.dict [],O.dict []]=σ1 at *
 have s1:nP σ σ1:=λi hi=>by rw[<-hσ1];exact aJ hi
 have a1:σ1[σ.length]?=some (.dict []):=by rw[<-hσ1,aI (aN _),bC];rfl
 have c1:σ1[σ.length+1]?=some (.dict []):=by rw[<-hσ1,aI (JE),show σ.length+1 - σ.length=1 by exact L7];rfl
 have K1:=K.same s1;generalize hσ2:σ1.set (X.N+2) (.dict [(162,.obj (X.N+5)),(32,.obj σ.length)])=σ2
 have o2:∀i,i≠X.N+2->σ2[i]?=σ1[i]?:=λi hi=>by rw[<-hσ2,aj (bJ hi)]
 generalize hσ3:σ2.set X.N (.dict [(129,.obj (X.N+3)),(149,.obj (X.N+7)),(34,.obj (X.N+8)),(37,.obj (X.N+9)),(107,.bool false),(45,.obj (σ.length+1))])=σ3
 have o3:∀i,i≠X.N->i≠X.N+2->σ3[i]?=σ1[i]?:=λi h1 h2=>by rw[<-hσ3,aj (bJ h1)];exact o2 i h2
 have l3:σ3.length=σ.length+2:=by rw[<-hσ3,aV,<-hσ2,aV];exact l2
 refine mX (nN (mf (WR.val (a:=.obj σ.length) (σ:=σ++[.dict []]) rfl (mf (WR.val (a:=.obj (σ.length+1)) (σ:=σ1) ?_ (mx ⟨rfl,WR.val (a:=ρ) (σ:=σ3) (Q8 (ρ':=ρ) (σ':=σ2) ?_ ?_) (h σ3 ?_ ?_ ?_ l3 ?_ ?_)⟩))))))
 .show R.ok (V.obj (σ++[O.dict []]).length) ((σ++[O.dict []])++[O.dict []])=_;rw[l1,e1]
 .rw[<-hσ2];exact Iw (oB (mE h0) K1.ki K1.k rfl) K1.ni K1.n (show 2 < me by decide)
 .rw[<-hσ3];exact Iw (l:=[(129,.obj (X.N+3)),(149,.obj (X.N+7)),(34,.obj (X.N+8)),(37,.obj (X.N+9)),(107,.bool false),(45,.obj X.nc)]) (mE h0) ((o2 _ (JC)).trans K1.ki) ((o2 _ (JD)).trans K1.k) (show 6 < me by decide)
 .have XC:σ1.length=σ.length+2:=l2;refine⟨?_,(o3 _ (by show X.N+1≠_;exact L6) (by show X.N+1≠_;exact JC)).trans K1.ki,?_,(o3 _ (by show X.N+3≠_;exact L5) (by show X.N+3≠_;exact L4)).trans K1.ni,(o3 _ (by show X.N+4≠_;exact L0) (by show X.N+4≠_;exact LZ)).trans K1.s0,(o3 _ (by show X.N+5≠_;exact LY) (by show X.N+5≠_;exact LX)).trans K1.sc,(o3 _ (by show X.N+7≠_;exact LW) (by show X.N+7≠_;exact LV)).trans K1.pr,(o3 _ (by show X.N+9≠_;exact LU) (by show X.N+9≠_;exact LR)).trans K1.ag,λi hi Z=>by show σ.length≠X.N+i;exact LQ l9 hi,λi hi Z=>by show σ.length+1≠X.N+i;exact LP l9 hi,by show σ.length≠σ.length+1;exact GJ,⟨by show X.N<=σ.length;exact LO l9,by show X.N<=σ.length+1;exact LN l9⟩,.inl Sx⟩
  .show σ3[X.N]?=_;rw[<-hσ3];exact aF (by rw[<-hσ2,aV];exact LM l9 l2)
  .show σ3[X.N+2]?=_;rw[<-hσ3,aj (JD),<-hσ2];exact aF (LL l9 l2)
 .refine⟨aN _,λZ Z Z Z=>rfl,?_,?_,.nil,.nil⟩
  .exact (o3 _ (by show σ.length≠_;exact LK l9) (by show σ.length≠_;exact LJ l9)).trans a1
  .exact (o3 _ (by show σ.length+1≠_;exact LI l9) (by show σ.length+1≠_;exact LH l9)).trans c1
 .exact⟨JF l3,λi hi h1 Z=>(o3 i (h1.elim aP (λh=>aY (aB (aA _ _) h))) (h1.elim (λh=>aP (ao h (aA _ _))) (λh=>aY (aB (aC (by decide) _) h)))).trans (s1 i hi)⟩
 .exact (o3 _ (LG) (LF)).trans (s1 _ (LC l9))
 .exact (o3 _ (LB hE) (LA hE)).trans (s1 _ hE.2)
end
end
section
open L1
noncomputable def JN:MS:=.q (.iff (.cmp .eq (.v 2) (.i 2)) (.a (.idx (.attr (.v 0) 34) (.x (.v 4) 2)) (.tup (.c2 (.attr (.attr (.v 0) 129) 32) (.attr (.v 0) 45))) (.a (.idx (.v 3) (.x (.v 4) 2)) (.attr (.v 0) 45) .skip)) (.a (.idx (.v 3) (.x (.v 4) 3)) (.u 33 .nil) .skip)) .skip
noncomputable def OV:MS:=.a (.tup (.c2 (.attr (.attr (.v 0) 129) 32) (.attr (.v 0) 45))) (.tup (.c2 (.dict [] .nil) (.dict [] .nil))) (.q (.expr (.u 51 (.c1 (.v 4)))) (.f (.and (.c2 (.cmp .eq (.v 2) (.i 3)) (.cmp .isin (.x (.v 4) 3) (.attr (.v 0) 37)))) (.q (.expr (.u 111 (.c1 (.x (.idx (.attr (.v 0) 37) (.x (.v 4) 3)) 3)))) .skip) JN))
noncomputable abbrev pE(self its:V)(pl nE:Nat)(a:Option V):mc:=[some self,some its,some (.int pl),some (.obj nE),a,none,none,none,none]
theorem IC{P:Pg}(h:dL P false C es ρ σ=.ok l σ)(hl:decide (l.length<=me)=true):dE P false C (.tup es) ρ σ=.ok (.tup l) σ:=by
 show (dL P false C es ρ σ).bind (λl σ=>gd (l.length<=me) (.ok (V.tup l) σ))=_;rw[h];show gd (l.length<=me) _=_;unfold gd;rw[if_pos (of_decide_eq_true hl)]
theorem Us.Kd.na{X:Kx}{u:Us}{v:V}{a c:Nat}(h:u.Kd X v):u.Kd {X with na:=a,nc:=c} v:=by cases u<;>exact h
theorem Pd.Kd.na{X:Kx}{p:Pd}{a c:Nat}(h:p.Kd X):p.Kd {X with na:=a,nc:=c}:=⟨h.1.elim λv h=>⟨v,h.na⟩,h.2⟩
theorem Ft.set{X:Kx}{A C:List (Nat×V)}(G:Ft X A C σ σ){o:O}(h1:n≠X.na)(h2:n≠X.nc):Ft X A C (σ.set n o) (σ.set n o):=⟨aN _,λZ Z Z Z=>rfl,(aj h1).trans G.a,(aj h2).trans G.c,G.ka,G.kc⟩
theorem Ft.same{X:Kx}{A C:List (Nat×V)}(G:Ft X A C σ σ)(h:nP σ τ):Ft X A C τ τ:=⟨aN _,λZ Z Z Z=>rfl,h.at G.a,h.at G.c,G.ka,G.kc⟩
def KX(X:Kx)(σ:St):Prop:=∃a c,KH {X with na:=a,nc:=c} σ/\∃A C,Ft {X with na:=a,nc:=c} A C σ σ
theorem KX.same{X:Kx}(h:KX X σ)(k:nP σ τ):KX X τ:=h.elim λa h=>h.elim λc h=>⟨a,c,h.1.same k,h.2.elim λA h=>h.elim λC h=>⟨A,C,h.same k⟩⟩
structure PI(X:Kx)(Pk:Nat->Pd)(nE:Nat)(SM:St)(dn:List Nat)(σ:St):Prop where
 kh:KX X σ
 fx:Fx X.N nE SM σ
 lo:X.N+10 < nE
 rc:∃AS NE,σ[X.N+8]?=some (.dict AS)/\σ[nE]?=some (.dict NE)/\ow 140 143 AS/\ow 140 143 NE/\∀k∈dn,∃a c,mC AS (140+k)=some (.tup [.obj a,.obj c])/\mC NE (140+k)=some (.obj c)/\σ[a]?=some (.dict (ask [] (Pk k).u.asks))/\σ[c]?=some (.dict (rK [] (Pk k).c.toList))/\nE < a/\nE < c
section
variable {X:Kx}{SM:St}{dn:List Nat}
theorem E2(hp:mC X.PR 114=none)(Sx:X.sc=[.obj (X.N+4)])(hP:(Pk k).Kd X)(hk:k < 3)(h:PI X Pk nE SM dn σ):
  WR (dS pg (mu pg (d+10)) false OV (pE (.obj (X.N+1)) its 2 nE (some ((Pk k).item k))) σ) (λp τ=>p.1=.next/\(∃a,p.2=pE (.obj (X.N+1)) its 2 nE a)/\PI X Pk nE SM (dn++[k]) τ) λZ Z=>False:=by
 obtain ⟨⟨na,nc,K,_⟩,fx,lo,AS,NE,Ul,Th,kAS,kNE,rc⟩:=h;have lE:nE < σ.length:=(aq.mp Th).1;refine fresh (X:={X with na:=na,nc:=nc}) (nE:=nE) K Sx rfl ⟨lo,lE⟩ λτ (K2:KH {X with na:=σ.length,nc:=σ.length+1} τ) (G2:Ft {X with na:=σ.length,nc:=σ.length+1} [] [] τ τ) (f2:Fx X.N nE σ τ) l2 (e8:τ[X.N+8]?=σ[X.N+8]?) eE=>?_;refine oZ (nM (mE rfl) K2.ki K2.k rfl rfl (WR.val (a:=[(Pk k).item k]) (σ:=τ) rfl ((B5 (d:=d) (X:={X with na:=σ.length,nc:=σ.length+1}) hp Sx hP.na K2 G2).mono (λv υ (G3:Ft {X with na:=σ.length,nc:=σ.length+1} (ask [] (Pk k).u.asks) (rK [] (Pk k).c.toList) τ υ)=>?_) λZ Z h=>h)));have K3:KH {X with na:=σ.length,nc:=σ.length+1} υ:=K2.ft G3
 have N8:X.N+8 < τ.length:=by rw[l2];exact Mm lo lE
 have h8:υ[X.N+8]?=some (.dict AS):=(G3.fr _ N8 (by show X.N+8≠σ.length;exact Ek lo lE) (by show X.N+8≠σ.length+1;exact Ej lo lE)).trans (e8.trans Ul);have hE:υ[nE]?=some (.dict NE):=(G3.fr _ (HY lE l2) (by show nE≠σ.length;exact zX lE) (by show nE≠σ.length+1;exact xg lE)).trans (eE.trans Th);have ea:υ[σ.length]?=some (.dict (ask [] (Pk k).u.asks)):=G3.a;have ec:υ[σ.length+1]?=some (.dict (rK [] (Pk k).c.toList)):=G3.c;refine mS (uZ rfl) (nH rfl ?_);refine nG (v:=.tup [.obj σ.length,.obj (σ.length+1)]) (IC (s4 (oB (oB (mE rfl) K3.ki K3.k rfl) K3.ni K3.n rfl) (s4 (oB (mE rfl) K3.ki K3.k rfl) rfl)) rfl) (rO (n:=X.N+8) (k:=140+k) (oB (mE rfl) K3.ki K3.k rfl) rfl h8 (aB kAS.len (by decide))) ?_;have K4:=K3.set Sx (n:=X.N+8) (o:=.dict (ng AS (140+k) (.tup [.obj σ.length,.obj (σ.length+1)]))) (.inl rfl)
 have hE4:(υ.set (X.N+8) (.dict (ng AS (140+k) (.tup [.obj σ.length,.obj (σ.length+1)]))))[nE]?=some (.dict NE):=by rw[aj (Ml lo)];exact hE
 refine nG (v:=.obj (σ.length+1)) (oB (mE rfl) K4.ki K4.k rfl) (rO (n:=nE) (k:=140+k) (mE rfl) rfl hE4 (aB kNE.len (by decide))) (mn (mh (mn ⟨rfl,⟨_,rfl⟩,⟨σ.length,σ.length+1,K4.set Sx (.inr lo),_,_,(G3.self.set (by show X.N+8≠σ.length;exact Ek lo lE) (by show X.N+8≠σ.length+1;exact Ej lo lE)).set (by show nE≠σ.length;exact zX lE) (by show nE≠σ.length+1;exact xg lE)⟩,?_,lo,ng AS (140+k) (.tup [.obj σ.length,.obj (σ.length+1)]),ng NE (140+k) (.obj (σ.length+1)),?_,?_,kAS.set (JG hk),kNE.set (JG hk),?_⟩)))
 .have fu:Fx X.N nE σ υ:=⟨ac f2.1 G3.len,λi hi h1 h2=>(G3.fr i (ao hi f2.1) (aP hi) (by show i≠σ.length+1;exact xg hi)).trans (f2.2 i hi h1 h2)⟩;exact fx.trans (Fx.set (Fx.set fu (.inr ⟨Mk,Mj⟩)) (.inl rfl))
 .rw[aj (HX lo)];exact aF (by have:=G3.len;exact Mi lo lE l2 this)
 .exact aF (by have:=G3.len;rw[aV];exact HW lE l2 this)
 .intro j hj
  have keep:∀{i:Nat} {o:O},i≠X.N+8->i≠nE->υ[i]?=some o->((υ.set (X.N+8) (.dict (ng AS (140+k) (.tup [.obj σ.length,.obj (σ.length+1)])))).set nE (.dict (ng NE (140+k) (.obj (σ.length+1)))))[i]?=some o:=λh1 h2 e=>by rw[aj (bJ h2),aj (bJ h1)];exact e
  by_cases hjk:j=k
  .subst hjk;exact⟨σ.length,σ.length+1,by rw[oa,if_pos rfl],by rw[oa,if_pos rfl],keep (Eh lo lE) (Ce lE) ea,keep (Mh lo lE) (Ow lE) ec,lE,OF lE⟩
  .have hj:j∈dn:=(aH.mp hj).resolve_right λh=>hjk (au.mp h);refine pq (rc j hj) λa c r1 r2 r3 r4 r5 r6=>?_
   have old:∀{i:Nat} {o:O},nE < i->σ[i]?=some o->υ[i]?=some o:=λ{i o} hi e=>by
    have hl:=(aq.mp e).1;exact (G3.fr i (Ei l2 hl) (aP hl) (by show i≠σ.length+1;exact xg hl)).trans (f2.at e (.inr (Bl lo hi)) (Ce hi))
   exact⟨a,c,by rw[oa,if_neg (HV hjk)];exact r1,by rw[oa,if_neg (HV hjk)];exact r2,keep (Eh lo r5) (Ce r5) (old r5 r3),keep (Eh lo r6) (Ce r6) (old r6 r4),r5,r6⟩
end
end
section
open L1
namespace Dc
noncomputable def co:Dc->Option Nat
 |.call n _=>some n
 |_=>none
noncomputable def ag(k:Nat):Dc->Option V
 |.late u w=>some ((Dc.late u w).lateV k)
 |_=>none
theorem calls_co(D:Dc):D.calls=D.co.toList:=by cases D<;>rfl
theorem Kd.na{X:Kx}{s:Nat}{D:Dc}{a c:Nat}(h:D.Kd X s):D.Kd {X with na:=a,nc:=c} s:=by
 cases D with
 |sized u=>exact Us.Kd.na h
 |call n u=>exact⟨h.1,h.2.1,h.2.2.elim λv h=>⟨v,h.na⟩⟩
 |val u w=>exact⟨h.1,h.2.elim λv h=>h.elim λv' h=>⟨v,v',h.1.na,h.2.1.na,h.2.2⟩⟩
 |late u w=>exact⟨h.1,h.2.elim λv h=>h.elim λv' h=>⟨v,v',h.1.na,h.2.1.na,h.2.2⟩⟩
end Dc
noncomputable def rF(Pk:Nat->Pd)(np:Nat)(D:Dc):List Nat:=vU (λi=>(Pk i).c) (np+1) [] D.co
noncomputable def uu(Pk:Nat->Pd)(np:Nat)(D:Dc):List (Nat×V):=upd Pk (ask [] D.asks) (rF Pk np D)
def Ks(X:Kx)(Pk:Nat->Pd)(np nE:Nat)(σ:St):Prop:=∃AS,σ[X.N+8]?=some (.dict AS)/\∀i,i < np->∃a c,mC AS (140+i)=some (.tup [.obj a,.obj c])/\σ[a]?=some (.dict (ask [] (Pk i).u.asks))/\σ[c]?=some (.dict (rK [] (Pk i).c.toList))/\X.N+10 < a/\X.N+10 < c/\a < nE/\c < nE
structure DI(X:Kx)(Pk:Nat->Pd)(Dk:Nat->Dc)(np nE:Nat)(SM:St)(dn:List Nat)(σ:St):Prop where
 kh:KX X σ
 fx:Fx X.N nE SM σ
 lo:X.N+10 < nE
 as:Ks X Pk np nE σ
 rc:∃NE,σ[nE]?=some (.dict NE)/\ow 62 68 NE/\∀k∈dn,∃a,mC NE (62+k)=some (.obj a)/\σ[a]?=some (.dict (uu Pk np (Dk k)))/\nE < a
section
variable {X:Kx}{Dk:Nat->Dc}{np s:Nat}{SM:St}{dn:List Nat}
theorem B9{υ:St}{na nc:Nat}{D:Dc}{Q:Fl×mc->St->Prop}(hp:mC X.PR 114=none)(hD:D.Kd X s)(Uj:mC X.AG (62+k)=D.ag k)(K2:KH {X with na:=na,nc:=nc} τ)(G:Ft {X with na:=na,nc:=nc} (ask [] D.asksV) (rK [] D.calls) τ υ)(h:∀ω,Ft {X with na:=na,nc:=nc} (ask [] D.asks) (rK [] D.co.toList) τ ω->WR (dS pg (mu pg (d+10)) false JN (pE (.obj (X.N+1)) its 3 nE (some (D.item k s))) ω) Q λZ Z=>False):
  WR (dS pg (mu pg (d+10)) false (.f (.and (.c2 (.cmp .eq (.v 2) (.i 3)) (.cmp .isin (.x (.v 4) 3) (.attr (.v 0) 37)))) (.q (.expr (.u 111 (.c1 (.x (.idx (.attr (.v 0) 37) (.x (.v 4) 3)) 3)))) .skip) JN) (pE (.obj (X.N+1)) its 3 nE (some (D.item k s))) υ) Q λZ Z=>False:=by
 have K3:KH {X with na:=na,nc:=nc} υ:=K2.ft G
 have ht:dT pg false (mu pg (d+10) false) (.and (.c2 (.cmp .eq (.v 2) (.i 3)) (.cmp .isin (.x (.v 4) 3) (.attr (.v 0) 37)))) (pE (.obj (X.N+1)) its 3 nE (some (D.item k s))) υ=.ok (D.ag k).isSome υ:=by
  have e2:dT pg false (mu pg (d+10) false) (.cmp .isin (.x (.v 4) 3) (.attr (.v 0) 37)) (pE (.obj (X.N+1)) its 3 nE (some (D.item k s))) υ=.ok (D.ag k).isSome υ:=vS (k:=62+k) (n:=X.N+9) rfl (oB (mE rfl) K3.ki K3.k rfl) K3.ag (by rw[Uj]);have:=qI (P:=pg) (q:=false) (C:=mu pg (d+10) false) (a:=.cmp .eq (.v 2) (.i 3)) (x:=true) (σ:=υ) (ρ:=pE (.obj (X.N+1)) its 3 nE (some (D.item k s))) rfl (qI e2 (show dT pg false (mu pg (d+10) false) (.and .nil) (pE (.obj (X.N+1)) its 3 nE (some (D.item k s))) υ=.ok true υ from rfl));rw[ls,fh] at this;exact this
 cases D with
 |late u w=>
  refine oJ hD λUJ v v' hu hw Vo=>?_;refine mM (At (X:={X with na:=na,nc:=nc}) hp hu.na hw.na) λa h1 h2 h3=>?_;refine nH ht (oZ (nM (mE rfl) K3.ki K3.k rfl rfl (mf (WR.val (nC (w:=.int (3:Nat)) (nC (w:=.sym (62+k)) (oB (mE rfl) K3.ki K3.k rfl) rfl (tX K3.ag Uj)) rfl rfl) (mx (((h3.le (by decide:5<=10)).run (d:=d) K2 G).mono (λx ω h'=>mn (mh (h ω h'.2))) λZ Z h=>h))))))
 |sized u=>exact mS ht (h υ G)
 |call n u=>exact mS ht (h υ G)
 |val u w=>exact mS ht (h υ G)
theorem Dw(hp:mC X.PR 114=none)(Sx:X.sc=[.obj (X.N+4)])(hs:x6 s)(hD:(Dk k).Kd X s)(Uj:mC X.AG (62+k)=(Dk k).ag k)(hk:k < 6)(hn:np<=3)(hP:∀i,i < np->(∀j∈(Pk i).u.asks,j < 6)/\∀j,(Pk i).c=some j->j < np)(hco:∀i,(Dk k).co=some i->i < np)(h:DI X Pk Dk np nE SM dn σ):
  WR (dS pg (mu pg (d+10)) false OV (pE (.obj (X.N+1)) its 3 nE (some ((Dk k).item k s))) σ) (λp τ=>p.1=.next/\(∃a,p.2=pE (.obj (X.N+1)) its 3 nE a)/\DI X Pk Dk np nE SM (dn++[k]) τ) λZ Z=>False:=by
 obtain ⟨⟨na,nc,K,_⟩,fx,lo,⟨AS,Ul,hrc⟩,NE,Th,kNE,rc⟩:=h;have lE:nE < σ.length:=(aq.mp Th).1;refine fresh (X:={X with na:=na,nc:=nc}) (nE:=nE) K Sx rfl ⟨lo,lE⟩ λτ (K2:KH {X with na:=σ.length,nc:=σ.length+1} τ) (G2:Ft {X with na:=σ.length,nc:=σ.length+1} [] [] τ τ) (f2:Fx X.N nE σ τ) l2 (e8:τ[X.N+8]?=σ[X.N+8]?) eE=>?_;refine oZ (nM (mE rfl) K2.ki K2.k rfl rfl (WR.val (a:=[(Dk k).item k s]) (σ:=τ) rfl ((B3 (d:=d+1) (X:={X with na:=σ.length,nc:=σ.length+1}) hs hp hD.na K2 G2).mono (λv υ G3=>?_) λZ Z h=>h)));refine B9 hp hD Uj K2 G3 λω (G4:Ft {X with na:=σ.length,nc:=σ.length+1} (ask [] (Dk k).asks) (rK [] (Dk k).co.toList) τ ω)=>?_;have K4:KH {X with na:=σ.length,nc:=σ.length+1} ω:=K2.ft G4;have lω:=G4.len
 have old:∀{i:Nat} {o:O},X.N+10 < i->i≠nE->σ[i]?=some o->ω[i]?=some o:=λ{i o} hi hne e=>by
  have hl:=(aq.mp e).1;exact (G4.fr i (Ei l2 hl) (aP hl) (by show i≠σ.length+1;exact xg hl)).trans (f2.at e (.inr hi) hne)
 have h8:ω[X.N+8]?=some (.dict AS):=(G4.fr _ (Ms lo lE l2) (by show X.N+8≠σ.length;exact Ek lo lE) (by show X.N+8≠σ.length+1;exact Ej lo lE)).trans (e8.trans Ul);have hE:ω[nE]?=some (.dict NE):=(G4.fr _ (HY lE l2) (by show nE≠σ.length;exact zX lE) (by show nE≠σ.length+1;exact xg lE)).trans (eE.trans Th)
 have rcω:Ks X Pk np nE ω:=⟨AS,h8,λi hi=>by
  refine sg (hrc i hi) λa c r1 r2 r3 r4 r5 r6 r7=>?_
  exact⟨a,c,r1,old r4 (aP r6) r2,old r5 (aP r7) r3,r4,r5,r6,r7⟩⟩
 have hR:Rc {X with na:=σ.length,nc:=σ.length+1} Pk np ω:=rcω.elim λAS h=>⟨AS,h.1,λi hi=>(h.2 i hi).elim λa h=>h.elim λc h=>⟨a,c,h.1,h.2.1,h.2.2.1⟩⟩;refine qD rfl (mX (nM (mE rfl) K4.ki K4.k rfl rfl (WR.val (a:=[]) (σ:=ω) rfl ((AP (d:=d+9) (o:=(Dk k).co) K4 hR hn hP G4.a G4.c hco G4.ka).mono (λv ψ h=>?_) λZ Z h=>h))));refine vx h λh1 h2 h3 h4=>?_;subst h1;have eE5:ψ[nE]?=some (.dict NE):=h3.at hE;have K5:KH {X with na:=σ.length,nc:=σ.length+1} ψ:=K4.same h3;refine WR.val (rO (n:=nE) (k:=62+k) (mE rfl) rfl eE5 (aB kNE.len (by decide))) (mn (mh (mn ⟨rfl,⟨_,rfl⟩,⟨σ.length,σ.length+1,K5.set Sx (.inr lo),_,_,(G4.self.same h3).set (by show nE≠σ.length;exact zX lE) (by show nE≠σ.length+1;exact xg lE)⟩,?_,lo,?_,ng NE (62+k) (.obj ω.length),?_,kNE.set (OK hk),?_⟩)))
 .have fu:Fx X.N nE σ ψ:=⟨Mr l2 lω h4,λi hi h1 h2=>(h3 i (Mq l2 lω hi)).trans ((G4.fr i (Ei l2 hi) (aP hi) (by show i≠σ.length+1;exact xg hi)).trans (f2.2 i hi h1 h2))⟩;exact fx.trans (Fx.set fu (.inl rfl))
 .refine l8 rcω λYJ r0 hr=>?_;refine⟨YJ,by rw[aj (HX lo)];exact h3.at r0,λi hi=>?_⟩;refine sg (hr i hi) λa c r1 r2 r3 r4 r5 r6 r7=>?_;exact⟨a,c,r1,by rw[aj (bJ (aP r6))];exact h3.at r2,by rw[aj (bJ (aP r7))];exact h3.at r3,r4,r5,r6,r7⟩
 .exact aF (Mp lE l2 lω h4)
 .intro j hj
  by_cases hjk:j=k
  .subst hjk;exact⟨ω.length,by rw[oa,if_pos rfl],by rw[aj (Mo lE l2 lω)];exact h2,HW lE l2 lω⟩
  .have hj:j∈dn:=(aH.mp hj).resolve_right λh=>hjk (au.mp h);refine mM (rc j hj) λa r1 r2 r3=>?_;exact⟨a,by rw[oa,if_neg (Mn hjk)];exact r1,by rw[aj (aP r3)];exact h3.at (old (Bl lo r3) (bJ (aP r3)) r2),r3⟩
end
end
section
open L1
theorem DN{l:List Nat}:l=l.filter λk=>!([]:List Nat).contains k:=(gv.mpr λZ Z=>rfl).symm
section
variable {base pl:Nat}{iv:Nat->V}{self:V}{nl:Nat->List Nat}
theorem yV{a:Option V}(I:Iv base pl iv order)(N:Nd base nE nl order σ)(hn:∀k∈order,(∀j,j∈nl k↔j∈need k)/\∀j∈need k,j∈order)(hd:order.Nodup):
  WR (dS pg (mu pg d) false (.a (.tup (.c2 (.v 5) (.v 6))) (.tup (.c2 (.lst true .nil) (.bi (.list true) (.v 1)))) (.q (.whl OU OT) (.r (.v 5)))) (pE self (.lst (order.map iv)) pl nE a) σ)
   (λp υ=>∃r F,m8 need order order.length []=some r/\sq p.1=.obj F/\υ[F]?=some (.list (r.map iv))/\σ.length<=F/\nP σ υ/\σ.length<=υ.length) λZ Z=>m8 need order order.length []=none:=by
 have l1:(σ++[O.list []]).length=σ.length+1:=by rw[ah];rfl
 have l2:((σ++[O.list []])++[O.list (order.map iv)]).length=σ.length+2:=by rw[ah,l1];rfl
 have s1:nP σ ((σ++[O.list []])++[O.list (order.map iv)]):=((nP.refl σ).push (aN _)).push (ON l1)
 have eF:((σ++[O.list []])++[O.list (order.map iv)])[σ.length]?=some (.list (([]:List Nat).map iv)):=by rw[aJ (OM l1),aI (aN _),bC];rfl
 have eW:((σ++[O.list []])++[O.list (order.map iv)])[σ.length+1]?=some (.list (order.map iv)):=by rw[aI (OL l1),l1,bC];rfl
 refine mX (nN (mf (WR.val (a:=.obj σ.length) (σ:=σ++[.list []]) rfl (mf (Iy rfl (mD rfl (WR.val (a:=.obj (σ.length+1)) (σ:=(σ++[.list []])++[.list (order.map iv)]) ?_ (mx ⟨rfl,WR.val (a:=oE self (.lst (order.map iv)) pl nE σ.length (σ.length+1) a none none) rfl (mw (v7 ?_))⟩))))))))
 .show gd ((order.map iv).length<=me) (zZ (σ++[O.list []]) (.list (order.map iv)))=_;unfold gd;rw[if_pos (by rw[ay];exact ac I.most (by decide))];show R.ok (V.obj (σ++[O.list []]).length) _=_;rw[l1]
 have hwm:mU=order.length+(mU - order.length - 1)+1:=by
  exact ((be _ _ 1).trans (dM (ac (bL I.most) (by decide)))).symm
 rw[hwm];refine WR.mono (yU (C:=mu pg d) (self:=self) (its:=.lst (order.map iv)) I N hn hd (F:=σ.length) (W:=σ.length+1) (aN _) (JE) (GJ) order.length (m:=mU - order.length - 1) (f:=[]) (w:=order) rfl DN eF eW s1 (JF l2) (by have:=I.most;show 0+order.length<=10;exact OB this)) (λp υ h=>?_) λZ Z h=>h;obtain ⟨fl,ρ⟩:=p;obtain ⟨r,h1,h2,⟨a',b',c',h3⟩,h4,h5,h6⟩:=h;have h2:fl=.next:=h2;have h3:ρ=_:=h3;subst h2;subst h3;exact mh (n8 (mD rfl ⟨r,σ.length,h1,rfl,h4,aN _,h5,h6⟩))
end
theorem Gu{l:List (Nat×V)}:(mC l k).isSome=true↔k∈l.map (·.1):=by
 rw[<-rV];constructor
 .intro h;refine l8 (cL.mp h) λp hp e=>?_;exact aW.mpr ⟨p,hp,eq_of_beq e⟩
 .intro h;refine l8 (aW.mp h) λp hp e=>?_;exact cL.mpr ⟨p,hp,by rw[e];exact beq_self_eq_true _⟩
noncomputable def qR(Pk:Nat->Pd)(k:Nat):List Nat:=(Pk k).c.toList
noncomputable def pG(Pk:Nat->Pd)(np:Nat)(D:Dc):List Nat:=D.asks++(rF Pk np D).flatMap λi=>(Pk i).u.asks
theorem uN{c:Nat->Option Nat}{N:Nat}(hc:∀i,i < N->∀j,c i=some j->j < N):∀(n:Nat) {f:List Nat} {o:Option Nat},(∀i∈f,i < N)->(∀i,o=some i->i < N)->∀i∈vU c n f o,i < N
 |0,f,o,hf,ho=>hf
 |n+1,f,none,hf,ho=>hf
 |n+1,f,some i,hf,ho=>by
  show ∀j∈(if f.contains i=true then f else vU c n (f++[i]) (c i)),j < N
  split
  .exact hf
  .exact uN hc n (λj hj=>(aH.mp hj).elim (hf j) λh=>by rw[au.mp h];exact ho i rfl) (hc i (ho i rfl))
theorem Us.Kd.lt{X:Kx}{u:Us}{v:V}(h:u.Kd X v):∀j∈u.asks,j < 6:=by
 cases u with
 |two=>exact λj h=>nomatch h
 |nm k=>exact λj hj=>by rw[au.mp hj];exact h.1
 |ln k=>exact λj hj=>by rw[au.mp hj];exact h.1
theorem Dc.Kd.lt{X:Kx}{s:Nat}{D:Dc}(h:D.Kd X s):∀j∈D.asks,j < 6:=by
 cases D with
 |sized u=>exact Us.Kd.lt h
 |call n u=>exact h.2.2.elim λv h=>h.lt
 |val u w=>exact h.2.elim λv h=>h.elim λv' h=>λj hj=>(aH.mp hj).elim (h.1.lt j) (h.2.1.lt j)
 |late u w=>exact h.2.elim λv h=>h.elim λv' h=>λj hj=>(aH.mp hj).elim (h.1.lt j) (h.2.1.lt j)
theorem Eu{np:Nat}{D:Dc}(hk:ow 62 68 (uu Pk np D)):(j∈(uu Pk np D).map λp=>p.1 - 62)↔j∈pG Pk np D:=by
 have h1:(j∈(uu Pk np D).map λp=>p.1 - 62)↔(mC (uu Pk np D) (62+j)).isSome=true:=by
  rw[Gu];constructor
  .intro h;refine l8 (aW.mp h) λp hp e=>?_;exact aW.mpr ⟨p,hp,by have:=(hk.2 p hp).1;exact MB e this⟩
  .intro h;refine l8 (aW.mp h) λp hp e=>?_;exact aW.mpr ⟨p,hp,by rw[e];exact MA⟩
 rw[h1];unfold uu pG;rw[Hl,A0];show ((false||D.asks.contains j)||_)=true↔_;rw[fi,aH,eY,bx,cL,j7];exact⟨λh=>h.imp id λ⟨i,hi,hc⟩=>⟨i,hi,bx.mp hc⟩,λh=>h.imp id λ⟨i,hi,hc⟩=>⟨i,hi,bx.mpr hc⟩⟩
section
variable {X:Kx}{Dk:Nat->Dc}{sk:Nat->Nat}{np:Nat}
theorem HH:dE pg false C (.dict [] .nil) ρ σ=.ok (.obj σ.length) (σ++[.dict []]):=rfl
theorem xE(hp:mC X.PR 114=none)(Sx:X.sc=[.obj (X.N+4)])(hP:∀k∈order,(Pk k).Kd X)(hk:∀k,k∈order↔k < np)(hn:np<=3)(hd:order.Nodup)(hc:∀k,k < np->∀j,(Pk k).c=some j->j < np)(K:KX X σ)(h8:σ[X.N+8]?=some (.dict []))(hl:X.N+10 < σ.length):
  WR (mu pg (d+11) false 33 [.obj (X.N+1),.lst (order.map λk=>(Pk k).item k),.int 2] σ)
   (λv υ=>∃r F,m8 (qR Pk) order order.length []=some r/\v=.obj F/\υ[F]?=some (.list (r.map λk=>(Pk k).item k))/\X.N+10 < F/\KX X υ/\Ks X Pk np υ.length υ/\(∀i,i < X.N->υ[i]?=σ[i]?)/\σ.length<=υ.length) λZ Z=>m8 (qR Pk) order order.length []=none:=by
 have hlen:order.length<=3:=by
  have:=m7 (w:=az np) hd λi hi=>bt.mpr ((hk i).mp hi);rw[aR] at this;exact El hn this
 have s0:nP σ (σ++[O.dict []]):=(nP.refl σ).push (aN _)
 have l0:(σ++[O.dict []]).length=σ.length+1:=by rw[ah];rfl
 have e0:(σ++[O.dict []])[σ.length]?=some (.dict []):=by rw[aI (aN _),bC];rfl
 have P0:PI X Pk σ.length (σ++[O.dict []]) [] (σ++[O.dict []]):=⟨K.same s0,Fx.refl _,hl,[],[],s0.at h8,e0,.nil,.nil,λk h=>nomatch h⟩;refine WR.call rfl rfl (mX (WR.val HH (WR.val (a:=pE (.obj (X.N+1)) (.lst (order.map λk=>(Pk k).item k)) 2 σ.length none) rfl ?_)));refine sM (α:=Nat) (ks:=order) (g:=λk=>(Pk k).item k) (I:=λdn ρ τ=>(∃a,ρ=pE (.obj (X.N+1)) (.lst (order.map λk=>(Pk k).item k)) 2 σ.length a)/\PI X Pk σ.length (σ++[O.dict []]) dn τ) rfl ⟨⟨none,rfl⟩,P0⟩ (λpre k Ry ρ τ e hI=>?_) λρ τ hI=>?_
 .obtain ⟨⟨a,ha⟩,hI⟩:=hI;subst ha
  have Sz:k∈order:=by rw[e];exact bA _ ax
  exact q0 (ρ':=pE (.obj (X.N+1)) (.lst (order.map λk=>(Pk k).item k)) 2 σ.length (some ((Pk k).item k))) rfl ((E2 (d:=d) (k:=k) hp Sx (hP k Sz) (by have:=(hk k).mp Sz;exact Eo hn this) hI).mono (λp υ h=>h) λZ Z h=>h.elim)
 .obtain ⟨⟨a,ha⟩,⟨hK,fx,lo,AS,NE,Ul,Th,kAS,kNE,rc⟩⟩:=hI;subst ha
  have N:Nd 140 σ.length (qR Pk) order τ:=⟨NE,Th,λk hk=>by
   refine pq (rc k hk) λa c r1 r2 r3 r4 r5 r6=>?_;refine⟨c,_,r2,r4,?_,?_⟩
   .unfold qR;cases (Pk k).c<;>rfl
   .cases (Pk k).c with
    |none=>exact (by decide:0 < me)
    |some i=>exact (by decide:1 < me)⟩
  have I:Iv 140 2 (λk=>(Pk k).item k) order:=⟨rfl,⟨_,rfl⟩,Mz hlen⟩;refine (yV (d:=d+10) (self:=.obj (X.N+1)) (need:=qR Pk) I N (λk Sz=>⟨λj=>Iff.rfl,λj hj=>?_⟩) hd).mono (λp υ h=>?_) λZ Z h=>h
  .refine (hk j).mpr (hc k ((hk k).mp Sz) j ?_)
   revert hj
   unfold qR
   cases (Pk k).c with
   |none=>exact λh=>nomatch h
   |some i=>exact λh=>by rw[au.mp h]
  .refine pq h λr F h1 h2 h3 h4 h5 h6=>?_;have Ux:=fx.1;refine⟨r,F,h1,h2,h3,H0 hl l0 h4 Ux,hK.same h5,⟨AS,h5.at Ul,λi hi=>?_⟩,λi hi=>?_,HZ l0 h6 Ux⟩
   .refine pq (rc i ((hk i).mpr hi)) λa c r1 r2 r3 r4 r5 r6=>?_;have la:=(aq.mp r3).1;have lc:=(aq.mp r4).1;exact⟨a,c,r1,h5.at r3,h5.at r4,Bl hl r5,Bl hl r6,JA h6 la,JA h6 lc⟩
   .rw[h5 i (My hl l0 Ux hi),fx.2 i (Mx hl l0 hi) (.inl hi) (Mw hl hi)];exact s0 i (H4 hl hi)
theorem xD(hp:mC X.PR 114=none)(Sx:X.sc=[.obj (X.N+4)])(hs:∀k∈order,x6 (sk k))(hD:∀k∈order,(Dk k).Kd X (sk k))(Uj:∀k∈order,mC X.AG (62+k)=(Dk k).ag k)(hk:∀k∈order,k < 6)(hn:np<=3)(hP:∀i,i < np->(∀j∈(Pk i).u.asks,j < 6)/\∀j,(Pk i).c=some j->j < np)(hco:∀k∈order,∀i,(Dk k).co=some i->i < np)(hd:order.Nodup)(hcl:∀k∈order,∀j∈pG Pk np (Dk k),j∈order)(K:KX X σ)(hR:Ks X Pk np σ.length σ)(hl:X.N+10 < σ.length):
  WR (mu pg (d+11) false 33 [.obj (X.N+1),.lst (order.map λk=>(Dk k).item k (sk k)),.int 3] σ)
   (λv υ=>∃r F,m8 (λk=>pG Pk np (Dk k)) order order.length []=some r/\v=.obj F/\υ[F]?=some (.list (r.map λk=>(Dk k).item k (sk k)))/\X.N+10 < F/\KX X υ/\(∀i,i < σ.length->(i < X.N\/X.N+10 < i)->υ[i]?=σ[i]?)/\σ.length<=υ.length) λZ Z=>m8 (λk=>pG Pk np (Dk k)) order order.length []=none:=by
 have hlen:order.length<=6:=by
  have:=m7 (w:=az 6) hd λi hi=>bt.mpr (hk i hi);rw[aR] at this;exact this
 have s0:nP σ (σ++[O.dict []]):=(nP.refl σ).push (aN _)
 have l0:(σ++[O.dict []]).length=σ.length+1:=by rw[ah];rfl
 have e0:(σ++[O.dict []])[σ.length]?=some (.dict []):=by rw[aI (aN _),bC];rfl
 have R0:Ks X Pk np σ.length (σ++[O.dict []]):=hR.elim λAS h=>⟨AS,s0.at h.1,λi hi=>(h.2 i hi).elim λa h=>h.elim λc h=>⟨a,c,h.1,s0.at h.2.1,s0.at h.2.2.1,h.2.2.2⟩⟩;have D0:DI X Pk Dk np σ.length (σ++[O.dict []]) [] (σ++[O.dict []]):=⟨K.same s0,Fx.refl _,hl,R0,[],e0,.nil,λk h=>nomatch h⟩;refine WR.call rfl rfl (mX (WR.val HH (WR.val (a:=pE (.obj (X.N+1)) (.lst (order.map λk=>(Dk k).item k (sk k))) 3 σ.length none) rfl ?_)));refine sM (α:=Nat) (ks:=order) (g:=λk=>(Dk k).item k (sk k)) (I:=λdn ρ τ=>(∃a,ρ=pE (.obj (X.N+1)) (.lst (order.map λk=>(Dk k).item k (sk k))) 3 σ.length a)/\DI X Pk Dk np σ.length (σ++[O.dict []]) dn τ) rfl ⟨⟨none,rfl⟩,D0⟩ (λpre k Ry ρ τ e hI=>?_) λρ τ hI=>?_
 .obtain ⟨⟨a,ha⟩,hI⟩:=hI;subst ha
  have Sz:k∈order:=by rw[e];exact bA _ ax
  exact q0 (ρ':=pE (.obj (X.N+1)) (.lst (order.map λk=>(Dk k).item k (sk k))) 3 σ.length (some ((Dk k).item k (sk k)))) rfl ((Dw (d:=d) (k:=k) hp Sx (hs k Sz) (hD k Sz) (Uj k Sz) (hk k Sz) hn hP (hco k Sz) hI).mono (λp υ h=>h) λZ Z h=>h.elim)
 .obtain ⟨⟨a,ha⟩,⟨hK,fx,lo,_,NE,Th,kNE,rc⟩⟩:=hI;subst ha;have TD:∀k∈order,ow 62 68 (uu Pk np (Dk k)):=λk Sz=>ow.upds (λi hi=>(hP i (uN (λi hi=>(hP i hi).2) (np+1) (f:=[]) (λi h=>nomatch h) (hco k Sz) i hi)).1) (ow.ask (hD k Sz).lt .nil)
  have N:Nd 62 σ.length (λk=>(uu Pk np (Dk k)).map λp=>p.1 - 62) order τ:=⟨NE,Th,λk Sz=>by
   refine mM (rc k Sz) λa r1 r2 r3=>?_;refine⟨a,_,r1,r2,?_,aB (TD k Sz).len (by decide)⟩;rw[cS]
   exact cz λp hp=>by have:=((TD k Sz).2 p hp).1;show p.1=62+(p.1 - 62);exact Mv this⟩
  have I:Iv 62 3 (λk=>(Dk k).item k (sk k)) order:=⟨rfl,⟨_,rfl⟩,H3 hlen⟩;refine (yV (d:=d+10) (self:=.obj (X.N+1)) (need:=λk=>pG Pk np (Dk k)) I N (λk Sz=>⟨λj=>Eu (TD k Sz),hcl k Sz⟩) hd).mono (λp υ h=>?_) λZ Z h=>h;refine pq h λr F h1 h2 h3 h4 h5 h6=>?_;have Ux:=fx.1;refine⟨r,F,h1,h2,h3,H0 hl l0 h4 Ux,hK.same h5,λi hi hc=>?_,HZ l0 h6 Ux⟩;rw[h5 i (Mu l0 Ux hi),fx.2 i (Mt l0 hi) hc (zX hi)];exact s0 i hi
end
end
section
open L1
structure Sd where
 n:Nat
 np:Nat
 sk:Nat->Nat
 Dk:Nat->Dc
 Pk:Nat->Pd
inductive Tm where
 |d (k:Nat)
 |p (k:Nat)
 |l (k:Nat) (u w:Us)
 |c (k:Nat) (u:Us)
 |s (u:Us)
namespace Tm
noncomputable def vl(S:Sd):Tm->Mine.Internal.V
 |.d k=>(S.Dk k).item k (S.sk k)
 |.p k=>(S.Pk k).item k
 |.l k u w=>(Dc.late u w).lateV k
 |.c k u=>.tup [.sym 58,.int (40+k:Nat),.tup [.sym 41,.int 13,.sym 10,u.toV,.tup [.sym 103,.int 13,.int 5]]]
 |.s u=>.tup [.sym 166,.int (60:Nat),.sym 125,u.toV]
noncomputable def hd:Tm->Nat
 |.d _=>68
 |.p _=>148
 |.l _ _ _=>36
 |.c _ _=>58
 |.s _=>166
noncomputable def key:Tm->Nat×Nat
 |.d k=>(0,k)
 |.p k=>(1,k)
 |.l k _ _=>(2,k)
 |.c k _=>(3,k)
 |.s _=>(4,0)
noncomputable def dK(S:Sd):Tm->Option (Nat×Mine.Internal.V)
 |.d k=>some (62+k,(S.Dk k).kind (S.sk k))
 |_=>none
noncomputable def pK:Tm->Option (Nat×Mine.Internal.V)
 |.p k=>some (140+k,.tup [mK])
 |_=>none
noncomputable def aK:Tm->Option (Nat×Mine.Internal.V)
 |.l k u w=>some (62+k,(Dc.late u w).lateV k)
 |_=>none
def In(S:Sd):Tm->Prop
 |.d k=>k < S.n
 |.p k=>k < S.np
 |.l k u w=>k < S.n/\S.Dk k=.late u w
 |_=>True
end Tm
noncomputable def kx(S:Sd)(N:Nat)(pre:List Tm):Kx:={N:=N,na:=N+6,nc:=N+10,sc:=[.obj (N+4)],D0:=nQ [] (pre.filterMap (Tm.dK S)),PR:=nQ [] (pre.filterMap Tm.pK),AG:=nQ [] (pre.filterMap Tm.aK)}
theorem DB{l r:List (Nat×V)}:∀{A:List (Nat×V)},nQ A (l++r)=nQ (nQ A l) r:=by
 induction l with
 |nil=>exact rfl
 |cons p l ih=>exact ih (A:=ng _ p.1 p.2)
theorem rX{k:Nat}:∀{l A:List (Nat×V)},(∀p∈l,p.1≠k)->mC (nQ A l) k=mC A k
 |[],_,_=>rfl
 |p::l,A,h=>by
  show mC (nQ (ng A p.1 p.2) l) k=_;rw[rX λq hq=>h q (aE _ hq),oa,if_neg (h p ax)]
theorem uM{k:Nat}{v:V}:∀{l A:List (Nat×V)},(∀p∈l,p.1=k->p.2=v)->(∃p∈l,p.1=k)->mC (nQ A l) k=some v
 |[],_,_,h=>h.elim λp h=>nomatch h.1
 |p::l,A,h,hk=>by
  show mC (nQ (ng A p.1 p.2) l) k=_
  by_cases hl:∃q∈l,q.1=k
  .exact uM (λq hq=>h q (aE _ hq)) hl
  .rw[rX λq hq e=>hl ⟨q,hq,e⟩,oa];refine l8 hk λq hq e=>?_
   rcases bd.mp hq with e1 | hq
   .rw[<-e1,if_pos e,h q (by rw[e1];exact ax) e]
   .exact (hl ⟨q,hq,e⟩).elim
theorem uj{f:Tm->Option (Nat×V)}{pre:List Tm}{t:Tm}{p:Nat×V}(h:f t=some p):nQ [] ((pre++[t]).filterMap f)=ng (nQ [] (pre.filterMap f)) p.1 p.2:=by
 rw[cH,DB,bE h];rfl
theorem nK{f:Tm->Option (Nat×V)}{pre:List Tm}{t:Tm}(h:f t=none):nQ [] ((pre++[t]).filterMap f)=nQ [] (pre.filterMap f):=by
 rw[cH,bG h,gN,aT]
section
variable {X:Kx}
theorem KX.chg{o:O}{D P A:List (Nat×V)}(h:KX X σ)(Sx:X.sc=[.obj (X.N+4)])(hn:n=X.N+4\/n=X.N+7\/n=X.N+9)(h4:(σ.set n o)[X.N+4]?=some (.dict D))(h7:(σ.set n o)[X.N+7]?=some (.dict P))(h9:(σ.set n o)[X.N+9]?=some (.dict A)):KX {X with D0:=D,PR:=P,AG:=A} (σ.set n o):=by
 obtain ⟨a,c,K,AA,CC,G⟩:=h
 have q:∀{i:Nat} {o':O},i≠n->σ[i]?=some o'->(σ.set n o)[i]?=some o':=λhi e=>by rw[aj (bJ hi)];exact e
 have na:∀i,i=4\/i=7\/i=9->X.N+i≠a/\X.N+i≠c:=λi hi=>⟨bJ (K.ha i (H6 hi) (H5 hi)),bJ (K.hc i (H6 hi) (H5 hi))⟩
 have nn:n≠a/\n≠c:=by
  rcases hn with h | h | h<;>subst h
  .exact na 4 (by decide)
  .exact na 7 (by decide)
  .exact na 9 (by decide)
 have hlow:∀{i:Nat},i < 4\/i=5->X.N+i≠n:=λ{i} hi=>by
  rcases hn with h | h | h<;>exact λe=>absurd (aL (e.trans h)) (hi.elim (λhi=>aP (ao hi (by decide))) (λhi=>hi▸(by decide)))
 exact⟨a,c,⟨q (i:=X.N) (hlow (i:=0) (.inl (by decide))) K.k,q (hlow (.inl (by decide))) K.ki,q (hlow (.inl (by decide))) K.n,q (hlow (.inl (by decide))) K.ni,h4,q (hlow (.inr rfl)) K.sc,h7,h9,K.ha,K.hc,K.ne,K.lo,.inl Sx⟩,AA,CC,⟨aN _,λZ Z Z Z=>rfl,q (bJ nn.1) G.a,q (bJ nn.2) G.c,G.ka,G.kc⟩⟩
end
theorem FU{P:Pg}{E:Unit->St->Prop}{x:V}{Q:V->St->Prop}(hs:dI P false C Rt ρ σ=.ok (.items [x]) σ)(hb:nA t x ρ=some ρ')(h:WR (dE P false C RF ρ' σ) (λv τ=>Q (.lst [v]) τ) E):WR (dE P false C (.comp t Rt .nil RF) ρ σ) Q E:=by
 refine zw rfl (WR.val hs (CZ (v:=x) rfl hb (WR.val (a:=true) (σ:=σ) rfl (WR.iteT rfl (WR.bind (h.mono (λv τ h=>?_) λZ Z h=>h))))));refine WR.ok (C6 (l:=[]) rfl ?_);exact HE rfl h
theorem Kz{P:Pg}{q:Bool}{a:MX}{y:Bool}(ha:dT P q C a ρ σ=.ok false σ)(hb:dT P q C (.or es) ρ σ=.ok y σ):dT P q C (.or (.cons a es)) ρ σ=.ok y σ:=by
 show (dT P q C a ρ σ).bind (λt σ=>if t=true then R.ok true σ else dT P q C (.or es) ρ σ)=_;rw[ha];exact hb
theorem Ch{N:Nat}{D:Pd}{X:Kx}(K:KH X σ)(hk:k < 3)(hg:mC X.PR (140+k)=none)(hl:X.PR.length < me):mu pg (d+2) false 31 [.obj (X.N+1),D.item k] σ=.ok .none (σ.set (X.N+7) (.dict (ng X.PR (140+k) (.tup [mK])))):=by
 refine WR.eqn (WR.call rfl rfl (nG (v:=.sym (140+k)) (ρ':=[some (.obj (X.N+1)),some (D.item k),some (.sym (140+k)),none,none]) rfl rfl ?_));have t0:dT pg false (mu pg (d+1) false) (.cmp .isin (.v 2) (.attr (.v 0) 149)) [some (.obj (X.N+1)),some (D.item k),some (.sym (140+k)),none,none] σ=.ok false σ:=vS (mE rfl) (oB (mE rfl) K.ki K.k rfl) K.pr (by rw[hg];rfl)
 have t1:dT pg false (mu pg (d+1) false) (.or (.c2 (.cmp .isin (.v 2) (.glob 12)) (.cmp .isin (.v 2) (.glob 13)))) [some (.obj (X.N+1)),some (D.item k),some (.sym (140+k)),none,none] σ=.ok false σ:=by
  match k,hk with
  |0,_=>rfl
  |1,_=>rfl
  |2,_=>rfl
 have t2:dT pg false (mu pg (d+1) false) (.or (.c3 (.cmp .isin (.v 2) (.attr (.v 0) 149)) (.cmp .isin (.v 2) (.glob 12)) (.cmp .isin (.v 2) (.glob 13)))) [some (.obj (X.N+1)),some (D.item k),some (.sym (140+k)),none,none] σ=.ok false σ:=by
  exact Kz t0 t1
 refine mS t2 (mX (Iy rfl (FU (x:=.tup [yX,.sym 121]) (ρ':=[some (.obj (X.N+1)),some (D.item k),some (.sym (140+k)),some yX,some (.sym 121)]) rfl rfl (nM (mE rfl) K.ki K.k rfl rfl (WR.val (a:=[yX]) (σ:=σ) rfl (WR.val (a:=mK) (σ:=σ) rfl (WR.val (a:=.tup [mK]) (σ:=σ) rfl (WR.val (rO (n:=X.N+7) (k:=140+k) (oB (mE rfl) K.ki K.k rfl) (mE rfl) K.pr hl) (mn ⟨rfl,rfl⟩)))))))))
theorem Cg{u w:Us}{X:Kx}(K:KH X σ)(hg:mC X.AG (62+k)=none)(hl:X.AG.length < me):mu pg (d+2) false 32 [.obj (X.N+1),(Dc.late u w).lateV k] σ=.ok .none (σ.set (X.N+9) (.dict (ng X.AG (62+k) ((Dc.late u w).lateV k)))):=by
 refine WR.eqn (WR.call rfl rfl (mS (vS (k:=62+k) rfl (oB (mE rfl) K.ki K.k rfl) K.ag (by rw[hg];rfl)) ?_));exact nG (mE rfl) (rO (n:=X.N+9) (k:=62+k) (oB (mE rfl) K.ki K.k rfl) rfl K.ag hl) (mn ⟨rfl,rfl⟩)
end
variable {ts:List Tm}
section
open L1
noncomputable def Ik:MS:=.q (.iff (.cmp .eq (.x (.v 2) 0) (.s 68)) (.q (.expr (.meth (.attr (.v 0) 129) 152 (.c3 (.x (.v 2) 3) (.u 145 (.c1 (.x (.v 2) 2))) (.x (.v 2) 1)))) .skip) (.q (.iff (.cmp .eq (.x (.v 2) 0) (.s 148)) (.q (.expr (.u 132 (.c1 (.v 2)))) .skip) (.f (.cmp .eq (.x (.v 2) 0) (.s 36)) (.q (.expr (.u 131 (.c1 (.v 2)))) .skip) .skip)) .skip)) .skip
noncomputable def QL:MS:=.f (.and (.c3 (.cmp .eq (.x (.v 2) 0) (.s 68)) (.cmp .isnt (.x (.v 2) 4) (.lit .none)) (.cmp .isin (.x (.v 2) 3) (.attr (.v 0) 37)))) .hole .skip
noncomputable abbrev cE(self its:V)(a:Option V):mc:=[some self,some its,a,none,none,none,none,none,none,none]
structure Kt(S:Sd):Prop where
 n6:S.n<=6
 np3:S.np<=3
 srt:∀k,k < S.n->x6 (S.sk k)
structure NI(S:Sd)(N:Nat)(SM:St)(pre:List Tm)(σ:St):Prop where
 kx:KX (kx S N pre) σ
 fr:∀i,i < N->σ[i]?=SM[i]?
 len:SM.length<=σ.length
 e8:σ[N+8]?=some (.dict [])
 lo:N+10 < σ.length
section
variable {S:Sd}{SM:St}{pre:List Tm}
theorem NI.set(h:NI S N SM pre σ){t:Tm}{o:O}(hn:N<=n)(h8:n≠N+8)(hk:KX (Mine.Internal.kx S N (pre++[t])) (σ.set n o)):NI S N SM (pre++[t]) (σ.set n o):=⟨hk,λi hi=>(aj (MP hn hi)).trans (h.fr i hi),by rw[aV];exact h.len,(aj h8).trans h.e8,by rw[aV];exact h.lo⟩
theorem z0{f:Tm->Option (Nat×V)}{key:Nat}(h:∀t'∈pre,∀p,f t'=some p->p.1≠key):mC (nQ [] (pre.filterMap f)) key=none:=rX (A:=[]) λp hp=>by
 refine l8 (aZ.mp hp) λt' TZ e=>?_;exact h t' TZ p e
theorem w8{f:Tm->Option (Nat×V)}{a b:Nat}(h:∀t'∈pre,∀p,f t'=some p->a<=p.1/\p.1 < b)(hb:b<=1000):(nQ [] (pre.filterMap f)).length < me:=by
 have:ow a b (nQ [] (pre.filterMap f)):=ow.upd .nil λp hp=>by
  refine l8 (aZ.mp hp) λt' TZ e=>?_;exact h t' TZ p e
 exact aB (ac this.len hb) (by decide)
theorem EA{t:Tm}(O:Kt S)(RZ:∀t'∈pre,t'.In S/\t'.key≠t.key)(ht:t.In S)(h:NI S N SM pre σ):
  WR (dS pg (mu pg (d+2)) false Ik (cE (.obj (N+1)) its (some (t.vl S))) σ) (λp τ=>p.1=.next/\(∃a,p.2=cE (.obj (N+1)) its a)/\NI S N SM (pre++[t]) τ) λZ Z=>False:=by
 refine mJ h.kx λna nc K G=>?_;have n6:=O.n6;have np3:=O.np3
 cases t with
 |d k=>
  have hk:k < S.n:=ht
  have hg:mC (nQ [] (pre.filterMap (Tm.dK S))) (62+k)=none:=z0 λt' h' p e=>by
   cases t' with
   |d j=>
    cases e
    exact λh=>(RZ _ h').2 (by show (0,j)=(0,k);rw[show j=k from aL h])
   |_=>exact mr e
  have hl:(nQ [] (pre.filterMap (Tm.dK S))).length < me:=w8 (a:=62) (b:=68) (λt' h' p e=>by
   cases t' with
   |d j=>
    cases e
    have:=(RZ _ h').1;have:j < S.n:=this;exact⟨by show 62<=62+j;exact GK,by show 62+j < 68;exact H7 n6 this⟩
   |_=>exact mr e) (by decide)
  have l4:N+4 < σ.length:=(aq.mp K.s0).1;refine nH rfl (oZ (nM (oB (mE rfl) K.ki K.k rfl) K.ni K.n rfl rfl (mf (WR.val (a:=.sym (62+k)) (σ:=σ) rfl (mf (nM (mE rfl) K.ki K.k rfl rfl (WR.val (a:=[(S.Dk k).whatV (S.sk k)]) (σ:=σ) rfl (WR.val (E0 (d:=d+1) (D:=S.Dk k) (O.srt k hk)) (WR.val (a:=[.int (10+k:Nat)]) (σ:=σ) rfl (WR.val (Bv (d:=d+1) (n:=N+3) (c:=N+2) K.ni K.n K.sc rfl K.s0 hg hl) (mn (mh (mn ⟨rfl,⟨_,rfl⟩,h.set (MO) (MN) ?_⟩)))))))))))));have hc:=h.kx.chg (n:=N+4) (o:=.dict (ng (nQ [] (pre.filterMap (Tm.dK S))) (62+k) ((S.Dk k).kind (S.sk k)))) rfl (.inl rfl) (aF l4) ((aj (by show N+4≠N+7;exact MM)).trans K.pr) ((aj (by show N+4≠N+9;exact ML)).trans K.ag);unfold kx at hc ⊢;rw[uj (f:=Tm.dK S) (t:=.d k) rfl,nK (f:=Tm.pK) (t:=.d k) rfl,nK (f:=Tm.aK) (t:=.d k) rfl];exact hc
 |p k=>
  have hk:k < S.np:=ht
  have hg:mC (nQ [] (pre.filterMap Tm.pK)) (140+k)=none:=z0 λt' h' p e=>by
   cases t' with
   |p j=>
    cases e
    exact λh=>(RZ _ h').2 (by show (1,j)=(1,k);rw[show j=k from aL h])
   |_=>exact mr e
  have hl:(nQ [] (pre.filterMap Tm.pK)).length < me:=w8 (a:=140) (b:=143) (λt' h' p e=>by
   cases t' with
   |p j=>
    cases e
    have:=(RZ _ h').1;have:j < S.np:=this;exact⟨by show 140<=140+j;exact OD,by show 140+j < 143;exact MK np3 this⟩
   |_=>exact mr e) (by decide)
  have l7:N+7 < σ.length:=(aq.mp K.pr).1;refine qD rfl (nH rfl (oZ (nM (mE rfl) K.ki K.k rfl rfl (WR.val (a:=[(S.Pk k).item k]) (σ:=σ) rfl (WR.val (Ch (d:=d) (N:=N) (D:=S.Pk k) (k:=k) (X:={kx S N pre with na:=na,nc:=nc}) (σ:=σ) K (Eo np3 hk) hg hl) (mn (mh (mn (mh (mn ⟨rfl,⟨_,rfl⟩,h.set (by show N<=N+7;exact MJ) (by show N+7≠N+8;exact MI) ?_⟩))))))))));have hc:=h.kx.chg (n:=N+7) (o:=.dict (ng (nQ [] (pre.filterMap Tm.pK)) (140+k) (.tup [mK]))) rfl (.inr (.inl rfl)) ((aj (by show N+7≠N+4;exact MH)).trans K.s0) (aF l7) ((aj (by show N+7≠N+9;exact MG)).trans K.ag);unfold kx at hc ⊢;rw[nK (f:=Tm.dK S) (t:=.p k) rfl,uj (f:=Tm.pK) (t:=.p k) rfl,nK (f:=Tm.aK) (t:=.p k) rfl];exact hc
 |l k u w=>
  have hk:k < S.n:=ht.1
  have hg:mC (nQ [] (pre.filterMap Tm.aK)) (62+k)=none:=z0 λt' h' p e=>by
   cases t' with
   |l j u' w'=>
    cases e
    exact λh=>(RZ _ h').2 (by show (2,j)=(2,k);rw[show j=k from aL h])
   |_=>exact mr e
  have hl:(nQ [] (pre.filterMap Tm.aK)).length < me:=w8 (a:=62) (b:=68) (λt' h' p e=>by
   cases t' with
   |l j u' w'=>
    cases e
    have:=(RZ _ h').1;have:j < S.n:=this.1;exact⟨by show 62<=62+j;exact GK,by show 62+j < 68;exact H7 n6 this⟩
   |_=>exact mr e) (by decide)
  have l9:N+9 < σ.length:=(aq.mp K.ag).1;refine qD rfl (qD rfl (nH rfl (oZ (nM (mE rfl) K.ki K.k rfl rfl (WR.val (a:=[(Dc.late u w).lateV k]) (σ:=σ) rfl (WR.val (Cg (d:=d) (u:=u) (w:=w) (k:=k) (X:={kx S N pre with na:=na,nc:=nc}) (σ:=σ) K hg hl) (mn (mh (mn (mh (mn (mh (mn ⟨rfl,⟨_,rfl⟩,h.set (by show N<=N+9;exact MF) (by show N+9≠N+8;exact ME) ?_⟩)))))))))))));have hc:=h.kx.chg (n:=N+9) (o:=.dict (ng (nQ [] (pre.filterMap Tm.aK)) (62+k) ((Dc.late u w).lateV k))) rfl (.inr (.inr rfl)) ((aj (by show N+9≠N+4;exact MD)).trans K.s0) ((aj (by show N+9≠N+7;exact MC)).trans K.pr) (aF l9);unfold kx at hc ⊢;rw[nK (f:=Tm.dK S) (t:=.l k u w) rfl,nK (f:=Tm.pK) (t:=.l k u w) rfl,uj (f:=Tm.aK) (t:=.l k u w) rfl];exact hc
 |c k u=>
  refine qD rfl (qD rfl (mS rfl (mn (mh (mn (mh (mn ⟨rfl,⟨_,rfl⟩,?_,h.fr,h.len,h.e8,h.lo⟩)))))));have hc:=h.kx;unfold kx at hc ⊢;rw[nK (f:=Tm.dK S) (t:=.c k u) rfl,nK (f:=Tm.pK) (t:=.c k u) rfl,nK (f:=Tm.aK) (t:=.c k u) rfl];exact hc
 |s u=>
  refine qD rfl (qD rfl (mS rfl (mn (mh (mn (mh (mn ⟨rfl,⟨_,rfl⟩,?_,h.fr,h.len,h.e8,h.lo⟩)))))));have hc:=h.kx;unfold kx at hc ⊢;rw[nK (f:=Tm.dK S) (t:=.s u) rfl,nK (f:=Tm.pK) (t:=.s u) rfl,nK (f:=Tm.aK) (t:=.s u) rfl];exact hc
end
end
section
open L1
section
variable {h:α->V}{g:α->Option V}{ks:List α}
theorem wg{it:It}{f:V->St->R Unit (Option V)}(RP:∀i:Nat,it.at i σ=some ((ks.map h)[i]?)):∀(Ry:List α) {pre:List α} {l:List V},ks=pre++Ry->(∀k∈Ry,f (h k) σ=.ok (g k) σ)->l.length+Ry.length<=me->ou it f (Ry.length+1) pre.length l σ=.ok (l++Ry.filterMap g) σ
 |[],pre,l,e,hf,hl=>by
  show R.opt (it.at pre.length σ) _=_;rw[RP,cA (by rw[ay,e,aT];exact aN _),gN,aT];rfl
 |k::Ry,pre,l,e,hf,hl=>by
  have hl:l.length+(Ry.length+1)<=me:=hl;show R.opt (it.at pre.length σ) _=_;rw[RP,e,cB,aI (aN _),bC];show (f (h k) σ).bind _=_;rw[hf k ax]
  have ih:∀{l':List V},l'.length+Ry.length<=me->ou it f (Ry.length+1) (pre.length+1) l' σ=.ok (l'++Ry.filterMap g) σ:=λ{l'} hl'=>by
   have:=wg RP Ry (pre:=pre++[k]) (l:=l') (by rw[ba];exact e) (λw hw=>hf w (aE _ hw)) hl';rw[ah] at this;exact this
  cases hg:g k with
  |none=>
   rw[bG hg];exact ih (Q2 hl)
  |some x=>
   rw[bE hg];show gd (l.length < me) _=_;unfold gd;rw[if_pos (Q1 hl)];refine (ih (l':=l++[x]) ?_).trans (by rw[ba];rfl);rw[ah];show l.length+1+Ry.length<=me;exact Q0 hl
theorem o7{v:V}(hj:ρ[j]?.join=some v)(hv:Sq σ v (ks.map h))(hn:ks.length<=me)(hf:∀k∈ks,m3 pg false C t cond RF ρ (h k) σ=.ok (g k) σ):dE pg false C (.comp t (.v j) cond RF) ρ σ=.ok (.lst (ks.filterMap g)) σ:=by
 refine mM hv.it λit h1 h2 h3=>?_;show ((dE pg false C (.v j) ρ σ).bind uD).bind (λit σ=>(ou it (m3 pg false C t cond RF ρ) (it.fuel σ) 0 [] σ).bind λl σ=>R.ok (V.lst l) σ)=_;rw[mE hj];show (uD v σ).bind _=_;rw[h1];show (ou it (m3 pg false C t cond RF ρ) (it.fuel σ) 0 [] σ).bind _=_;rw[h2,ay,show (0:Nat)=([]:List α).length from rfl,wg (pre:=[]) (l:=[]) (h3 σ hv) ks rfl hf (by show 0+_<=_;exact QZ hn)];rfl
end
theorem yp{p:α->Bool}{e:α->β}{l:List α}:l.filterMap (λt=>if p t=true then some (e t) else none)=(l.filter p).map e:=by
 induction l with
 |nil=>rfl
 |cons a l ih=>
  rw[dN]
  cases h:p a with
  |true=>rw[bE (by rw[h];rfl),ih,if_pos rfl];rfl
  |false=>rw[bG (by rw[h];rfl),ih,if_neg bR]
namespace Tm
noncomputable def pi:Tm->Option Nat
 |.p k=>some k
 |_=>none
noncomputable def di:Tm->Option Nat
 |.d k=>some k
 |_=>none
noncomputable def oth:Tm->Bool
 |.d _=>false
 |.p _=>false
 |_=>true
def Kd(X:Kx)(S:Sd):Tm->Prop
 |.l k u w=>k < 6/\x6 (S.sk k)/\(Dc.late u w).Kd X (S.sk k)/\mC X.D0 (62+k)=some (sJ (S.sk k))
 |.c _ u=>∃v,u.Kd X v
 |.s u=>∃v,u.Kd X v
 |_=>True
end Tm
section
variable {S:Sd}{a b c d e f g h i:Option V}
theorem G0{t:Tm}:m3 pg false C (.v 9) (.cmp .eq (.x (.v 9) 0) (.s 148)) (.v 9) [a,b,c,d,e,f,g,h,i,none] (t.vl S) σ=.ok (t.pi.map λk=>(S.Pk k).item k) σ:=by cases t<;>rfl
theorem Gg{t:Tm}:m3 pg false C (.v 8) (.cmp .eq (.x (.v 8) 0) (.s 68)) (.v 8) [a,b,c,d,e,f,g,h,none,i] (t.vl S) σ=.ok (t.di.map λk=>(S.Dk k).item k (S.sk k)) σ:=by cases t<;>rfl
theorem GY{t:Tm}:m3 pg false C (.v 7) (.cmp .notin (.x (.v 7) 0) (.tup (.c2 (.s 148) (.s 68)))) (.v 7) [a,b,c,d,e,f,g,none,h,i] (t.vl S) σ=.ok (if t.oth=true then some (t.vl S) else none) σ:=by cases t<;>rfl
theorem Hf{t:Tm}:m3 pg false C (.v 6) (.cmp .eq (.x (.v 6) 0) (.s 166)) (.v 6) [a,b,c,d,e,f,none,g,h,i] (t.vl S) σ=.ok (if (t.hd==166)=true then some (t.vl S) else none) σ:=by cases t<;>rfl
end
theorem Bx{S:Sd}:∀{ts:List Tm},(ts.map Tm.key).Nodup->(ts.filterMap λt=>if (t.hd==166)=true then some (t.vl S) else none).length<=1
 |[],_=>ce _
 |t::ts,h=>by
  have h:=bo.mp (show (t.key::ts.map Tm.key).Nodup from h)
  cases ht:t.hd==166 with
  |false=>rw[bG (by rw[ht];rfl)];exact Bx h.2
  |true=>
   rw[bE (b:=t.vl S) (by rw[ht];rfl)]
   have:(ts.filterMap λt=>if (t.hd==166)=true then some (t.vl S) else none)=[]:=by
    refine gY.mpr λt' h'=>?_
    cases TZ:t'.hd==166 with
    |false=>rfl
    |true=>
     refine (h.1 (aW.mpr ⟨t',h',?_⟩)).elim
     cases t<;>first | exact ma ht | (cases t'<;>first | exact ma TZ | rfl)
   rw[this];exact aN _
end
section
open L1
def Tm.Fit(ss:List Nat):Tm->Prop
 |.c _ u=>u.Fits ss false
 |.s u=>u.Fits ss false
 |_=>True
structure pO(S:Sd)(ss:List Nat)(ts:List Tm):Prop where
 ok:Kt S
 srt:∀k,k < S.n->ss[k]?=some (S.sk k)
 len:ss.length=S.n
 dfit:∀k,k < S.n->(S.Dk k).Fits ss S.np (S.sk k)
 pfit:∀k,k < S.np->(S.Pk k).Fits ss S.np
 two:2<=S.n
 inn:∀t∈ts,t.In S/\t.Fit ss
 nd:(ts.map Tm.key).Nodup
 alld:∀k,k < S.n->.d k∈ts
 allp:∀k,k < S.np->.p k∈ts
 alll:∀k u w,k < S.n->S.Dk k=.late u w->.l k u w∈ts
 most:(ts.filter Tm.oth).length<=50
section
variable {S:Sd}
theorem pO.d0(I:pO S ss ts)(hk:k < S.n):mC (kx S N ts).D0 (62+k)=some ((S.Dk k).kind (S.sk k)):=uM (λp hp e=>by
 refine l8 (aZ.mp hp) λt ht e'=>?_
 cases t with
 |d j=>cases e';rw[show j=k from aL e]
 |_=>exact mr e') ⟨(62+k,(S.Dk k).kind (S.sk k)),aZ.mpr ⟨.d k,I.alld k hk,rfl⟩,rfl⟩
theorem pO.p0(I:pO S ss ts)(hk:k < S.np):mC (kx S N ts).PR (140+k)=some (.tup [mK]):=uM (λp hp e=>by
 refine l8 (aZ.mp hp) λt ht e'=>?_
 cases t with
 |p j=>cases e';rfl
 |_=>exact mr e') ⟨(140+k,.tup [mK]),aZ.mpr ⟨.p k,I.allp k hk,rfl⟩,rfl⟩
theorem pO.p114:mC (kx S N ts).PR 114=none:=rX (A:=[]) λp hp=>by
 refine l8 (aZ.mp hp) λt ht e'=>?_
 cases t with
 |p j=>cases e';show 140+j≠114;exact MQ
 |_=>exact mr e'
theorem pO.ag(I:pO S ss ts)(hk:k < S.n):mC (kx S N ts).AG (62+k)=(S.Dk k).ag k:=by
 have key:∀p∈ts.filterMap Tm.aK,p.1=62+k->∃u w,S.Dk k=.late u w/\p.2=(Dc.late u w).lateV k:=λp hp e=>by
  refine l8 (aZ.mp hp) λt ht e'=>?_
  cases t with
  |l j u w=>
   cases e'
   have h:j=k:=aL e;subst h;exact⟨u,w,(I.inn _ ht).1.2,rfl⟩
  |_=>exact mr e'
 have out:(∀u w,S.Dk k≠.late u w)->mC (kx S N ts).AG (62+k)=none:=λh=>rX (A:=[]) λp hp e=>(key p hp e).elim λu g=>g.elim λw g=>h u w g.1
 cases hD:S.Dk k with
 |late u w=>
  refine uM (v:=(Dc.late u w).lateV k) (λp hp e=>?_) ⟨(62+k,(Dc.late u w).lateV k),aZ.mpr ⟨.l k u w,I.alll k u w hk hD,rfl⟩,rfl⟩;refine mJ (key p hp e) λu' w' h1 h2=>?_;rw[hD] at h1
  cases h1;exact h2
 |sized u=>exact out λu w h=>by rw[hD] at h;exact nomatch h
 |call n u=>exact out λu w h=>by rw[hD] at h;exact nomatch h
 |val u w=>exact out λu w h=>by rw[hD] at h;exact nomatch h
theorem pO.us(I:pO S ss ts){u:Us}{b:Bool}(h:u.Fits ss b):∃v,u.Kd (kx S N ts) v/\(b=true->v=kP):=by
 have n6:=I.ok.n6
 have lt:∀{k s:Nat},ss[k]?=some s->k < S.n/\s=S.sk k:=λ{k s} e=>by
  have h1:=(aq.mp e).1;rw[I.len] at h1;have:=I.srt k h1;rw[e] at this;exact⟨h1,am this⟩
 cases u with
 |two=>exact⟨kP,rfl,λZ=>rfl⟩
 |nm k=>
  refine mM h λs e UJ hb=>?_;refine nt (lt e) λhk hs=>?_;have hf:=I.dfit k hk;have Xb:=I.ok.srt k hk;have hd:=I.d0 (N:=N) hk;rw[<-hs] at hf Xb hd
  have Ub:sJ s=mK/\s=186\/sJ s=kP/\s=143:=by
   rcases Xb with h | h | h
   .subst h;exact .inl ⟨rfl,rfl⟩
   .subst h;exact .inr ⟨rfl,rfl⟩
   .exact absurd h UJ
  have fin:(S.Dk k).kind s=sJ s->∃v,Us.Kd (kx S N ts) (.nm k) v/\(b=true->v=kP):=λe=>by
   refine⟨sJ s,⟨yJ n6 hk,by rw[hd,e],?_⟩,λTf=>?_⟩
   .rcases Ub with h | h
    .exact .inl h.1
    .exact .inr (.inl h.1)
   .rcases Ub with h | h
    .rcases hb with h' | h'
     .exact absurd h.2 h'
     .rw[h'] at Tf;exact ma Tf
    .exact h.1
  cases hD:S.Dk k with
  |sized u=>
   refine fin ?_;rw[hD];show (if (s==26)=true then kA else sJ s)=_;rw[beq_false_of_ne UJ];rfl
  |val u w=>exact fin (by rw[hD];rfl)
  |late u w=>exact fin (by rw[hD];rfl)
  |call n u=>
   rw[hD] at hf hd;refine⟨kB,⟨yJ n6 hk,hd,.inr (.inr rfl)⟩,λTf=>?_⟩
   rcases hb with h' | h'
   .exact absurd hf.2.1 h'
   .rw[h'] at Tf;exact ma Tf
 |ln k=>
  refine nt (lt h) λhk hs=>?_;have hf:=I.dfit k hk;have hd:=I.d0 (N:=N) hk;rw[<-hs] at hf hd
  cases hD:S.Dk k with
  |sized u=>exact⟨kP,⟨yJ n6 hk,by rw[hd,hD];rfl,rfl⟩,λZ=>rfl⟩
  |call n u=>rw[hD] at hf;exact absurd hf.2.1 (by decide)
  |val u w=>rw[hD] at hf;exact absurd rfl hf.1
  |late u w=>rw[hD] at hf;exact absurd rfl hf.1
theorem pO.dk(I:pO S ss ts)(hk:k < S.n):(S.Dk k).Kd (kx S N ts) (S.sk k):=by
 have hf:=I.dfit k hk;have np3:=I.ok.np3
 have two:∀{u w:Us},(S.sk k≠26/\u.Fits ss (S.sk k==143)/\w.Fits ss (S.sk k==143))->S.sk k≠26/\∃v v',u.Kd (kx S N ts) v/\w.Kd (kx S N ts) v'/\(S.sk k=143->v=kP/\v'=kP):=λ{u w} h=>by
  refine l8 (I.us (N:=N) h.2.1) λv h1 h2=>?_;refine l8 (I.us (N:=N) h.2.2) λv' h3 h4=>?_;exact⟨h.1,v,v',h1,h3,λe=>⟨h2 (by rw[e];rfl),h4 (by rw[e];rfl)⟩⟩
 cases hD:S.Dk k with
 |sized u=>
  rw[hD] at hf;refine l8 (I.us (N:=N) hf) λv h1 h2=>?_;rw[h2 rfl] at h1;exact h1
 |call n u=>
  rw[hD] at hf;refine l8 (I.us (N:=N) hf.2.2) λv h1 Z=>?_;have hn:=hf.1;exact⟨Eo np3 hn,I.p0 hf.1,v,h1⟩
 |val u w=>rw[hD] at hf;exact two hf
 |late u w=>rw[hD] at hf;exact two hf
theorem pO.pk(I:pO S ss ts)(hk:k < S.np):(S.Pk k).Kd (kx S N ts):=by
 refine l8 (I.us (N:=N) (I.pfit k hk).1) λv h1 Z=>?_;have np3:=I.ok.np3;exact⟨⟨v,h1⟩,λn e=>⟨by have:=(I.pfit k hk).2 n e;exact Eo np3 this,I.p0 ((I.pfit k hk).2 n e)⟩⟩
theorem pO.tk(I:pO S ss ts){t:Tm}(ht:t∈ts):t.Kd (kx S N ts) S:=by
 have h:=I.inn t ht;have n6:=I.ok.n6
 cases t with
 |l k u w=>
  have hk:k < S.n:=h.1.1;have hd:=I.d0 (N:=N) hk;have hK:=I.dk (N:=N) hk;rw[h.1.2] at hd hK;exact⟨yJ n6 hk,I.ok.srt k hk,hK,hd⟩
 |c k u=>refine l8 (I.us (N:=N) h.2) λv h1 Z=>?_;exact⟨v,h1⟩
 |s u=>refine l8 (I.us (N:=N) h.2) λv h1 Z=>?_;exact⟨v,h1⟩
 |_=>trivial
end
end
section
open L1
theorem Sq.low{v:V}(h:Sq σ v l)(hN:∀n,v=.obj n->n < N)(k:∀i,i < N->τ[i]?=σ[i]?):Sq τ v l:=h.imp id λ⟨n,e,h⟩=>⟨n,e,(k n (hN n e)).trans h⟩
theorem EU{S:Sd}{t:Tm}(I:pO S ss ts)(ht:t∈ts)(h:KX (kx S N ts) σ):dT pg false C (.and (.c3 (.cmp .eq (.x (.v 2) 0) (.s 68)) (.cmp .isnt (.x (.v 2) 4) (.lit .none)) (.cmp .isin (.x (.v 2) 3) (.attr (.v 0) 37)))) (cE (.obj (N+1)) its (some (t.vl S))) σ=.ok false σ:=by
 refine mJ h λna nc K G=>?_
 cases t with
 |d k=>
  have hk:k < S.n:=(I.inn _ ht).1;have Uj:=I.ag (N:=N) hk;have t3:dT pg false C (.cmp .isin (.x (.v 2) 3) (.attr (.v 0) 37)) (cE (.obj (N+1)) its (some (Tm.vl S (.d k)))) σ=.ok ((S.Dk k).ag k).isSome σ:=vS (k:=62+k) (n:=N+9) rfl (oB (mE rfl) K.ki K.k rfl) K.ag (by rw[Uj])
  have hv:(S.Dk k).valV (S.sk k)=.none\/(∃t r,(S.Dk k).valV (S.sk k)=.tup (t::r))/\(S.Dk k).ag k=none:=by
   cases S.Dk k with
   |sized u=>
    rcases I.ok.srt k hk with h | h | h<;>rw[h]
    .exact .inl rfl
    .exact .inr ⟨⟨_,_,rfl⟩,rfl⟩
    .exact .inl rfl
   |call n u=>exact .inr ⟨⟨_,_,rfl⟩,rfl⟩
   |val u w=>exact .inr ⟨⟨_,_,rfl⟩,rfl⟩
   |late u w=>exact .inl rfl
  have e4:dE pg false C (.x (.v 2) 4) (cE (.obj (N+1)) its (some (Tm.vl S (.d k)))) σ=.ok ((S.Dk k).valV (S.sk k)) σ:=rfl
  rcases hv with h | ⟨⟨t,r,h⟩,h2⟩
  .rw[h] at e4;exact qI (x:=true) (y:=false) rfl (uZ (oo (v:=.none) (w:=.none) e4 rfl rfl))
  .rw[h] at e4;rw[h2] at t3;exact qI (x:=true) (y:=false) rfl (qI (x:=true) (y:=false) (oo (v:=.tup (t::r)) (w:=.none) e4 rfl rfl) (uZ t3))
 |_=>exact uZ rfl
theorem tM{need:Nat->List Nat}{order:List Nat}:∀{n:Nat} {f r:List Nat},m8 need order n f=some r->r.length=f.length+n
 |0,f,r,h=>by cases h;rfl
 |n+1,f,r,h=>by
  refine l8 (bs (show (qU need order f).bind (λk=>m8 need order n (f++[k]))=some r from h)) λk h1 h2=>?_;have:=tM h2;rw[this,ah];show f.length+1+n=_;exact MR
theorem x7{r:List V}(h:σ[m]?=some (.list l))(k:σ[n]?=some (.list r))(hl:(l++r).length<=me):tG pg σ .add (.obj m) (.obj n)=some (.lst (l++r)):=by
 show mH none (mH none ((listAt σ m).bind λl=>(listAt σ n).bind λr=>og ((l++r).length<=me) (V.lst (l++r))))=_;rw[la h,la k];show og ((l++r).length<=me) _=_;unfold og;rw[if_pos hl]
theorem s6{r:List V}(hl:(l++r).length<=me):tG pg σ .add (.lst l) (.lst r)=some (.lst (l++r)):=by
 show og ((l++r).length<=me) _=_;unfold og;rw[if_pos hl]
noncomputable def qo(ts:List Tm):List Nat:=ts.filterMap Tm.di
noncomputable def qp(ts:List Tm):List Nat:=ts.filterMap Tm.pi
section
variable {S:Sd}
theorem pO.ps(I:pO S ss ts):k∈qp ts↔k < S.np:=by
 constructor
 .intro h;refine l8 (aZ.mp h) λt ht e=>?_
  cases t with
  |p j=>cases e;exact (I.inn _ ht).1
  |_=>exact mr e
 .exact λh=>aZ.mpr ⟨.p k,I.allp k h,rfl⟩
theorem pO.ds(I:pO S ss ts):k∈qo ts↔k < S.n:=by
 constructor
 .intro h;refine l8 (aZ.mp h) λt ht e=>?_
  cases t with
  |d j=>cases e;exact (I.inn _ ht).1
  |_=>exact mr e
 .exact λh=>aZ.mpr ⟨.d k,I.alld k h,rfl⟩
theorem tz{f:Tm->Option Nat}{c:Nat}(hf:∀t k,f t=some k->t.key=(c,k)):∀{ts:List Tm},(ts.map Tm.key).Nodup->(ts.filterMap f).Nodup
 |[],_=>cu
 |t::ts,h=>by
  have h:=bo.mp (show (t.key::ts.map Tm.key).Nodup from h)
  cases ht:f t with
  |none=>rw[bG ht];exact tz hf h.2
  |some k=>
   rw[bE ht];refine bo.mpr ⟨λhm=>?_,tz hf h.2⟩;refine l8 (aZ.mp hm) λt' h' e=>?_;exact h.1 (aW.mpr ⟨t',h',(hf t' k e).trans (hf t k ht).symm⟩)
theorem pO.psn(I:pO S ss ts):(qp ts).Nodup:=tz (c:=1) (λt k e=>by
 cases t with
 |p j=>cases e;rfl
 |_=>exact mr e) I.nd
theorem pO.dsn(I:pO S ss ts):(qo ts).Nodup:=tz (c:=0) (λt k e=>by
 cases t with
 |d j=>cases e;rfl
 |_=>exact mr e) I.nd
theorem pO.hP(I:pO S ss ts):∀i,i < S.np->(∀j∈(S.Pk i).u.asks,j < 6)/\∀j,(S.Pk i).c=some j->j < S.np:=λi hi=>⟨(I.pk (N:=0) hi).1.elim λv h=>h.lt,(I.pfit i hi).2⟩
theorem Us.Fits.lt{u:Us}{b:Bool}(h:u.Fits ss b):∀j∈u.asks,j < ss.length:=by
 cases u with
 |two=>exact λj h=>nomatch h
 |nm k=>exact λj hj=>by rw[au.mp hj];exact h.elim λs h=>(aq.mp h.1).1
 |ln k=>exact λj hj=>by rw[au.mp hj];exact (aq.mp h).1
theorem Dc.Fits.lt{D:Dc}{s:Nat}(h:D.Fits ss n s):∀j∈D.asks,j < ss.length:=by
 cases D with
 |sized u=>exact Us.Fits.lt h
 |call n u=>exact Us.Fits.lt h.2.2
 |val u w=>exact λj hj=>(aH.mp hj).elim (Us.Fits.lt h.2.1 j) (Us.Fits.lt h.2.2 j)
 |late u w=>exact λj hj=>(aH.mp hj).elim (Us.Fits.lt h.2.1 j) (Us.Fits.lt h.2.2 j)
theorem pO.hco(I:pO S ss ts)(hk:k < S.n):∀i,(S.Dk k).co=some i->i < S.np:=by
 have h:=I.dfit k hk
 cases hD:S.Dk k with
 |call n u=>rw[hD] at h;exact λi e=>by cases e;exact h.1
 |_=>exact λi e=>mr e
theorem pO.hcl(I:pO S ss ts)(hk:k < S.n):∀j∈pG S.Pk S.np (S.Dk k),j < S.n:=λj hj=>by
 rw[<-I.len]
 rcases aH.mp hj with h | h
 .exact (I.dfit k hk).lt j h
 .refine l8 (j7.mp h) λi hi h=>?_;have hi:=uN (λi hi=>(I.hP i hi).2) (S.np+1) (f:=[]) (λi h=>nomatch h) (I.hco hk) i hi;exact (I.pfit i hi).1.lt j h
end
end
section
open L1
theorem split_len:∀{ts:List Tm},ts.length=(qp ts).length+(qo ts).length+(ts.filter Tm.oth).length
 |[]=>rfl
 |t::ts=>by
  have ih:=split_len (ts:=ts);unfold qp qo at ih ⊢
  cases t with
  |d k=>show ts.length+1=(ts.filterMap Tm.pi).length+((ts.filterMap Tm.di).length+1)+(ts.filter Tm.oth).length;exact M6 ih
  |p k=>show ts.length+1=((ts.filterMap Tm.pi).length+1)+(ts.filterMap Tm.di).length+(ts.filter Tm.oth).length;exact M5 ih
  |_=>show ts.length+1=(ts.filterMap Tm.pi).length+(ts.filterMap Tm.di).length+((ts.filter Tm.oth).length+1);exact M4 ih
noncomputable abbrev cF(self its:V)(a b c d:Option V):mc:=[some self,some its,a,b,c,d,none,none,none,none]
section
variable {S:Sd}
theorem vV{t:Tm}(I:pO S ss ts)(ht:t∈ts)(ho:t.oth=true)(h:KX (kx S N ts) τ):WR (mu pg (d+9) false 35 [.obj (N+1),t.vl S] τ) (λZ υ=>KX (kx S N ts) υ/\(∀i,i < N->υ[i]?=τ[i]?)/\τ.length<=υ.length) λZ Z=>False:=by
 obtain ⟨na,nc,K,A,C,G⟩:=h;have hk:=I.tk (N:=N) ht
 have fin:∀{v:V} {υ:St},(∃A' C',Ft {kx S N ts with na:=na,nc:=nc} A' C' τ υ)->KX (kx S N ts) υ/\(∀i,i < N->υ[i]?=τ[i]?)/\τ.length<=υ.length:=λ{v υ} h=>by
  refine wl h λA' C' F=>?_;have l1:N+9 < τ.length:=(aq.mp K.ag).1;have Vl:N<=na/\N<=nc:=K.lo;exact⟨⟨na,nc,K.ft F,A',C',F.self⟩,λi hi=>F.fr i (M3 l1 hi) (by show i≠na;exact M2 Vl hi) (by show i≠nc;exact M1 Vl hi),F.len⟩
 have hp:mC (kx S N ts).PR 114=none:=pO.p114
 cases t with
 |l k u w=>exact (B4 (d:=d) (X:={kx S N ts with na:=na,nc:=nc}) hk.2.1 hp hk.1 hk.2.2.1.na hk.2.2.2 K G).mono (λv υ h=>fin (v:=v) h) λZ Z h=>h
 |c k u=>exact hk.elim λv hv=>(D3 (d:=d) (X:={kx S N ts with na:=na,nc:=nc}) hp hv.na K G).mono (λv υ h=>fin (v:=v) h) λZ Z h=>h
 |s u=>exact hk.elim λv hv=>(D4 (d:=d) (X:={kx S N ts with na:=na,nc:=nc}) hp hv.na K G).mono (λv υ h=>fin (v:=v) h) λZ Z h=>h
 |d k=>exact ma ho
 |p k=>exact ma ho
theorem zH{r:MS}{Q:Fl×mc->St->Prop}{E:mc->St->Prop}(I:pO S ss ts)(K:NI S N σ [] σ)(hv:Sq σ its (ts.map (Tm.vl S)))(hN:∀n,its=.obj n->n < N)(h:∀a τ,NI S N σ ts τ->WR (dS pg (mu pg (d+2)) false r (cE (.obj (N+1)) its a) τ) Q E):WR (dS pg (mu pg (d+2)) false (.q (.for (.v 2) (.v 1) Ik) (.q (.for (.v 2) (.v 1) QL) r)) (cE (.obj (N+1)) its none) σ) Q E:=by
 refine AX (α:=Tm) (ks:=ts) (g:=Tm.vl S) (I:=λpre ρ τ=>(∃a,ρ=cE (.obj (N+1)) its a)/\NI S N σ pre τ) rfl hv (λpre ρ τ h=>hv.low hN h.2.fr) ⟨⟨none,rfl⟩,K⟩ (λpre t Ry ρ τ e hI=>?_) λρ τ hI=>?_
 .obtain ⟨⟨a,ha⟩,hI⟩:=hI;subst ha;have nd:=I.nd;rw[e,bf] at nd;have nd:=(bV.mp nd).2.2;refine q0 (ρ':=cE (.obj (N+1)) its (some (t.vl S))) rfl ((EA (d:=d) I.ok (λt' h'=>⟨(I.inn t' (by rw[e];exact bD _ h')).1,nd t'.key (aW.mpr ⟨t',h',rfl⟩) t.key ax⟩) (I.inn t (by rw[e];exact bA _ ax)).1 hI).mono (λp υ h=>h) λZ Z h=>h.elim)
 .obtain ⟨⟨a,ha⟩,hI⟩:=hI;subst ha;refine AX (α:=Tm) (ks:=ts) (g:=Tm.vl S) (I:=λZ ρ τ=>(∃a,ρ=cE (.obj (N+1)) its a)/\NI S N σ ts τ) rfl (hv.low hN hI.fr) (λpre ρ τ h=>hv.low hN h.2.fr) ⟨⟨a,rfl⟩,hI⟩ (λpre t Ry ρ τ e hI=>?_) λρ τ hI=>?_
  .obtain ⟨⟨a,ha⟩,hI⟩:=hI;subst ha;exact q0 (ρ':=cE (.obj (N+1)) its (some (t.vl S))) rfl (mS (EU I (by rw[e];exact bA _ ax) hI.kx) (mn ⟨rfl,⟨_,rfl⟩,hI⟩))
  .obtain ⟨⟨a,ha⟩,hI⟩:=hI;subst ha;exact h a τ hI
theorem BW(I:pO S ss ts)(K:NI S N σ [] σ)(hv:Sq σ its (ts.map (Tm.vl S)))(hN:∀n,its=.obj n->n < N):
  WR (mu pg (d+12) false 29 [.obj (N+1),its] σ) (λv τ=>∃r1 r2,m8 (qR S.Pk) (qp ts) (qp ts).length []=some r1/\m8 (λk=>pG S.Pk S.np (S.Dk k)) (qo ts) (qo ts).length []=some r2/\v=.lst (((r1.map λk=>(S.Pk k).item k)++r2.map λk=>(S.Dk k).item k (S.sk k))++(ts.filter Tm.oth).map (Tm.vl S))/\(∀i,i < N->τ[i]?=σ[i]?)/\σ.length<=τ.length)
   λZ Z=>m8 (qR S.Pk) (qp ts) (qp ts).length []=none\/m8 (λk=>pG S.Pk S.np (S.Dk k)) (qo ts) (qo ts).length []=none:=by
 have n6:=I.ok.n6;have np3:=I.ok.np3
 have lp:(qp ts).length<=3:=by
  have:=m7 (w:=az S.np) I.psn λi hi=>bt.mpr (I.ps.mp hi);rw[aR] at this;exact El np3 this
 have ld:(qo ts).length<=6:=by
  have:=m7 (w:=az S.n) I.dsn λi hi=>bt.mpr (I.ds.mp hi);rw[aR] at this;exact H8 n6 this
 have big:1000<=me:=by decide
 have mo:=I.most
 have tm:ts.length<=100:=by rw[split_len];exact M0 lp ld mo
 refine WR.call rfl rfl (zH (d:=d+9) I K hv hN λa τ h1=>?_);refine mJ h1.kx λna nc K1 Z=>?_;have hv1:=hv.low hN h1.fr;refine mX (nM (mE rfl) K1.ki K1.k rfl rfl (WR.val (s4 (o7 (v:=its) (g:=λt=>t.pi.map λk=>(S.Pk k).item k) rfl hv1 (Em big tm) λt Z=>G0) (s4 (v:=.int 2) rfl rfl)) ?_));rw[show (ts.filterMap λt=>t.pi.map λk=>(S.Pk k).item k)=(qp ts).map λk=>(S.Pk k).item k from fp.symm];refine (xE (d:=d) (X:=kx S N ts) (np:=S.np) pO.p114 rfl (λk hk=>I.pk (I.ps.mp hk)) (λk=>I.ps) np3 I.psn (λk hk=>(I.pfit k hk).2) h1.kx h1.e8 h1.lo).mono (λv υ h=>?_) λZ Z h=>.inl h;obtain ⟨r1,F1,t1,e1,f1,g1,k1,rc,b1,l1⟩:=h;subst e1;have b1:∀i,i < N->υ[i]?=τ[i]?:=b1;have hv2:=hv1.low hN b1;have lo2:N+10 < υ.length:=ao h1.lo l1;refine WR.val (a:=cF (.obj (N+1)) its a (some (.obj F1)) none none) (σ:=υ) rfl (mX (HF (mD rfl ?_)));refine mJ (id k1) λYO YM K2 Z=>?_;refine nM (mE rfl) K2.ki K2.k rfl rfl (WR.val (s4 (o7 (v:=its) (g:=λt=>t.di.map λk=>(S.Dk k).item k (S.sk k)) rfl hv2 (Em big tm) λt Z=>Gg) (s4 (v:=.int 3) rfl rfl)) ?_);rw[show (ts.filterMap λt=>t.di.map λk=>(S.Dk k).item k (S.sk k))=(qo ts).map λk=>(S.Dk k).item k (S.sk k) from fp.symm];refine (xD (d:=d) (X:=kx S N ts) (np:=S.np) (Pk:=S.Pk) (sk:=S.sk) pO.p114 rfl (λk hk=>I.ok.srt k (I.ds.mp hk)) (λk hk=>I.dk (I.ds.mp hk)) (λk hk=>I.ag (I.ds.mp hk)) (λk hk=>by have:=I.ds.mp hk;exact yJ n6 this) np3 I.hP (λk hk=>I.hco (I.ds.mp hk)) I.dsn (λk hk j hj=>I.ds.mpr (I.hcl (I.ds.mp hk) j hj)) k1 rc lo2).mono (λv φ h=>?_) λZ Z h=>.inr h;refine sg h λr2 F2 t2 e2 f2 g2 k2 b2 l2=>?_;subst e2;have lF1:F1 < υ.length:=(aq.mp f1).1;have len1:=tM t1;have len2:=tM t2;have f1':φ[F1]?=_:=(b2 F1 lF1 (.inr g1)).trans f1
 have hlen:((r1.map λk=>(S.Pk k).item k)++r2.map λk=>(S.Dk k).item k (S.sk k)).length<=9:=by
  rw[ah,ay,ay,len1,len2];show 0+(qp ts).length+(0+(qo ts).length)<=9;exact MZ lp ld
 refine WR.of (x7 f1' f2 (ac hlen (MY big))) ?_;have b3:∀i,i < N->φ[i]?=υ[i]?:=λi hi=>b2 i (H4 lo2 hi) (.inl hi);have hv3:=hv2.low hN b3;generalize hfnd:(r1.map λk=>(S.Pk k).item k)++(r2.map λk=>(S.Dk k).item k (S.sk k))=fnd at hlen;refine WR.val (a:=cF (.obj (N+1)) its a (some (.lst fnd)) none none) (σ:=φ) rfl (nG (v:=.lst ((ts.filter Tm.oth).map (Tm.vl S))) (ρ':=cF (.obj (N+1)) its a (some (.lst fnd)) (some (.lst ((ts.filter Tm.oth).map (Tm.vl S)))) none) ?_ rfl ?_)
 .rw[o7 (v:=its) (g:=λt=>if t.oth=true then some (t.vl S) else none) rfl hv3 (Em big tm) λt Z=>GY,yp]
 have lo:(ts.filter Tm.oth).length<=100:=ac (eB _ _) tm;refine sM (α:=Tm) (ks:=ts.filter Tm.oth) (g:=Tm.vl S) (I:=λZ ρ ψ=>(∃a,ρ=cF (.obj (N+1)) its a (some (.lst fnd)) (some (.lst ((ts.filter Tm.oth).map (Tm.vl S)))) none)/\KX (kx S N ts) ψ/\(∀i,i < N->ψ[i]?=φ[i]?)/\φ.length<=ψ.length) rfl ⟨⟨a,rfl⟩,k2,λZ Z=>rfl,aN _⟩ (λpre t Ry ρ ψ e hI=>?_) λρ ψ hI=>?_
 .refine vx hI λR6 hk hb hl=>?_;obtain ⟨a,ha⟩:=R6;subst ha
  have ht:t∈ts.filter Tm.oth:=by rw[e];exact bA _ ax
  have ht:=cC.mp ht;refine mJ (id hk) λYN YL K3 Z=>?_;refine q0 (ρ':=cF (.obj (N+1)) its (some (t.vl S)) (some (.lst fnd)) (some (.lst ((ts.filter Tm.oth).map (Tm.vl S)))) none) rfl (oZ (nM (mE rfl) K3.ki K3.k rfl rfl (WR.val (a:=[t.vl S]) (σ:=ψ) rfl ((vV (d:=d+2) I ht.1 ht.2 hk).mono (λv ω h=>mn ⟨rfl,⟨_,rfl⟩,h.1,λi hi=>(h.2.1 i hi).trans (hb i hi),ac hl h.2.2⟩) λZ Z h=>h.elim))))
 .refine vx hI λR6 hk hb hl=>?_;obtain ⟨a,ha⟩:=R6;subst ha;refine nG (v:=.lst ((ts.filter Tm.oth).filterMap λt=>if (t.hd==166)=true then some (t.vl S) else none)) (ρ':=cF (.obj (N+1)) its a (some (.lst fnd)) (some (.lst ((ts.filter Tm.oth).map (Tm.vl S)))) (some (.lst ((ts.filter Tm.oth).filterMap λt=>if (t.hd==166)=true then some (t.vl S) else none)))) (o7 (v:=.lst ((ts.filter Tm.oth).map (Tm.vl S))) (g:=λt=>if (t.hd==166)=true then some (t.vl S) else none) rfl (.inl rfl) (MW big mo) λt Z=>Hf) rfl ?_;have Xm:=Bx (S:=S) (ts:=ts.filter Tm.oth) (I.nd.sublist (gw.map _));generalize ((ts.filter Tm.oth).filterMap λt=>if (t.hd==166)=true then some (t.vl S) else none)=sl at Xm ⊢;refine mS (oo (v:=.int sl.length) (w:=.int 1) rfl rfl (congrArg some (decide_eq_false (MV Xm)))) (n8 (WR.val (oH (v:=.lst fnd) (w:=.lst ((ts.filter Tm.oth).map (Tm.vl S))) (mE rfl) (mE rfl) (s6 ?_)) ⟨r1,r2,t1,t2,?_,λi hi=>?_,?_⟩))
  .rw[ah,ay];exact MU big mo hlen
  .rw[hfnd];rfl
  .rw[hb i hi,b3 i hi,b1 i hi,h1.fr i hi]
  .have:=h1.len;exact MT l1 l2 hl this
end
end
section
open L1
section
variable {l:St}{i:Nat}{o:O}
theorem wO:(σ++l)[σ.length+i]?=l[i]?:=by rw[aI (aA _ _),dg]
theorem F6:(σ++l).set (σ.length+i) o=σ++l.set i o:=by rw[i5 _ _ (aA _ _),dg]
theorem qJ:dE pg false C (.dict [] .nil) ρ (σ++l)=.ok (.obj (σ.length+l.length)) (σ++(l++[.dict []])):=by
 show R.ok (V.obj (σ++l).length) ((σ++l)++[O.dict []])=_;rw[ah,ba]
end
theorem um{l l':St}{i:Nat}{D:List (Nat×V)}{x:V}(h0:ρ[0]?.join=some (.obj (σ.length+i)))(hi:l[i]?=some (.inst c (σ.length+j)))(hj:l[j]?=some (.dict D))(hl:D.length < me)(he:l.set j (.dict (ng D k x))=l'):dA pg false C (.attr (.v 0) k) x ρ (σ++l)=.ok ρ (σ++l'):=by
 have:=Iw (P:=pg) (C:=C) (q:=false) (k:=k) (x:=x) (mE h0:dE pg false C (.v 0) ρ (σ++l)=.ok (.obj (σ.length+i)) (σ++l)) (wO.trans hi) (wO.trans hj) hl;rw[this,F6,he]
theorem Di{m:St}:newL true l (σ++m)=.ok (.obj (σ.length+m.length)) (σ++(m++[.list l])):=by
 show R.ok (V.obj (σ++m).length) ((σ++m)++[O.list l])=_;rw[ah,ba]
theorem C4{P:Pg}{q:Bool}{m:St}{f:Nat}{Q:V->St->Prop}{E:Unit->St->Prop}(hf:P.init c=some f)(h:WR (C f [.obj (σ.length+(m.length+1))] (σ++(m++[.dict [],.inst c (σ.length+m.length)]))) (λr τ=>r=.none/\Q (.obj (σ.length+(m.length+1))) τ) E):WR (dE P q C (.new c) ρ (σ++m)) Q E:=by
 refine WR.opt hf (WR.bind ?_);rw[ah,ba];exact h.mono (λr τ h=>by rw[h.1];exact h.2) λZ Z h=>h
noncomputable def rg(N:Nat):St:=[.dict [(129,.obj (N+3)),(149,.obj (N+7)),(34,.obj (N+8)),(37,.obj (N+9)),(107,.bool false),(45,.obj (N+10))],.inst 1 N,.dict [(162,.obj (N+5)),(32,.obj (N+6))],.inst 0 (N+2),.dict [],.list [.obj (N+4)],.dict [],.dict [],.dict [],.dict [],.dict []]
theorem B8{Q:V->St->Prop}{E:Unit->St->Prop}(h:Q (.obj (σ.length+1)) (σ++rg σ.length)):WR (dE pg false (mu pg (d+2) false) (.new 1) ρ (σ++[])) Q E:=by
 refine C4 rfl (WR.call rfl rfl (mX (C4 (m:=[.dict [],.inst 1 σ.length]) rfl (WR.call rfl rfl ?_))));refine mX (oG (mf (WR.val qJ (mx ⟨rfl,WR.val Di (WR.val (um (i:=3) (j:=2) (c:=0) (D:=[]) (l':=[.dict [],.inst 1 σ.length,.dict [(162,.obj (σ.length+5))],.inst 0 (σ.length+2),.dict [],.list [.obj (σ.length+4)]]) rfl rfl rfl (by decide) rfl) ?_)⟩))));refine mX (WR.val qJ (WR.val (um (i:=3) (j:=2) (c:=0) (D:=[(162,.obj (σ.length+5))]) (l':=[.dict [],.inst 1 σ.length,.dict [(162,.obj (σ.length+5)),(32,.obj (σ.length+6))],.inst 0 (σ.length+2),.dict [],.list [.obj (σ.length+4)],.dict []]) rfl rfl rfl (show 1 < me by decide) rfl) (mn ⟨rfl,?_⟩)));refine WR.val (um (i:=1) (j:=0) (c:=1) (D:=[]) (l':=[.dict [(129,.obj (σ.length+3))],.inst 1 σ.length,.dict [(162,.obj (σ.length+5)),(32,.obj (σ.length+6))],.inst 0 (σ.length+2),.dict [],.list [.obj (σ.length+4)],.dict []]) rfl rfl rfl (by decide) rfl) ?_;refine mX (WR.val qJ (WR.val (um (i:=1) (j:=0) (c:=1) (D:=[(129,.obj (σ.length+3))]) (l':=[.dict [(129,.obj (σ.length+3)),(149,.obj (σ.length+7))],.inst 1 σ.length,.dict [(162,.obj (σ.length+5)),(32,.obj (σ.length+6))],.inst 0 (σ.length+2),.dict [],.list [.obj (σ.length+4)],.dict [],.dict []]) rfl rfl rfl (show 1 < me by decide) rfl) ?_));refine mX (WR.val qJ (WR.val (um (i:=1) (j:=0) (c:=1) (D:=[(129,.obj (σ.length+3)),(149,.obj (σ.length+7))]) (l':=[.dict [(129,.obj (σ.length+3)),(149,.obj (σ.length+7)),(34,.obj (σ.length+8))],.inst 1 σ.length,.dict [(162,.obj (σ.length+5)),(32,.obj (σ.length+6))],.inst 0 (σ.length+2),.dict [],.list [.obj (σ.length+4)],.dict [],.dict [],.dict []]) rfl rfl rfl (show 2 < me by decide) rfl) ?_));refine mX (WR.val qJ (WR.val (um (i:=1) (j:=0) (c:=1) (D:=[(129,.obj (σ.length+3)),(149,.obj (σ.length+7)),(34,.obj (σ.length+8))]) (l':=[.dict [(129,.obj (σ.length+3)),(149,.obj (σ.length+7)),(34,.obj (σ.length+8)),(37,.obj (σ.length+9))],.inst 1 σ.length,.dict [(162,.obj (σ.length+5)),(32,.obj (σ.length+6))],.inst 0 (σ.length+2),.dict [],.list [.obj (σ.length+4)],.dict [],.dict [],.dict [],.dict []]) rfl rfl rfl (show 3 < me by decide) rfl) ?_));refine mX (mV (WR.val (um (i:=1) (j:=0) (c:=1) (D:=[(129,.obj (σ.length+3)),(149,.obj (σ.length+7)),(34,.obj (σ.length+8)),(37,.obj (σ.length+9))]) (l':=[.dict [(129,.obj (σ.length+3)),(149,.obj (σ.length+7)),(34,.obj (σ.length+8)),(37,.obj (σ.length+9)),(107,.bool false)],.inst 1 σ.length,.dict [(162,.obj (σ.length+5)),(32,.obj (σ.length+6))],.inst 0 (σ.length+2),.dict [],.list [.obj (σ.length+4)],.dict [],.dict [],.dict [],.dict []]) rfl rfl rfl (show 4 < me by decide) rfl) ?_));exact mX (WR.val qJ (WR.val (um (i:=1) (j:=0) (c:=1) (D:=[(129,.obj (σ.length+3)),(149,.obj (σ.length+7)),(34,.obj (σ.length+8)),(37,.obj (σ.length+9)),(107,.bool false)]) (l':=rg σ.length) rfl rfl rfl (show 5 < me by decide) rfl) (mn ⟨rfl,h⟩)))
theorem yA{S:Sd}:NI S σ.length σ [] (σ++rg σ.length):=by
 have g:∀(i:Nat) {o:O},(rg σ.length)[i]?=some o->(σ++rg σ.length)[σ.length+i]?=some o:=λi {o} e=>wO.trans e;have s:nP σ (σ++rg σ.length):=λi hi=>aJ hi
 have l:(σ++rg σ.length).length=σ.length+11:=by rw[ah];rfl
 refine⟨⟨σ.length+6,σ.length+10,⟨g 0 rfl,g 1 rfl,g 2 rfl,g 3 rfl,g 4 rfl,g 5 rfl,g 7 rfl,g 9 rfl,λi hi h6=>by show σ.length+6≠σ.length+i;exact Nc h6,λi hi h6=>by show σ.length+10≠σ.length+i;exact Nb hi,by show σ.length+6≠σ.length+10;exact Na,⟨aA _ _,aA _ _⟩,.inl rfl⟩,[],[],⟨aN _,λZ Z Z Z=>rfl,g 6 rfl,g 10 rfl,.nil,.nil⟩⟩,λi hi=>s i hi,M8 l,g 8 rfl,M7 l⟩
theorem IM{P:Pg}{C:Bool->Call}{b h:MS}{Q:Fl×mc->St->Prop}{E:mc->St->Prop}(hb:WR (dS P C false b ρ σ) Q λρ σ=>WR (dS P C true h ρ σ) Q λZ Z=>False):WR (dS P C false (.tryx b h) ρ σ) Q E:=by
 refine WR.gdp rfl (WR.fin (hb.mono (λZ Z h=>h) λZ Z h=>?_));exact WR.fin (h.mono (λZ Z h=>h) λZ Z h=>h.elim)
theorem GI{P:Pg}{f:Nat}{l:List (Nat×V)}(hn:σ[n]?=some (.inst c d))(hd:σ[d]?=some (.dict l))(hg:mC l k=none)(hm:P.meth c k=some f):t9 P σ (.obj n) k=some f:=by
 show (qG σ n).bind (λc=>(dictAt σ c.2).bind λl=>if (mC l k).isNone=true then P.meth c.1 k else none)=_;unfold qG;rw[hn];show (dictAt σ d).bind (λl=>if (mC l k).isNone=true then P.meth c k else none)=_;unfold dictAt;rw[hd];show (if (mC l k).isNone=true then P.meth c k else none)=_;rw[hg];exact hm
def KA(S:Sd)(ts:List Tm)(v:V):Prop:=(∃r1 r2,m8 (qR S.Pk) (qp ts) (qp ts).length []=some r1/\m8 (λk=>pG S.Pk S.np (S.Dk k)) (qo ts) (qo ts).length []=some r2/\v=.lst (((r1.map λk=>(S.Pk k).item k)++r2.map λk=>(S.Dk k).item k (S.sk k))++(ts.filter Tm.oth).map (Tm.vl S)))
 \/ (m8 (qR S.Pk) (qp ts) (qp ts).length []=none\/m8 (λk=>pG S.Pk S.np (S.Dk k)) (qo ts) (qo ts).length []=none)/\v=.none
theorem y6{S:Sd}(I:pO S ss ts)(hv:Sq σ its (ts.map (Tm.vl S)))(hN:∀n,its=.obj n->n < σ.length):
  WR (mu pg (d+13) false 43 [its] σ) (λv τ=>KA S ts v/\(v≠.none->∀i,i < σ.length->τ[i]?=σ[i]?)) λZ Z=>False:=by
 refine WR.call rfl rfl (mw (IM (n8 (C3 ?_))));have e0:σ++[]=σ:=aT σ
 have hk:WR (dE pg false (mu pg (d+12) false) (.new 1) [some its] σ) (λv τ=>v=.obj (σ.length+1)/\τ=σ++rg σ.length) λZ Z=>False:=by
  have:=B8 (d:=d+10) (σ:=σ) (ρ:=[some its]) (Q:=λv τ=>v=.obj (σ.length+1)/\τ=σ++rg σ.length) (E:=λZ Z=>False) ⟨rfl,rfl⟩;rw[e0] at this;exact this
 refine hk.mono (λv τ h=>?_) λZ Z h=>h.elim;refine nt h λe1 e2=>?_;subst e1;subst e2;have K:=yA (S:=S) (σ:=σ);refine mJ K.kx λna nc K1 Z=>?_;refine Kr (GI K1.ki K1.k rfl rfl) (mf (mD rfl (mx ((BW (d:=d) (N:=σ.length) I ⟨K.kx,λZ Z=>rfl,aN _,K.e8,K.lo⟩ (hv.low hN K.fr) hN).mono (λv τ h=>?_) λu τ h=>?_))))
 .refine sD h λr1 r2 t1 t2 e b l=>?_;exact (nj ⟨.inl ⟨r1,r2,t1,t2,e⟩,λZ i hi=>(b i hi).trans (K.fr i hi)⟩)
 .exact n8 (mV (nj ⟨.inr ⟨h,rfl⟩,λh=>(h rfl).elim⟩))
end
section
open L1
def uV(need:Nat->List Nat)(r:List Nat):Prop:=∀a k b,r=a++k::b->k∉a/\(need k).all a.contains=true
section
theorem B0{f:List Nat}(h:uV need f)(h1:k∉f)(h2:(need k).all f.contains=true):uV need (f++[k]):=λa j b e=>by
 rcases List.eq_nil_or_concat b with hb | ⟨b',x,hb⟩
 .subst hb;refine nt (j5 e rfl) λe1 e2=>?_
  cases e2
  rw[<-e1];exact⟨h1,h2⟩
 .rw[List.concat_eq_append] at hb;subst hb
  have e:f++[k]=(a++j::b')++[x]:=by rw[e,ba];rfl
  refine nt (j5 e rfl) λe1 Z=>?_;exact h a j b' e1
theorem G5{f:List Nat}(h:qU need order f=some k):k∈order/\k∉f/\(need k).all f.contains=true:=by
 have h:=i4 (show k∈(order.filter λk=>!f.contains k&&(need k).all f.contains).head? from h);have h:=cC.mp h;have h2:=b2 h.2;exact⟨h.1,λhm=>by rw[bx.mpr hm] at h2;exact ma h2.1,h2.2⟩
theorem wF:∀{n:Nat} {f r:List Nat},m8 need order n f=some r->uV need f->(∀x∈f,x∈order)->uV need r/\∀x∈r,x∈order
 |0,f,r,h,hg,hf=>by cases h;exact⟨hg,hf⟩
 |n+1,f,r,h,hg,hf=>by
  refine l8 (bs (show (qU need order f).bind (λk=>m8 need order n (f++[k]))=some r from h)) λk h1 h2=>?_;have hp:=G5 h1
  exact wF h2 (B0 hg hp.2.1 hp.2.2) λx hx=>(aH.mp hx).elim (hf x) λh=>by rw[au.mp h];exact hp.1
theorem zM:∀{r:List Nat},uV need r->r.Nodup:=λ{r} h=>by
 have go:∀b a,r=a++b->a.Nodup->r.Nodup:=λb=>by
  induction b with
  |nil=>intro a e ha;rw[e,aT];exact ha
  |cons k b ih=>
   intro a e ha;refine ih (a++[k]) (by rw[ba];exact e) (bV.mpr ⟨ha,bo.mpr ⟨λh=>(nomatch h),cu⟩,λx hx y hy e'=>(h a k b e).1 ?_⟩);rw[<-au.mp hy,<-e'];exact hx
 exact go r [] rfl cu
theorem y9{r:List Nat}(hd:order.Nodup)(h:m8 need order order.length []=some r):uV need r/\r.Nodup/\∀x,x∈r↔x∈order:=by
 have hg:=wF h (λa k b e=>by cases a<;>exact nomatch e) λx hx=>nomatch hx;have hn:=zM hg.1;refine⟨hg.1,hn,λx=>⟨hg.2 x,λhx=>gX λhc=>?_⟩⟩;have:=m7 (w:=order) (bo.mpr ⟨hc,hn⟩) λy hy=>(bd.mp hy).elim (λe=>by rw[e];exact hx) (hg.2 y);have h2:=tM h;rw[cM,h2] at this;have:0+order.length+1<=order.length:=this;rw[dz] at this;exact jg _ this
theorem sW{r:List Nat}(hg:uV need r):∀(b:List Nat) {a:List Nat},r=a++b->m8 need r b.length a=some r
 |[],a,e=>by rw[aT] at e;rw[e];rfl
 |k::b,a,e=>by
  have hk:=hg a k b e
  have:qU need r a=some k:=by
   unfold qU;rw[e,cZ,cj.mpr λx hx=>by rw[bx.mpr hx];exact bR,gq,dN,if_pos]
   .rfl
   .rw[hk.2,fh]
    cases hc:a.contains k with
    |false=>rfl
    |true=>exact (hk.1 (bx.mp hc)).elim
  show (qU need r a).bind _=_;rw[this];exact sW hg b (by rw[ba];exact e)
end
noncomputable def qF(ts:List Tm)(r1 r2:List Nat):List Tm:=(r1.map Tm.p++r2.map Tm.d)++ts.filter Tm.oth
section
variable {S:Sd}{r1 r2:List Nat}
theorem Dy:(qF ts r1 r2).map (Tm.vl S)=((r1.map λk=>(S.Pk k).item k)++r2.map λk=>(S.Dk k).item k (S.sk k))++(ts.filter Tm.oth).map (Tm.vl S):=by
 unfold qF;rw[bf,bf,cS,cS];rfl
theorem uO{f:α->Option β}{l:List α}(h:∀x∈l,f x=none):l.filterMap f=[]:=gY.mpr h
theorem zL{f:Tm->Option Nat}{g:Nat->Tm}(h:∀k,f (g k)=some k):∀{l:List Nat},(l.map g).filterMap f=l
 |[]=>rfl
 |k::l=>by rw[fm,bE (h k),zL h]
theorem DA:qp (qF ts r1 r2)=r1:=by
 unfold qp qF;rw[cH,cH,zL (g:=Tm.p) λZ=>rfl,uO (l:=r2.map Tm.d) λx hx=>(aW.mp hx).elim λk h=>by rw[<-h.2];rfl,uO (l:=ts.filter Tm.oth) λx hx=>?_,aT,aT];have:=(cC.mp hx).2
 cases x<;>first | exact ma this | rfl
theorem Dz:qo (qF ts r1 r2)=r2:=by
 unfold qo qF;rw[cH,cH,zL (g:=Tm.d) λZ=>rfl,uO (l:=r1.map Tm.p) λx hx=>(aW.mp hx).elim λk h=>by rw[<-h.2];rfl,uO (l:=ts.filter Tm.oth) λx hx=>?_,aT,gq];have:=(cC.mp hx).2
 cases x<;>first | exact ma this | rfl
theorem Bc:(qF ts r1 r2).filter Tm.oth=ts.filter Tm.oth:=by
 unfold qF;rw[cZ,cZ,cj.mpr λx hx=>(aW.mp hx).elim λk h=>by rw[<-h.2];exact bR,cj.mpr λx hx=>(aW.mp hx).elim λk h=>by rw[<-h.2];exact bR,gO];exact g9 λx Z=>Bool.and_self _
theorem pZ{α β:Type}{g:α->β}(hg:∀x y,g x=g y->x=y):∀{l:List α},l.Nodup->(l.map g).Nodup
 |[],_=>cu
 |a::l,h=>by
  have h:=bo.mp h;refine bo.mpr ⟨λhm=>?_,pZ hg h.2⟩;refine l8 (aW.mp hm) λb hb e=>?_;rw[hg b a e] at hb;exact h.1 hb
theorem pO.due(I:pO S ss ts)(n1:r1.Nodup)(h1:∀x,x∈r1↔x∈qp ts)(n2:r2.Nodup)(h2:∀x,x∈r2↔x∈qo ts):pO S ss (qF ts r1 r2):=by
 have mem:∀t,t∈qF ts r1 r2↔t∈ts:=λt=>by
  have hm:∀l r o:List Tm,t∈(l++r)++o↔t∈l\/t∈r\/t∈o:=λl r o=>by rw[aH,aH,or_assoc]
  have e:=hm (r1.map Tm.p) (r2.map Tm.d) (ts.filter Tm.oth);refine e.trans ?_;constructor
  .rintro (h | h | h)
   .refine l8 (aW.mp h) λk hk e=>?_;rw[<-e];exact I.allp k (I.ps.mp ((h1 k).mp hk))
   .refine l8 (aW.mp h) λk hk e=>?_;rw[<-e];exact I.alld k (I.ds.mp ((h2 k).mp hk))
   .exact (cC.mp h).1
  .intro h
   cases t with
   |p k=>exact .inl (aW.mpr ⟨k,(h1 k).mpr (I.ps.mpr (I.inn _ h).1),rfl⟩)
   |d k=>exact .inr (.inl (aW.mpr ⟨k,(h2 k).mpr (I.ds.mpr (I.inn _ h).1),rfl⟩))
   |_=>exact .inr (.inr (cC.mpr ⟨h,rfl⟩))
 refine⟨I.ok,I.srt,I.len,I.dfit,I.pfit,I.two,λt ht=>I.inn t ((mem t).mp ht),?_,λk hk=>(mem _).mpr (I.alld k hk),λk hk=>(mem _).mpr (I.allp k hk),λk u w hk e=>(mem _).mpr (I.alll k u w hk e),by rw[Bc];exact I.most⟩;unfold qF;rw[bf,bf,cS,cS]
 have hk:∀{g:Nat->Tm} {c:Nat},(∀k,(g k).key=(c,k))->∀{r:List Nat} {x:Nat×Nat},x∈r.map (Tm.key∘g)->x.1=c:=by
  intro g c hg r x h;refine l8 (aW.mp h) λk Z e=>?_;rw[<-e];show (Tm.key (g k)).1=_;rw[hg]
 have ho:∀x∈(ts.filter Tm.oth).map Tm.key,x.1≠0/\x.1≠1:=λx h=>(aW.mp h).elim λt h=>by
  rw[<-h.2];have:=(cC.mp h.1).2
  cases t<;>first | exact ma this | exact⟨λh=>(nomatch h),λh=>(nomatch h)⟩
 refine bV.mpr ⟨bV.mpr ⟨pZ (λx y e=>(fw e).2) n1,pZ (λx y e=>(fw e).2) n2,λx hx y hy e=>?_⟩,I.nd.sublist (gw.map _),λx hx y hy e=>?_⟩
 .have a:=hk (c:=1) (λZ=>rfl) hx;rw[e,hk (c:=0) (λZ=>rfl) hy] at a;exact nomatch a
 .have o:=ho y hy;rw[<-e] at o
  rcases aH.mp hx with h | h
  .exact o.2 (hk (c:=1) (λZ=>rfl) h)
  .exact o.1 (hk (c:=0) (λZ=>rfl) h)
end
end
section
open L1
noncomputable abbrev lE(s:V)(n:Nat)(SL Sm Sl Sk Sj Si TR SR SA VK VJ VI VH:Option V):mc:=[some s,some (.obj 0),some (.obj 1),some (.int n),some (.obj 2),some (.obj 3),some (.obj 4),some (.obj 5),some (.obj 6),some (.obj 7),some (.obj 8),SL,Sm,Sl,Sk,Sj,Si,some (.obj 9),TR,SR,SA,VK,VJ,VI,VH,none,none,none,none,none,none]
structure LS(S:Sd)(ts:List Tm)(σ:St):Prop where
 d:σ[3]?=some (.list ((az S.n).map λk=>(S.Dk k).item k (S.sk k)))
 a:σ[4]?=some (.list ((az S.n).map λk=>.lst (mj (S.Dk k).asks)))
 r:σ[5]?=some (.list ((az S.n).map λk=>.lst (mj (S.Dk k).co.toList)))
 p:σ[6]?=some (.list ((az S.np).map λk=>(S.Pk k).item k))
 s:σ[7]?=some (.list ((az S.np).map λk=>.lst (mj (S.Pk k).u.asks)))
 g:σ[8]?=some (.list ((az S.np).map λk=>.lst (mj (S.Pk k).c.toList)))
 i:σ[9]?=some (.list (ts.map (Tm.vl S)))
theorem LS.mono{S:Sd}(h:LS S ts σ)(k:∀i,i < 10->τ[i]?=σ[i]?):LS S ts τ:=⟨(k 3 (by decide)).trans h.d,(k 4 (by decide)).trans h.a,(k 5 (by decide)).trans h.r,(k 6 (by decide)).trans h.p,(k 7 (by decide)).trans h.s,(k 8 (by decide)).trans h.g,(k 9 (by decide)).trans h.i⟩
theorem qx{f:Nat->V}(h:k < n):((az n).map f)[k]?=some (f k):=by rw[cB,gx h];rfl
theorem qV{pre Ry:List Nat}(e:az n=pre++k::Ry):pre=az k/\k < n:=by
 have hl:pre.length < n:=by
  have:=congrArg kr e;rw[aR,ah,cM] at this;exact Nn this
 have hk:(az n)[pre.length]?=some k:=by rw[e,aI (aN _),bC];rfl
 rw[gx hl] at hk;have hk:=am hk;refine⟨?_,Nl hl hk⟩
 have:(az n).take pre.length=pre:=by rw[e,List.take_left'];rfl
 rw[<-this,List.take_range,iU (bK hl),hk]
theorem FX{P:Pg}(h:dE P false C e ρ σ=.ok (.int n) σ)(hn:n<=1000):dI P false C (.rng (.c1 e)) ρ σ=.ok (.items ((az n).map λi:Nat=>V.int i)) σ:=by
 show (dL P false C (.c1 e) ρ σ).bind wv=_;rw[s4 h rfl];show gd (0<=(n:Int)/\(n:Int)<=me) (R.ok (It.items (oF n)) σ)=_;unfold gd;rw[if_pos ⟨bj _,bH.mpr (ac hn (by decide))⟩];unfold oF;rw[bU]
theorem IF{P:Pg}{f:Nat}{Q:It->St->Prop}{E:Unit->St->Prop}(h:WR (dE P false C (.call f es) ρ σ) (λv σ=>WR (uD v σ) Q E) E):WR (dI P false C (.call f es) ρ σ) Q E:=WR.bind h
theorem HG(h:dE pg false C e ρ σ=.ok (.lst l) σ)(hl:l.length<=1000):dE pg false C (.bi (.list false) e) ρ σ=.ok (.lst l) σ:=by
 show (dE pg false C e ρ σ).bind (λv σ=>uI σ (.list false) v)=_;rw[h];show gd (l.length<=me) (.ok (V.lst l) σ)=_;unfold gd;rw[if_pos (ac hl (by decide))]
theorem wX{c:Nat->Option Nat}:∀(n:Nat) {f:List Nat} {o:Option Nat},(vU c n f o).length<=f.length+n
 |0,f,o=>aN _
 |n+1,f,none=>aA _ _
 |n+1,f,some i=>by
  show (if f.contains i=true then f else vU c n (f++[i]) (c i)).length<=_
  split
  .exact aA _ _
  .have:=wX n (c:=c) (f:=f++[i]) (o:=c i);rw[ah] at this;exact ac this (by show f.length+1+n<=_;exact Nk)
theorem u9{Pk:Nat->Pd}:∀{l:List Nat},(l.flatMap λi=>(Pk i).u.asks).length<=l.length
 |[]=>aN _
 |i::l=>by
  rw[List.flatMap_cons,ah,cM];exact ac (bk (Pk i).u.asks_len (u9 (Pk:=Pk) (l:=l))) (bB (gz 1 _))
theorem Dc.asks_len(D:Dc):D.asks.length<=2:=by
 cases D with
 |sized u=>exact ac u.asks_len (by decide)
 |call n u=>exact ac u.asks_len (by decide)
 |val u w=>show (u.asks++w.asks).length<=2;rw[ah];exact bk u.asks_len w.asks_len
 |late u w=>show (u.asks++w.asks).length<=2;rw[ah];exact bk u.asks_len w.asks_len
theorem Et{np:Nat}{D:Dc}(h:np<=3):(pG Pk np D).length<=6:=by
 unfold pG;rw[ah];have h2:(rF Pk np D).length<=([]:List Nat).length+(np+1):=wX (np+1);exact bk D.asks_len (ac (u9 (Pk:=Pk) (l:=rF Pk np D)) (ac h2 (aC (bL h) 0)))
noncomputable def Ij:MS:=.a (.v 19) (.bi (.list false) (.idx (.v 6) (.v 11))) (.q (.for (.v 20) (.call 41 (.c2 (.idx (.v 7) (.v 11)) (.v 10))) (.a (.v 19) (.bin .add (.v 19) (.idx (.v 9) (.v 20))) .skip)) (.q (.expr (.bm .append (.v 18) (.c1 (.v 19)))) .skip))
section
variable {S:Sd}{s:V}
theorem Es(I:pO S ss ts)(L:LS S ts τ)(hk:k < S.n)(hl:11<=τ.length)(hm:τ.length<=900){nd:List V}(hn:τ[10]?=some (.list nd))(VN:nd.length<=10):
  WR (dS pg (mu pg (d+1)) false Ij (lE s S.n (some (.int k)) Sm Sl Sk Sj Si (some (.obj 10)) SR SA none none none none) τ)
   (λp υ=>p.1=.next/\(∃SR SA,p.2=lE s S.n (some (.int k)) Sm Sl Sk Sj Si (some (.obj 10)) SR SA none none none none)/\(∀i,i < 10->υ[i]?=τ[i]?)/\υ[10]?=some (.list (nd++[.lst (mj (pG S.Pk S.np (S.Dk k)))]))/\υ.length=τ.length+2) λZ Z=>False:=by
 have np3:=I.ok.np3;refine nG (v:=.lst (mj (S.Dk k).asks)) (ρ':=lE s S.n (some (.int k)) Sm Sl Sk Sj Si (some (.obj 10)) (some (.lst (mj (S.Dk k).asks))) SA none none none none) (HG (nC (v:=.obj 4) (w:=.int k) (mE rfl) (mE rfl) (item_at L.a (qx hk))) ?_) rfl ?_
 .show ((S.Dk k).asks.map _).length<=1000;rw[ay];exact ac (Dc.asks_len _) (by decide)
 refine mw (qr rfl (IF (m5 (mf (WR.val (nC (v:=.obj 5) (w:=.int k) (mE rfl) (mE rfl) (item_at L.r (qx hk))) (mf (mD rfl (mx ((Gm (d:=d) (N:=S.np) (c:=λi=>(S.Pk i).c) (o:=(S.Dk k).co) np3 (λi hi=>(I.hP i hi).2) (λi hi=>qx hi) (la L.g) (I.hco hk) (Nj hm)).mono (λv υ h=>?_) λZ Z h=>h.elim))))))))) ;refine vx h λe1 e2 e3 e4=>?_;subst e1;have eF:υ[τ.length]?=some (.list (mj (rF S.Pk S.np (S.Dk k)))):=listAt_eq e2;have Lυ:LS S ts υ:=L.mono λi hi=>e3 i (En hl hi)
 have flen:(rF S.Pk S.np (S.Dk k)).length<=4:=by
  have h2:(rF S.Pk S.np (S.Dk k)).length<=([]:List Nat).length+(S.np+1):=wX (S.np+1);have h3:([]:List Nat).length=0:=rfl;exact Ni np3 h2 h3
 refine WR.val (a:=.live τ.length) (σ:=υ) (by show R.opt (listAt υ τ.length) _=_;rw[la eF];rfl) ?_
 have hfu:(It.live τ.length).fuel υ=(rF S.Pk S.np (S.Dk k)).length+1:=by
  show ((listAt υ τ.length).map λl=>l.length+1).getD 0=_;rw[la eF];show ((rF S.Pk S.np (S.Dk k)).map _).length+1=_;rw[ay]
 rw[hfu];refine (qO (α:=Nat) (g:=λi:Nat=>V.int i) (ks:=rF S.Pk S.np (S.Dk k)) (I:=λpre ρ ω=>ω=υ/\∃SA,ρ=lE s S.n (some (.int k)) Sm Sl Sk Sj Si (some (.obj 10)) (some (.lst (mj ((S.Dk k).asks++pre.flatMap λi=>(S.Pk i).u.asks)))) SA none none none none) (E:=λZ Z=>False) (λpre ρ ω hI i=>?_) (λpre i Ry ρ ω e hI=>?_) (rF S.Pk S.np (S.Dk k)) (pre:=[]) rfl ⟨rfl,SA,by rw[List.flatMap_nil,aT]⟩).mono (λp ω h=>?_) λZ Z h=>h.elim
 .rw[hI.1];show (listAt υ τ.length).map (λl=>l[i]?)=_;rw[la eF];rfl
 .refine OS hI λw1 W1 w2=>?_;subst w1;subst w2;have hi:i < S.np:=uN (λi hi=>(I.hP i hi).2) (S.np+1) (f:=[]) (λi h=>nomatch h) (I.hco hk) i (by show i∈rF S.Pk S.np (S.Dk k);rw[e];exact bA _ ax)
  have S9:pre.length<=4:=by rw[e,ah] at flen;exact Nh flen
  refine q0 (ρ':=lE s S.n (some (.int k)) Sm Sl Sk Sj Si (some (.obj 10)) (some (.lst (mj ((S.Dk k).asks++pre.flatMap λi=>(S.Pk i).u.asks)))) (some (.int i)) none none none none) rfl ?_;refine nG (oH (v:=.lst (mj ((S.Dk k).asks++pre.flatMap λi=>(S.Pk i).u.asks))) (w:=.lst (mj (S.Pk i).u.asks)) (mE rfl) (nC (v:=.obj 7) (w:=.int i) (mE rfl) (mE rfl) (item_at Lυ.s (qx hi))) (s6 ?_)) rfl (mn ⟨rfl,rfl,some (.int i),?_⟩)
  .unfold mj;rw[ah,ay,ay,ah];exact ac (bk (bk (S.Dk k).asks_len (ac (u9 (Pk:=S.Pk) (l:=pre)) S9)) (S.Pk i).u.asks_len) (by decide)
  .have:mj ((S.Dk k).asks++pre.flatMap λi=>(S.Pk i).u.asks)++mj (S.Pk i).u.asks=mj ((S.Dk k).asks++(pre++[i]).flatMap λi=>(S.Pk i).u.asks):=by
    unfold mj;rw[List.flatMap_append,<-bf,ba,List.flatMap_singleton]
   rw[this];rfl
 .obtain ⟨fl,ρ⟩:=p;refine z6 h λh1 h2 W1 h3=>?_;have h1:fl=.next:=h1;have h3:ρ=_:=h3;subst h1;subst h2;subst h3;have en:ω[10]?=some (.list nd):=(e3 10 (H9 hl)).trans hn;refine mh (mw (rP (n:=10) (l:=nd) rfl (la en) (aB VN (by decide)) (mE rfl) (mh (mn ⟨rfl,⟨_,_,rfl⟩,λi hi=>?_,?_,?_⟩))))
  .rw[aj (Ng hi)];exact e3 i (En hl hi)
  .exact aF (Nf hl e4)
  .rw[aV];exact e4
end
end
section
open L1
noncomputable def Le:MS:=.f (.or (.c2 (.cmp .is (.v 21) (.lit .none)) (.cmp .is (.v 22) (.lit .none)))) (.r (.cmp .is (.v 23) (.lit .none))) (.a (.v 24) (.bin .add (.comp (.v 26) (.v 21) .nil (.idx (.v 8) (.v 26))) (.comp (.v 27) (.v 22) .nil (.idx (.v 5) (.v 27)))) (.a (.v 24) (.bin .add (.v 24) (.comp (.v 25) (.v 17) (.cmp .notin (.x (.v 25) 0) (.tup (.c2 (.s 148) (.s 68)))) (.v 25))) (.r (.and (.c2 (.cmp .eq (.v 23) (.v 24)) (.cmp .eq (.call 43 (.c1 (.v 24))) (.v 24)))))))
noncomputable def JZ:MS:=.a (.v 21) (.call 42 (.c2 (.comp (.v 29) (.v 17) (.cmp .eq (.x (.v 29) 0) (.s 148)) (.bin .sub (.x (.v 29) 1) (.i 50))) (.v 10))) (.a (.v 22) (.call 42 (.c2 (.comp (.v 28) (.v 17) (.cmp .eq (.x (.v 28) 0) (.s 68)) (.bin .sub (.x (.v 28) 1) (.i 10))) (.v 18))) (.a (.v 23) (.call 43 (.c1 (.v 17))) Le))
noncomputable def Lr:MS:=.a (.v 18) (.lst true .nil) (.q (.for (.v 11) (.rng (.c1 (.v 3))) Ij) JZ)
def TV(σ:St)(t:Option (List Nat))(n:Nat)(v:V):Prop:=(t=none/\v=.none)\/∃r,t=some r/\v=.obj n/\σ[n]?=some (.list (mj r))
theorem TV.same{t:Option (List Nat)}{v:V}(h:TV σ t n v)(k:nP σ τ):TV τ t n v:=h.imp id λ⟨r,h1,h2,h3⟩=>⟨r,h1,h2,k.at h3⟩
theorem Gf{s:Nat}{D:Dc}(hs:x6 s):oA 39 (D.item k s)=true:=by
 rcases hs with h | h | h<;>subst h<;>cases D with
 |sized u=>cases u<;>rfl
 |call n u=>cases u<;>rfl
 |val u w=>cases u<;>cases w<;>rfl
 |late u w=>rfl
theorem GZ{D:Pd}:oA 39 (D.item k)=true:=by
 obtain ⟨u,c⟩:=D
 cases c<;>cases u<;>rfl
theorem CD(h:∀v∈l,oA n v=true):m9 n l=true:=by
 induction l with
 |nil=>rfl
 |cons v l ih=>
  show (oA n v&&m9 n l)=true;rw[h v ax,ih λw hw=>h w (aE _ hw)];rfl
theorem Fj{S:Sd}(I:pO S ss ts):m9 39 (ts.map (Tm.vl S))=true:=CD λv hv=>by
 refine l8 (aW.mp hv) λt ht e=>?_;rw[<-e]
 cases t with
 |d k=>exact Gf (I.ok.srt k (I.inn _ ht).1)
 |p k=>exact GZ
 |l k u w=>cases u<;>cases w<;>rfl
 |c k u=>cases u<;>rfl
 |s u=>cases u<;>rfl
theorem eq_self(h:m9 39 l=true):pS σ .eq (.lst l) (.lst l)=some true:=by
 show og (m9 39 l&&m9 39 l) (sG (.lst l) (.lst l))=_;rw[h,wI (n:=40) (v:=.lst l) h];rfl
theorem Ix{P:Pg}{a b:MX}{Q:V->St->Prop}{E:Unit->St->Prop}(ha:dE P false C a ρ σ=.ok (.bool true) σ)(h:WR (dE P false C b ρ σ) Q E):WR (dE P false C (.and (.c2 a b)) ρ σ) Q E:=by
 show WR ((dE P false C a ρ σ).bind λv σ=>match pe v with | some true=>dE P false C b ρ σ | some false=>.ok v σ | none=>.bad) Q E;rw[ha];exact h
theorem Iz{P:Pg}{q:Bool}{a b:MX}{Q:V->St->Prop}{E:Unit->St->Prop}(h:WR (dE P q C a ρ σ) (λc σ=>WR (dE P q C b ρ σ) (λi σ=>WR (R.of ((pS σ op c i).map .bool) σ) Q E) E) E):WR (dE P q C (.cmp op a b) ρ σ) Q E:=WR.bind (h.mono (λZ Z h=>WR.bind h) λZ Z h=>h)
section
variable {S:Sd}{s:V}
theorem GE{TR:Option V}{n1 n2:Nat}{r1 r2:List Nat}{V3:V}(I:pO S ss ts)(L:LS S ts σ)(t1:m8 (qR S.Pk) (qp ts) (qp ts).length []=some r1)(f1:σ[n1]?=some (.list (mj r1)))(t2:m8 (λk=>pG S.Pk S.np (S.Dk k)) (qo ts) (qo ts).length []=some r2)(f2:σ[n2]?=some (.list (mj r2)))(h3:V3=.lst (((r1.map λk=>(S.Pk k).item k)++r2.map λk=>(S.Dk k).item k (S.sk k))++(ts.filter Tm.oth).map (Tm.vl S))):
  WR (dS pg (mu pg (d+13)) false Le (lE s S.n SL Sm Sl Sk Sj Si TR SR SA (some (.obj n1)) (some (.obj n2)) (some V3) none) σ) (λp Z=>sq p.1=.bool true) λZ Z=>False:=by
 have g1:=y9 I.psn t1;have g2:=y9 I.dsn t2;have I2:=I.due g1.2.1 g1.2.2 g2.2.1 g2.2.2
 have e3:V3=.lst ((qF ts r1 r2).map (Tm.vl S)):=by rw[Dy];exact h3
 subst e3;have b1:∀k∈r1,k < S.np:=λk hk=>I.ps.mp ((g1.2.2 k).mp hk);have b2':∀k∈r2,k < S.n:=λk hk=>I.ds.mp ((g2.2.2 k).mp hk);have n6:=I.ok.n6;have np3:=I.ok.np3
 have l1:r1.length<=3:=by
  have:=m7 (w:=az S.np) g1.2.1 λi hi=>bt.mpr (b1 i hi);rw[aR] at this;exact El np3 this
 have l2:r2.length<=6:=by
  have:=m7 (w:=az S.n) g2.2.1 λi hi=>bt.mpr (b2' i hi);rw[aR] at this;exact H8 n6 this
 have lo:=I.most
 have big:1000<=me:=by decide
 have lt:ts.length<=1000:=by
  rw[split_len];have hp:=m7 (w:=az S.np) I.psn λi hi=>bt.mpr (I.ps.mp hi);have hd:=m7 (w:=az S.n) I.dsn λi hi=>bt.mpr (I.ds.mp hi);rw[aR] at hp hd;exact Ia n6 np3 lo hp hd
 refine mS rfl (nG (v:=.lst ((r1.map λk=>(S.Pk k).item k)++r2.map λk=>(S.Dk k).item k (S.sk k))) (ρ':=lE s S.n SL Sm Sl Sk Sj Si TR SR SA (some (.obj n1)) (some (.obj n2)) (some (.lst ((qF ts r1 r2).map (Tm.vl S)))) (some (.lst ((r1.map λk=>(S.Pk k).item k)++r2.map λk=>(S.Dk k).item k (S.sk k))))) (oH (v:=.lst (r1.map λk=>(S.Pk k).item k)) (w:=.lst (r2.map λk=>(S.Dk k).item k (S.sk k))) ?_ ?_ (s6 ?_)) rfl ?_)
 .rw[o7 (ks:=r1) (h:=λk:Nat=>V.int k) (v:=.obj n1) (g:=λk=>some ((S.Pk k).item k)) rfl (.inr ⟨n1,rfl,f1⟩) (Nt l1 big) λk hk=>?_,iH];show (dE pg false (mu pg (d+13) false) (.idx (.v 8) (.v 26)) ((lE s S.n SL Sm Sl Sk Sj Si TR SR SA (some (.obj n1)) (some (.obj n2)) (some (.lst ((qF ts r1 r2).map (Tm.vl S)))) none).set 26 (some (.int k))) σ).bind _=_;rw[nC (v:=.obj 6) (w:=.int k) (mE rfl) (mE rfl) (item_at L.p (qx (b1 k hk)))];rfl
 .rw[o7 (ks:=r2) (h:=λk:Nat=>V.int k) (v:=.obj n2) (g:=λk=>some ((S.Dk k).item k (S.sk k))) rfl (.inr ⟨n2,rfl,f2⟩) (Nr l2 big) λk hk=>?_,iH];show (dE pg false (mu pg (d+13) false) (.idx (.v 5) (.v 27)) ((lE s S.n SL Sm Sl Sk Sj Si TR SR SA (some (.obj n1)) (some (.obj n2)) (some (.lst ((qF ts r1 r2).map (Tm.vl S)))) none).set 27 (some (.int k))) σ).bind _=_;rw[nC (v:=.obj 3) (w:=.int k) (mE rfl) (mE rfl) (item_at L.d (qx (b2' k hk)))];rfl
 .rw[ah,ay,ay];exact Nq l1 l2 big
 refine nG (v:=.lst ((qF ts r1 r2).map (Tm.vl S))) (ρ':=lE s S.n SL Sm Sl Sk Sj Si TR SR SA (some (.obj n1)) (some (.obj n2)) (some (.lst ((qF ts r1 r2).map (Tm.vl S)))) (some (.lst ((qF ts r1 r2).map (Tm.vl S))))) ?_ rfl ?_
 .rw[Dy];refine oH (v:=.lst ((r1.map λk=>(S.Pk k).item k)++r2.map λk=>(S.Dk k).item k (S.sk k))) (w:=.lst ((ts.filter Tm.oth).map (Tm.vl S))) (mE rfl) ?_ (s6 ?_)
  .rw[o7 (v:=.obj 9) (ks:=ts) (h:=Tm.vl S) (g:=λt=>if t.oth=true then some (t.vl S) else none) rfl (.inr ⟨9,rfl,L.i⟩) (Np big lt) λt Z=>by cases t<;>rfl,yp]
  .rw[ah,ah,ay,ay,ay];exact No l1 l2 lo big
 have sh:=Fj I2;refine n8 (Ix (zx (v:=.lst ((qF ts r1 r2).map (Tm.vl S))) (w:=.lst ((qF ts r1 r2).map (Tm.vl S))) (mE rfl) (mE rfl) (eq_self sh)) (Iz (m5 (mf (mD rfl (mx ((y6 (d:=d) I2 (.inl rfl) (λn h=>nomatch h)).mono (λv τ h=>?_) λZ Z h=>h)))))))
 have e:v=.lst ((qF ts r1 r2).map (Tm.vl S)):=by
  have u1:=sW g1.1 r1 (a:=[]) rfl;have u2:=sW g2.1 r2 (a:=[]) rfl
  rcases h.1 with ⟨q1,q2,w1,w2,e⟩ | ⟨h,_⟩
  .rw[DA,u1] at w1;rw[Dz,u2] at w2
   cases w1
   cases w2
   rw[e,Dy,Bc]
  .rw[DA,u1,Dz,u2] at h;exact h.elim (λh=>nomatch h) λh=>nomatch h
 rw[e];exact mD rfl (WR.of (a:=.bool true) (by rw[eq_self sh];rfl) rfl)
end
end
section
open L1
theorem HR{P:Pg}{v x:V}{b:Bool}(hb:nA t v ρ=some ρ')(hc:dT P false C cond ρ' σ=.ok b σ)(he:b=true->dE P false C RF ρ' σ=.ok x σ):m3 P false C t cond RF ρ v σ=.ok (if b=true then some x else none) σ:=by
 show R.opt (nA t v ρ) (λρ'=>(dT P false C cond ρ' σ).bind λb σ=>if b=true then (dE P false C RF ρ' σ).bind λx σ=>.ok (some x) σ else .ok none σ)=_;rw[hb];show (dT P false C cond ρ' σ).bind _=_;rw[hc]
 cases b with
 |false=>rfl
 |true=>show (dE P false C RF ρ' σ).bind _=_;rw[he rfl];rfl
theorem sub_int{a:MX}(h:dE pg false C a ρ σ=.ok (.int (c+k:Nat)) σ):dE pg false C (.bin .sub a (.i c)) ρ σ=.ok (.int k) σ:=oH (v:=.int (c+k:Nat)) (w:=.int c) h rfl (by
 show some (V.int (((c+k:Nat):Int) - (c:Int)))=_
 rw[show (((c+k:Nat):Int) - (c:Int))=(k:Int) by exact NH])
section
variable {S:Sd}{s:V}
theorem GX{TR VK VJ VI VH:Option V}(I:pO S ss ts)(hl:ts.length<=1000)(L:LS S ts σ):dE pg false C (.comp (.v 29) (.v 17) (.cmp .eq (.x (.v 29) 0) (.s 148)) (.bin .sub (.x (.v 29) 1) (.i 50))) (lE s S.n SL Sm Sl Sk Sj Si TR SR SA VK VJ VI VH) σ=.ok (.lst (mj (qp ts))) σ:=by
 have big:1000<=me:=by decide
 rw[o7 (v:=.obj 9) (ks:=ts) (h:=Tm.vl S) (g:=λt=>t.pi.map λk:Nat=>V.int k) rfl (.inr ⟨9,rfl,L.i⟩) (Ic hl big) λt Z=>?_]
 .show R.ok (V.lst (ts.filterMap λt=>t.pi.map λk:Nat=>V.int k)) σ=R.ok (V.lst ((ts.filterMap Tm.pi).map λk:Nat=>V.int k)) σ;rw[fp]
 .cases t with
  |p k=>
   exact HR (b:=true) rfl rfl λZ=>sub_int (c:=50) (k:=k) rfl
  |_=>rfl
theorem GW{TR VK VJ VI VH:Option V}(I:pO S ss ts)(hl:ts.length<=1000)(L:LS S ts σ):dE pg false C (.comp (.v 28) (.v 17) (.cmp .eq (.x (.v 28) 0) (.s 68)) (.bin .sub (.x (.v 28) 1) (.i 10))) (lE s S.n SL Sm Sl Sk Sj Si TR SR SA VK VJ VI VH) σ=.ok (.lst (mj (qo ts))) σ:=by
 have big:1000<=me:=by decide
 rw[o7 (v:=.obj 9) (ks:=ts) (h:=Tm.vl S) (g:=λt=>t.di.map λk:Nat=>V.int k) rfl (.inr ⟨9,rfl,L.i⟩) (Ic hl big) λt Z=>?_]
 .show R.ok (V.lst (ts.filterMap λt=>t.di.map λk:Nat=>V.int k)) σ=R.ok (V.lst ((ts.filterMap Tm.di).map λk:Nat=>V.int k)) σ;rw[fp]
 .cases t with
  |d k=>
   exact HR (b:=true) rfl rfl λZ=>sub_int (c:=10) (k:=k) rfl
  |_=>rfl
theorem Iu{υ:St}{v:V}(h:match m8 need order order.length [] with
   |none=>v=.none
   |some r=>v=.obj n/\listAt υ n=some (mj r)):TV υ (m8 need order order.length []) n v:=by
 cases ht:m8 need order order.length [] with
 |none=>rw[ht] at h;exact .inl ⟨rfl,h⟩
 |some r=>rw[ht] at h;exact .inr ⟨r,rfl,h.1,listAt_eq h.2⟩
theorem Eb(I:pO S ss ts)(L:LS S ts σ)(hl:σ.length=10):
  WR (dS pg (mu pg (d+13)) false Lr (lE s S.n SL Sm Sl Sk Sj Si none none none none none none none) σ) (λp Z=>sq p.1=.bool true) λZ Z=>False:=by
 have n6:=I.ok.n6;have np3:=I.ok.np3;have lo:=I.most;have hp:=m7 (w:=az S.np) I.psn λi hi=>bt.mpr (I.ps.mp hi);have hd:=m7 (w:=az S.n) I.dsn λi hi=>bt.mpr (I.ds.mp hi);rw[aR] at hp hd
 have lt:ts.length<=1000:=by rw[split_len];exact Ia n6 np3 lo hp hd
 refine mX (oG (mx ⟨rfl,WR.val (a:=.obj 10) (σ:=σ++[.list []]) (by show R.ok (V.obj σ.length) _=_;rw[hl]) (WR.val (a:=lE s S.n SL Sm Sl Sk Sj Si (some (.obj 10)) none none none none none none) rfl ?_)⟩))
 have e10:(σ++[O.list []])[10]?=some (.list []):=by rw[<-hl,aI (aN _),bC];rfl
 have l10:(σ++[O.list []]).length=11:=by rw[ah,hl];rfl
 refine sM (α:=Nat) (ks:=az S.n) (g:=λi:Nat=>V.int i) (I:=λpre ρ τ=>(∃SL SR SA,ρ=lE s S.n SL Sm Sl Sk Sj Si (some (.obj 10)) SR SA none none none none)/\(∀i,i < 10->τ[i]?=σ[i]?)/\τ[10]?=some (.list (pre.map λk=>.lst (mj (pG S.Pk S.np (S.Dk k)))))/\11<=τ.length/\τ.length<=11+2 * pre.length) (FX (mE rfl) (Ib n6)) ⟨⟨_,_,_,rfl⟩,λi hi=>aJ (NF hl hi),e10,ND l10,by rw[l10];exact aN _⟩ (λpre k Ry ρ τ e hI=>?_) λρ τ hI=>?_
 .refine sC hI λR6 f1 f2 f3 f4=>?_;obtain ⟨b11,b19,b20,SE⟩:=R6;subst SE;refine nt (qV e) λRZ hk=>?_
  have S9:pre.length<=6:=by rw[RZ,aR];exact NC n6 hk
  refine q0 (ρ':=lE s S.n (some (.int k)) Sm Sl Sk Sj Si (some (.obj 10)) b19 b20 none none none none) rfl ((Es (d:=d+12) I (L.mono f1) hk f3 (NB f4 S9) f2 (by rw[ay];exact H3 S9)).mono (λp υ h=>?_) λZ Z h=>h);refine sC h λh1 RV h3 h4 h5=>?_;obtain ⟨c19,c20,h2⟩:=RV;refine⟨h1,⟨_,_,_,h2⟩,λi hi=>(h3 i hi).trans (f1 i hi),by rw[h4,bf];rfl,NA f3 h5,by rw[ah];show υ.length<=11+2 * (pre.length+1);exact Nz f4 h5⟩
 .refine sC hI λR6 f1 f2 f3 f4=>?_;obtain ⟨b11,b19,b20,SE⟩:=R6;subst SE;have L1:=L.mono f1;refine mX (m5 (mf (WR.val (GX I lt L1) (mf (mD rfl (mx ((za (d:=d+12) (order:=qp ts) (need:=qR S.Pk) (la L1.g) (λk hk=>⟨qx (I.ps.mp hk),?_⟩) (Ot np3 hp)).mono (λv υ h=>?_) λZ Z h=>h)))))))
  .unfold qR
   cases (S.Pk k).c with
   |none=>exact ce _
   |some i=>exact (by decide:1<=100)
  refine sf h λs1 m1 h1=>?_;have T1:=Iu h1;have s1:nP τ υ:=s1;have L2:LS S ts υ:=L1.mono λi hi=>s1 i (En f3 hi);have g2:υ[10]?=_:=(s1 10 (H9 f3)).trans f2;refine WR.val (a:=lE s S.n b11 Sm Sl Sk Sj Si (some (.obj 10)) b19 b20 (some v) none none none) (σ:=υ) rfl ?_;refine mX (m5 (mf (WR.val (GW I lt L2) (mf (mD rfl (mx ((za (d:=d+12) (order:=qo ts) (need:=λk=>pG S.Pk S.np (S.Dk k)) (la g2) (λk hk=>⟨qx (I.ds.mp hk),ac (Et np3) (by decide)⟩) (Ny n6 hd)).mono (λw φ h=>?_) λZ Z h=>h)))))));refine sf h λs2 m2 h2=>?_;have T2:=Iu h2;have s2:nP υ φ:=s2;have L3:LS S ts φ:=L2.mono λi hi=>s2 i (Nx f3 m1 hi);refine WR.val (a:=lE s S.n b11 Sm Sl Sk Sj Si (some (.obj 10)) b19 b20 (some v) (some w) none none) (σ:=φ) rfl ?_;refine mX (m5 (mf (mD rfl (mx ((y6 (d:=d) I (its:=.obj 9) (.inr ⟨9,rfl,L3.i⟩) (λn h=>by cases h;exact Nw f3 m1 m2)).mono (λx ψ h=>?_) λZ Z h=>h)))));refine WR.val (a:=lE s S.n b11 Sm Sl Sk Sj Si (some (.obj 10)) b19 b20 (some v) (some w) (some x) none) (σ:=ψ) rfl ?_
  rcases h.1 with ⟨r1,r2,t1,t2,e3⟩ | ⟨hn,e3⟩
  .have s3:nP φ ψ:=h.2 λe=>by rw[e3] at e;exact nomatch e
   have YH:=(T1.same s2).same s3;have YG:=T2.same s3
   rcases YH with ⟨u,_⟩ | ⟨q1,u1,e1,f1'⟩
   .rw[t1] at u;exact nomatch u
   rcases YG with ⟨u,_⟩ | ⟨q2,u2,e2,f2'⟩
   .rw[t2] at u;exact nomatch u
   rw[t1] at u1;rw[t2] at u2
   cases u1
   cases u2
   subst e1;subst e2;exact GE I (L3.mono λi hi=>s3 i (Nu f3 m1 m2 hi)) t1 f1' t2 f2' e3
  .have hv:v=.none\/(∃m,v=.obj m)/\w=.none:=by
    rcases T1 with ⟨_,e⟩ | ⟨r,u,e,_⟩
    .exact .inl e
    .refine .inr ⟨⟨_,e⟩,?_⟩
     rcases T2 with ⟨_,e⟩ | ⟨r',u',e,_⟩
     .exact e
     .rw[u,u'] at hn;exact hn.elim (λh=>nomatch h) λh=>nomatch h
   subst e3
   rcases hv with e | ⟨⟨m,e⟩,e'⟩
   .subst e;exact nH rfl (n8 (WR.val (a:=.bool true) (σ:=ψ) rfl (nj rfl)))
   .subst e;subst e';exact nH rfl (n8 (WR.val (a:=.bool true) (σ:=ψ) rfl (nj rfl)))
end
end
section
open L1
section
variable {g:α->V}{ks:List α}{I:List α->List V->St->Prop}{E:Unit->St->Prop}
theorem vj{l0:List V}{f:V->St->R Unit (Option V)}(h0:l0=ks.map g)(h:∀(pre:List α) (k:α) (Ry:List α) (acc:List V) (σ:St),ks=pre++k::Ry->I pre acc σ->acc.length < me/\WR (f (g k) σ) (λx σ=>∃v,x=some v/\I (pre++[k]) (acc++[v]) σ) E):
  ∀(Ry:List α) {pre:List α} {acc:List V} {σ:St},ks=pre++Ry->I pre acc σ->WR (ou (.items l0) f (Ry.length+1) pre.length acc σ) (λl σ=>I ks l σ) E
 |[],pre,acc,σ,e,hI=>by
  refine WR.opt (a:=none) ?_ ?_
  .show some (l0[pre.length]?)=_;rw[h0,cA (by rw[ay,e,aT];exact aN _)]
  .show I ks acc σ;rw[e,aT];exact hI
 |k::Ry,pre,acc,σ,e,hI=>by
  refine WR.opt (a:=some (g k)) ?_ ?_
  .show some (l0[pre.length]?)=_;rw[h0,e,cB,aI (aN _),bC];rfl
  refine WR.bind ((h pre k Ry acc σ e hI).2.mono (λx τ hx=>?_) λZ Z h=>h);refine l8 hx λv hv Yo=>?_;subst hv;have ih:=vj h0 h Ry (pre:=pre++[k]) (acc:=acc++[v]) (σ:=τ) (by rw[ba];exact e) Yo;rw[ah] at ih;exact WR.gdp (h pre k Ry acc σ e hI).1 ih
theorem BX{Q:V->St->Prop}(hs:dI pg false C Rt ρ σ=.ok (.items (ks.map g)) σ)(h0:I [] [] σ)(h:∀(pre:List α) (k:α) (Ry:List α) (acc:List V) (σ:St),ks=pre++k::Ry->I pre acc σ->acc.length < me/\∃ρ',nA t (g k) ρ=some ρ'/\WR (dE pg false C RF ρ' σ) (λv σ=>I (pre++[k]) (acc++[v]) σ) E)(hk:∀(l:List V) (σ:St),I ks l σ->Q (.lst l) σ):WR (dE pg false C (.comp t Rt .nil RF) ρ σ) Q E:=by
 refine zw rfl (WR.val hs ?_);show WR (ou (.items (ks.map g)) (m3 pg false C t .nil RF ρ) ((ks.map g).length+1) 0 [] σ) _ E;rw[ay];refine (vj (I:=I) rfl (λpre k Ry acc τ e hI=>?_) ks (pre:=[]) rfl h0).mono (λl τ hI=>hk l τ hI) λZ Z h=>h;obtain ⟨h1,ρ',h2,h3⟩:=h pre k Ry acc τ e hI;exact⟨h1,WR.opt h2 (WR.bind (WR.val (a:=true) (σ:=τ) rfl (WR.iteT rfl (WR.bind (h3.mono (λv υ h=>⟨v,rfl,h⟩) λZ Z h=>h)))))⟩
end
theorem AU{Q:V->St->Prop}{E:Unit->St->Prop}(h:WR (dL pg false C es ρ σ) (λl σ=>WR (wN ks l σ) Q E) E):WR (dE pg false C (.dict ks es) ρ σ) Q E:=WR.bind h
noncomputable abbrev hS(xs:List Int)(p:Nat)(w:O)(rest de ak ri pr so ru:List V):St:=[m4 xs p,.list rest,w,.list de,.list ak,.list ri,.list pr,.list so,.list ru]
noncomputable abbrev lF(s:V)(n:Nat)(SL Sm Sl Sk Sj Si:Option V):mc:=[some s,some (.obj 0),some (.obj 1),some (.int n),some (.obj 2),some (.obj 3),some (.obj 4),some (.obj 5),some (.obj 6),some (.obj 7),some (.obj 8),SL,Sm,Sl,Sk,Sj,Si,none,none,none,none,none,none,none,none,none,none,none,none,none,none]
theorem Ca{xs:List Int}{r:MS}{Q:Fl×mc->St->Prop}{E:mc->St->Prop}(hx:xs.length<=1000)(h:∀(ys:List Int) (n c:Nat) (ss:List Nat) (p:Nat),3<=n->n<=6->c<=3->ss.length=n->(∀x∈ss,x6 x)->p<=8->WR (dS pg (mu pg (d+1)) false r (lF (.lst (xs.map .int)) n none none none none none none) (hS ys p (mO c ss) [] [] [] [] [] [] [])) Q E):
  WR (dS pg (mu pg (d+1)) false (.a (.tup (.c2 (.v 1) (.v 2))) (.tup (.c2 (.dict ([48,144]) (.c2 (.bi (.list false) (.upto (.v 0) (.i 63))) (.i 0))) (.lst true .nil))) (.a (.tup (.c2 (.v 3) (.v 4))) (.tup (.c2 (.bin .add (.i 3) (.call 37 (.c2 (.v 1) (.i 4)))) (.dict [46] (.c1 (.call 37 (.c2 (.v 1) (.i 4))))))) (.a (.idx (.v 4) (.s 168)) (.comp (.v 30) (.rng (.c1 (.v 3))) .nil (.idx (.tup (.c3 (.s 186) (.s 143) (.s 26))) (.call 37 (.c2 (.v 1) (.i 3))))) (.a (.tup (.cons (.v 5) (.cons (.v 6) (.c4 (.v 7) (.v 8) (.v 9) (.v 10))))) (.tup (.cons (.lst true .nil) (.cons (.lst true .nil) (.c4 (.lst true .nil) (.lst true .nil) (.lst true .nil) (.lst true .nil))))) r)))) (some (.lst (xs.map .int))::b7 30 none) []) Q E:=by
 obtain ⟨ys,hy⟩:∃ys:List Int,(xs.map V.int).take (rT (xs.map V.int).length 63)=ys.map .int:=⟨xs.take (rT (xs.map V.int).length 63),(lx).symm⟩
 have ly:ys.length<=1000:=by
  have e:ys.length=((xs.map V.int).take (rT (xs.map V.int).length 63)).length:=by rw[hy,ay]
  rw[e];exact ac (ge _ _) (by rw[ay];exact hx)
 have e1:dE pg false (mu pg (d+1) false) (.upto (.v 0) (.i 63)) (some (.lst (xs.map .int))::b7 30 none) []=.ok (.lst (ys.map .int)) []:=by
  show R.of (og ((-1000000:Int)<=63/\(63:Int)<=1000000/\(xs.map V.int).length<=me) (V.lst ((xs.map V.int).take (rT (xs.map V.int).length 63)))) []=_;unfold og;rw[if_pos ⟨by decide,by decide,by rw[ay];exact ac hx (by decide)⟩,hy];rfl
 refine mX (nN (mf (AU (mf (WR.val (HG e1 (by rw[ay];exact ly)) (mf (mV (mx (WR.val (a:=.obj 0) (σ:=[m4 ys (0:Nat)]) rfl (mf (oG (mx ⟨rfl,WR.val (a:=.obj 1) (σ:=[m4 ys (0:Nat),.list []]) rfl (mx ⟨rfl,?_⟩)⟩))))))))))));refine WR.val (a:=some (.lst (xs.map .int))::some (.obj 0)::some (.obj 1)::b7 28 none) (σ:=[m4 ys (0:Nat),.list []]) rfl ?_;refine mX (nN (mf (HF (mV (m5 (mf (mD rfl (mf (mV (mx ((oO (d:=d) (k:=4) rfl (bj 0) (by decide) (by decide)).mono (λv τ hv=>?_) λZ Z h=>h.elim)))))))))));refine mM hv λr1 UR hv hτ=>?_;subst hv;subst hτ;refine WR.of (a:=.int (3+r1:Nat)) rfl (mf (AU (mf (m5 (mf (mD rfl (mf (mV (mx ((oO (d:=d) (k:=4) (p:=((1:Nat):Int)) rfl (bj 1) (by decide) (by decide)).mono (λv τ hv=>?_) λZ Z h=>h.elim))))))))));refine mM hv λr2 UA hv hτ=>?_;subst hv;subst hτ;refine mx (WR.val (a:=.obj 2) (σ:=[m4 ys ((2:Nat):Int),.list [],.dict [(46,.int r2)]]) rfl (mx ⟨rfl,?_⟩));refine WR.val (a:=some (.lst (xs.map .int))::some (.obj 0)::some (.obj 1)::some (.int (3+r1:Nat))::some (.obj 2)::b7 26 none) (σ:=[m4 ys ((2:Nat):Int),.list [],.dict [(46,.int r2)]]) rfl ?_;refine mX (BX (α:=Nat) (ks:=az (3+r1)) (g:=λi:Nat=>V.int i) (I:=λpre acc τ=>∃ss:List Nat,acc=ss.map .sym/\ss.length=pre.length/\(∀x∈ss,x6 x)/\τ=[m4 ys ((2+pre.length:Nat):Int),.list [],.dict [(46,.int r2)]]) (FX (mE rfl) (NP UR)) ⟨[],rfl,rfl,(λx h=>nomatch h),rfl⟩ (λpre k Ry acc τ e hI=>?_) λl τ hI=>?_)
 .refine qv hI λss ha hl hs hτ=>?_;subst ha;subst hτ;refine nt (qV e) λRZ hk=>?_
  have S9:pre.length<=6:=by rw[RZ,aR];exact NO UR hk
  refine⟨by rw[ay];exact aB (show ss.length<=6 by exact Bm hl S9) (by decide),some (.lst (xs.map .int))::some (.obj 0)::some (.obj 1)::some (.int (3+r1:Nat))::some (.obj 2)::(b7 25 none++[some (.int k)]),rfl,?_⟩;refine C1 (WR.val (a:=.tup [.sym 186,.sym 143,.sym 26]) (σ:=[m4 ys ((2+pre.length:Nat):Int),.list [],.dict [(46,.int r2)]]) rfl (m5 (mf (mD rfl (mf (mV (mx ((oO (d:=d) (k:=3) rfl (bj _) (NN S9) (by decide)).mono (λv τ hv=>?_) λZ Z h=>h.elim))))))));refine mM hv λr3 XR hv hτ=>?_;subst hv;subst hτ
  obtain ⟨x,hx1,hx2⟩:∃x,oM pg ([m4 ys ((2+pre.length:Nat):Int),.list [],.dict [(46,.int r2)]].set 0 (m4 ys (((2+pre.length:Nat):Int)+1))) (.tup [.sym 186,.sym 143,.sym 26]) (.int r3)=some (.sym x)/\x6 x:=by
   match r3,XR with
   |0,_=>exact⟨186,rfl,.inl rfl⟩
   |1,_=>exact⟨143,rfl,.inr (.inl rfl)⟩
   |2,_=>exact⟨26,rfl,.inr (.inr rfl)⟩
  refine WR.of hx1 ⟨ss++[x],by rw[bf];rfl,by rw[ah,ah,hl];rfl,λy hy=>(aH.mp hy).elim (hs y) λh=>by rw[au.mp h];exact hx2,?_⟩;rw[ah];rfl
 .refine qv hI λss ha hl hs hτ=>?_;subst ha;subst hτ;rw[aR] at hl ⊢;refine WR.val (a:=some (.lst (xs.map .int))::some (.obj 0)::some (.obj 1)::some (.int (3+r1:Nat))::some (.obj 2)::b7 26 none) (σ:=[m4 ys ((2+(3+r1):Nat):Int),.list [],mO r2 ss]) (rO (n:=2) (k:=168) (l:=[(46,.int r2)]) (mE rfl) rfl rfl (show 1 < me by decide)) ?_;refine mX (nN (mf (oG (mx ⟨rfl,WR.val (a:=.obj 3) (σ:=[m4 ys ((2+(3+r1):Nat):Int),.list [],mO r2 ss,.list []]) rfl ?_⟩))));refine mf (oG (mx ⟨rfl,WR.val (a:=.obj 4) (σ:=[m4 ys ((2+(3+r1):Nat):Int),.list [],mO r2 ss,.list [],.list []]) rfl ?_⟩));refine mf (oG (mx ⟨rfl,WR.val (a:=.obj 5) (σ:=[m4 ys ((2+(3+r1):Nat):Int),.list [],mO r2 ss,.list [],.list [],.list []]) rfl ?_⟩));refine mf (oG (mx ⟨rfl,WR.val (a:=.obj 6) (σ:=[m4 ys ((2+(3+r1):Nat):Int),.list [],mO r2 ss,.list [],.list [],.list [],.list []]) rfl ?_⟩));refine mf (oG (mx ⟨rfl,WR.val (a:=.obj 7) (σ:=[m4 ys ((2+(3+r1):Nat):Int),.list [],mO r2 ss,.list [],.list [],.list [],.list [],.list []]) rfl ?_⟩));refine mf (oG (mx ⟨rfl,WR.val (a:=.obj 8) (σ:=hS ys (2+(3+r1)) (mO r2 ss) [] [] [] [] [] [] []) rfl (mx ⟨rfl,?_⟩)⟩));exact WR.val (a:=lF (.lst (xs.map .int)) (3+r1) none none none none none none) rfl (h ys (3+r1) r2 ss (2+(3+r1)) (NM) (NL UR) (NK UA) hl hs (NJ UR))
end
section
open L1
noncomputable def S0:Sd:=⟨0,0,λZ=>0,λZ=>.sized .two,λZ=>⟨.two,none⟩⟩
noncomputable def Dc.tm(k:Nat):Dc->Option Tm
 |.late u w=>some (.l k u w)
 |_=>none
noncomputable def Hm{α:Type}(f:Nat->α)(k:Nat)(x:α):Nat->α:=λi=>if i=k then x else f i
theorem yq{α β:Type}{f g:α->Option β}:∀{l:List α},(∀x∈l,f x=g x)->l.filterMap f=l.filterMap g
 |[],_=>rfl
 |a::l,h=>by
  have ih:=yq (l:=l) λx hx=>h x (aE _ hx);have ha:=h a ax
  cases e:g a with
  |none=>rw[bG e,bG (ha.trans e),ih]
  |some y=>rw[bE e,bE (ha.trans e),ih]
section
variable {f:Nat->α}{x:α}
theorem vN{i:Nat}(h:i < k):Hm f k x i=f i:=if_neg (aP h)
theorem uk:Hm f k x k=x:=if_pos rfl
theorem ql{h:Nat->α->β}:(az (k+1)).map (λi=>h i (Hm f k x i))=(az k).map (λi=>h i (f i))++[h k x]:=by
 rw[kN,bf,cz (g:=λi=>h i (f i)) λi hi=>by rw[vN (bt.mp hi)]];show _++[h k (Hm f k x k)]=_;rw[uk]
theorem Cy{h:Nat->α->Option β}:(az (k+1)).filterMap (λi=>h i (Hm f k x i))=(az k).filterMap (λi=>h i (f i))++(h k x).toList:=by
 rw[kN,cH,yq (g:=λi=>h i (f i)) λi hi=>by rw[vN (bt.mp hi)]]
 congr 1
 cases e:h k x with
 |none=>exact bG (by rw[uk];exact e)
 |some y=>exact (bE (by rw[uk];exact e)).trans rfl
end
noncomputable def ot(ss:List Nat)(k:Nat):Nat:=(ss[k]?).getD 0
noncomputable def oP(Dk:Nat->Dc)(k:Nat):List Tm:=(az k).filterMap λi=>(Dk i).tm i
noncomputable def KS(ys:List Int)(p c:Nat)(ss:List Nat)(Dk:Nat->Dc)(k:Nat):St:=hS ys p (mO c ss) ((oP Dk k).map (Tm.vl S0)) ((az k).map λi=>(Dk i).item i (ot ss i)) ((az k).map λi=>.lst (mj (Dk i).asks)) ((az k).map λi=>.lst (mj (Dk i).calls)) [] [] []
noncomputable def QW:MS:=.a (.tup (.c4 (.v 12) (.v 13) (.v 14) (.v 15))) (.call 39 (.c3 (.v 1) (.v 4) (.v 11))) (.q (.expr (.bm .append (.v 5) (.c1 (.v 12)))) (.q (.expr (.bm .append (.v 6) (.c1 (.v 14)))) (.q (.expr (.bm .append (.v 7) (.c1 (.v 15)))) (.f (.cmp .isnt (.v 13) (.lit .none)) (.q (.expr (.bm .append (.v 2) (.c1 (.v 13)))) .skip) .skip))))
theorem tY{Dk:Nat->Dc}:(oP Dk k).length<=k:=by
 refine ac (ir _ _) ?_;rw[aR];exact aN _
theorem BY{p:Nat}{s:V}{ys:List Int}{Dk:Nat->Dc}{b11 Sc R2 R5 R4:Option V}(hl:ss.length=n)(hn:n<=6)(hc:c<=3)(hk:k < n)(hp:p<=80000)(hf:∀i,i < k->(Dk i).Fits ss c (ot ss i)):
  WR (dS pg (mu pg (d+3)) false QW (lF s n (some (.int k)) Sc R2 R5 R4 none) (KS ys p c ss Dk k)) (λq τ=>q.1=.next/\(∃b11 Sc R2 R5 R4,q.2=lF s n b11 Sc R2 R5 R4 none)/\∃UO p',p'<=p+5/\(∀i,i < k+1->(UO i).Fits ss c (ot ss i))/\τ=KS ys p' c ss UO (k+1)) λZ Z=>False:=by
 have es:ss[k]?=some (ot ss k):=by
  unfold ot;rw[aX (Ig hl hk)];rfl
 refine mX (m5 (mf (mD rfl (mf (mD rfl (mf (mD rfl (mx ((Dx (d:=d) (m:=0) (w:=2) (p:=p) (k:=k) (xs:=ys) rfl rfl (by decide) (Ie hp) es (Bm hl hn) hc).mono (λv τ h=>?_) λZ Z h=>h.elim)))))))));refine yM h λD hD e1 p' Wu e2=>?_;subst e1;subst e2
 have big:100 < me:=by decide
 have ln:∀{g:Nat->V},((az k).map g).length < me:=λ{g}=>by rw[ay,aR];exact NT hn hk big
 refine WR.val (a:=lF s n (some (.int k)) (some (D.item k (ot ss k))) (some (D.lateV k)) (some (.lst (mj D.asks))) (some (.lst (mj D.calls))) none) rfl ?_;refine mw (rP (n:=3) (l:=(az k).map λi=>(Dk i).item i (ot ss i)) (x:=D.item k (ot ss k)) rfl rfl ln (mE rfl) (mh (mw (rP (n:=4) (l:=(az k).map λi=>.lst (mj (Dk i).asks)) (x:=.lst (mj D.asks)) rfl rfl ln (mE rfl) (mh (mw (rP (n:=5) (l:=(az k).map λi=>.lst (mj (Dk i).calls)) (x:=.lst (mj D.calls)) rfl rfl ln (mE rfl) (mh ?_))))))))
 have fin:∀{τ:St},τ=hS ys p' (mO c ss) ((oP Dk k).map (Tm.vl S0)++((D.tm k).toList).map (Tm.vl S0)) ((az k).map (λi=>(Dk i).item i (ot ss i))++[D.item k (ot ss k)]) ((az k).map (λi=>V.lst (mj (Dk i).asks))++[.lst (mj D.asks)]) ((az k).map (λi=>V.lst (mj (Dk i).calls))++[.lst (mj D.calls)]) [] [] []->∃UO p',p'<=p+5/\(∀i,i < k+1->(UO i).Fits ss c (ot ss i))/\τ=KS ys p' c ss UO (k+1):=λ{τ} e=>by
  refine⟨Hm Dk k D,p',Wu,λi hi=>?_,?_⟩
  .by_cases h:i=k
   .subst h;rw[uk];exact hD
   .rw[vN (Bo hi h)];exact hf i (Bo hi h)
  .unfold KS oP;rw[Cy (h:=λi (D:Dc)=>D.tm i),ql (h:=λi (D:Dc)=>D.item i (ot ss i)),ql (h:=λi (D:Dc)=>V.lst (mj D.asks)),ql (h:=λi (D:Dc)=>V.lst (mj D.calls)),bf,e];rfl
 have ll:=tY (Dk:=Dk) (k:=k)
 cases D with
 |late u w=>
  exact nH rfl (mw (rP (n:=1) (l:=(oP Dk k).map (Tm.vl S0)) (x:=(Dc.late u w).lateV k) rfl rfl (by rw[ay];exact NS hn hk big ll) (mE rfl) (mh (mn (mh (mn ⟨rfl,⟨_,_,_,_,_,rfl⟩,fin rfl⟩))))))
 |_=>exact mS rfl (mn ⟨rfl,⟨_,_,_,_,_,rfl⟩,fin (by rw[show (Dc.tm k _).toList.map (Tm.vl S0)=[] from rfl,aT];rfl)⟩)
noncomputable def Pr(ys:List Int)(p c:Nat)(ss:List Nat)(rest de ak ri:List V)(Pk:Nat->Pd)(k:Nat):St:=hS ys p (mO c ss) rest de ak ri ((az k).map λi=>(Pk i).item i) ((az k).map λi=>.lst (mj (Pk i).u.asks)) ((az k).map λi=>.lst (mj (Pk i).c.toList))
noncomputable def Q6:MS:=.a (.tup (.c3 (.v 12) (.v 14) (.v 15))) (.call 40 (.c3 (.v 1) (.v 4) (.v 11))) (.q (.expr (.bm .append (.v 8) (.c1 (.v 12)))) (.q (.expr (.bm .append (.v 9) (.c1 (.v 14)))) (.q (.expr (.bm .append (.v 10) (.c1 (.v 15)))) .skip)))
theorem Cu{p:Nat}{s:V}{ys:List Int}{rest de ak ri:List V}{b11 Sc R2 R5 R4:Option V}(hl:ss.length=n)(h2:2<=n)(hn:n<=6)(hc:c<=3)(hk:k < c)(hp:p<=80000)(hf:∀i,i < k->(Pk i).Fits ss c):
  WR (dS pg (mu pg (d+3)) false Q6 (lF s n (some (.int k)) Sc R2 R5 R4 none) (Pr ys p c ss rest de ak ri Pk k)) (λq τ=>q.1=.next/\(∃b11 Sc R2 R5 R4,q.2=lF s n b11 Sc R2 R5 R4 none)/\∃VV p',p'<=p+5/\(∀i,i < k+1->(VV i).Fits ss c)/\τ=Pr ys p' c ss rest de ak ri VV (k+1)) λZ Z=>False:=by
 refine mX (m5 (mf (mD rfl (mf (mD rfl (mf (mD rfl (mx ((E3 (d:=d) (m:=0) (w:=2) (p:=p) (k:=k) (xs:=ys) (ss:=ss) (calls:=c) rfl rfl (by decide) (Ie hp) (NR hl h2) (Bm hl hn) hk hc).mono (λv τ h=>?_) λZ Z h=>h.elim)))))))));refine yM h λD hD e1 p' Wu e2=>?_;subst e1;subst e2
 have big:100 < me:=by decide
 have ln:∀{g:Nat->V},((az k).map g).length < me:=λ{g}=>by rw[ay,aR];exact NQ hc hk big
 refine WR.val (a:=lF s n (some (.int k)) (some (D.item k)) R2 (some (.lst (mj D.u.asks))) (some (.lst (mj D.c.toList))) none) rfl ?_;refine mw (rP (n:=6) (l:=(az k).map λi=>(Pk i).item i) (x:=D.item k) rfl rfl ln (mE rfl) (mh (mw (rP (n:=7) (l:=(az k).map λi=>.lst (mj (Pk i).u.asks)) (x:=.lst (mj D.u.asks)) rfl rfl ln (mE rfl) (mh (mw (rP (n:=8) (l:=(az k).map λi=>.lst (mj (Pk i).c.toList)) (x:=.lst (mj D.c.toList)) rfl rfl ln (mE rfl) (mh (mn ⟨rfl,⟨_,_,_,_,_,rfl⟩,Hm Pk k D,p',Wu,λi hi=>?_,?_⟩)))))))))
 .by_cases h:i=k
  .subst h;rw[uk];exact hD
  .rw[vN (Bo hi h)];exact hf i (Bo hi h)
 .unfold Pr;rw[ql (h:=λi (D:Pd)=>D.item i),ql (h:=λi (D:Pd)=>V.lst (mj D.u.asks)),ql (h:=λi (D:Pd)=>V.lst (mj D.c.toList))];rfl
end
section
open L1
noncomputable def KR:MS:=.q (.expr (.bm .append (.v 2) (.c1 (.tup (.c3 (.s 58) (.bin .add (.i 40) (.v 16)) (.tup (.cons (.s 41) (.c4 (.i 13) (.s 10) (.x (.call 38 (.c4 (.v 1) (.v 4) (.v 3) (.lit (.bool false)))) 0) (.tup (.c3 (.s 103) (.i 13) (.i 5))))))))))) .skip
noncomputable def O4:MX:=.bm .append (.v 2) (.c1 (.tup (.c4 (.s 166) (.i 60) (.s 125) (.x (.call 38 (.c4 (.v 1) (.v 4) (.v 3) (.lit (.bool false)))) 0))))
noncomputable def Lo:MS:=.q (.expr (.bm .insert (.v 17) (.c2 (.call 37 (.c2 (.v 1) (.bin .add (.bi .len (.v 17)) (.i 1)))) (.v 12)))) .skip
section
variable {p:Nat}{s:V}{ys:List Int}{de ak ri pr so ru:List V}{R:List Tm}{b11 Sc R2 R5 R4 SZ:Option V}
theorem zf{Q:V->St->Prop}{rest:List V}(hl:ss.length=n)(hn:n<=6)(hp:p<=80000)(h:∀u:Us,u.Fits ss false->Q u.toV (hS ys (p+2) (mO c ss) rest de ak ri pr so ru)):WR (dE pg false (mu pg (d+2) false) (.x (.call 38 (.c4 (.v 1) (.v 4) (.v 3) (.lit (.bool false)))) 0) (lF s n b11 Sc R2 R5 R4 SZ) (hS ys p (mO c ss) rest de ak ri pr so ru)) Q λZ Z=>False:=by
 refine C1 (m5 (mf (mD rfl (mf (mD rfl (mf (mD rfl (mf (mV (mx ((uT (d:=d) (m:=0) (w:=2) (p:=p) (below:=n) (b:=false) (xs:=ys) (calls:=c) (ss:=ss) rfl rfl (by decide) (NX hp) (NW hl) (Bm hl hn)).mono (λv τ hv=>?_) λZ Z h=>h)))))))))));refine mM hv λu hu e1 e2=>?_;subst e1;subst e2;exact mV (WR.of (a:=u.toV) rfl (h u hu))
theorem Dt(hl:ss.length=n)(hn:n<=6)(hp:p<=80000)(hR:R.length<=90):
  WR (dS pg (mu pg (d+2)) false KR (lF s n b11 Sc R2 R5 R4 (some (.int k))) (hS ys p (mO c ss) (R.map (Tm.vl S0)) de ak ri pr so ru)) (λq τ=>q.1=.next/\q.2=lF s n b11 Sc R2 R5 R4 (some (.int k))/\∃u:Us,u.Fits ss false/\τ=hS ys (p+2) (mO c ss) ((R++[Tm.c k u]).map (Tm.vl S0)) de ak ri pr so ru) λZ Z=>False:=by
 refine oZ (uU (WR.val (a:=.obj 1) (σ:=hS ys p (mO c ss) (R.map (Tm.vl S0)) de ak ri pr so ru) rfl ⟨rfl,?_⟩));refine mf (nN (mf (mV (mf (WR.val (a:=.int (40+k:Nat)) (σ:=hS ys p (mO c ss) (R.map (Tm.vl S0)) de ak ri pr so ru) rfl (mf (nN (mf (mV (mf (mV (mf (mV (mf (zf hl hn hp λu hu=>?_)))))))))))))));refine mf (WR.val (a:=.tup [.sym 103,.int 13,.int 5]) (σ:=hS ys (p+2) (mO c ss) (R.map (Tm.vl S0)) de ak ri pr so ru) rfl (mx ⟨rfl,mx ⟨rfl,mx (WR.val (wQ (l:=R.map (Tm.vl S0)) rfl ?_) (mn ⟨rfl,rfl,u,hu,?_⟩))⟩⟩))
 .rw[ay];exact aB hR (by decide)
 .rw[bf];rfl
theorem Fb{Q:V->St->Prop}(hl:ss.length=n)(hn:n<=6)(hp:p<=80000)(hR:R.length<=90)(h:∀u:Us,u.Fits ss false->∀v,Q v (hS ys (p+2) (mO c ss) ((R++[Tm.s u]).map (Tm.vl S0)) de ak ri pr so ru)):WR (dE pg false (mu pg (d+2) false) O4 (lF s n b11 Sc R2 R5 R4 SZ) (hS ys p (mO c ss) (R.map (Tm.vl S0)) de ak ri pr so ru)) Q λZ Z=>False:=by
 refine uU (WR.val (a:=.obj 1) (σ:=hS ys p (mO c ss) (R.map (Tm.vl S0)) de ak ri pr so ru) rfl ⟨rfl,?_⟩);refine mf (nN (mf (mV (mf (mV (mf (mV (mf (zf hl hn hp λu hu=>?_)))))))));refine mx ⟨rfl,mx (WR.val (wQ (l:=R.map (Tm.vl S0)) rfl ?_) ?_)⟩
 .rw[ay];exact aB hR (by decide)
 .have:=h u hu .none;rw[bf] at this;exact this
end
theorem IU{r:Nat}{x:V}(h:σ[n]?=some (.list l))(hr:r<=l.length)(hl:l.length < me):sU σ .insert (.obj n) [.int r,x]=.ok .none (σ.set n (.list (l.take r++x::l.drop r))):=by
 show R.opt (listAt σ n) (λl=>gd (0<=(r:Int)/\(r:Int)<=l.length/\l.length < me) (.ok V.none (σ.set n (.list (l.take (r:Int).toNat++x::l.drop (r:Int).toNat)))))=_;rw[la h];show gd (0<=(r:Int)/\(r:Int)<=l.length/\l.length < me) _=_;unfold gd;rw[if_pos ⟨bj _,bH.mpr hr,hl⟩,bU]
noncomputable abbrev hI(xs:List Int)(p:Nat)(w:O)(rest de ak ri pr so ru it:List V):St:=[m4 xs p,.list rest,w,.list de,.list ak,.list ri,.list pr,.list so,.list ru,.list it]
theorem DY{p:Nat}{s:V}{ys:List Int}{w:O}{rest de ak ri pr so ru:List V}{S:Sd}{t:Tm}{b11 R2 R5 R4 SZ:Option V}(hp:p<=80000)(ht:ts.length<=100):
  WR (dS pg (mu pg (d+1)) false Lo (lE s n b11 (some (t.vl S)) R2 R5 R4 SZ none none none none none none none) (hI ys p w rest de ak ri pr so ru (ts.map (Tm.vl S)))) (λq τ=>q.1=.next/\q.2=lE s n b11 (some (t.vl S)) R2 R5 R4 SZ none none none none none none none/\∃T7:List Tm,T7.Perm (t::ts)/\τ=hI ys (p+1) w rest de ak ri pr so ru (T7.map (Tm.vl S))) λZ Z=>False:=by
 have el:dE pg false (mu pg (d+1) false) (.bin .add (.bi .len (.v 17)) (.i 1)) (lE s n b11 (some (t.vl S)) R2 R5 R4 SZ none none none none none none none) (hI ys p w rest de ak ri pr so ru (ts.map (Tm.vl S)))=.ok (.int ((ts.map (Tm.vl S)).length+1:Nat)) (hI ys p w rest de ak ri pr so ru (ts.map (Tm.vl S))):=oH (v:=.int (ts.map (Tm.vl S)).length) (w:=.int 1) (qq (n:=9) (mE rfl) rfl) rfl rfl;refine oZ (uU (WR.val (a:=.obj 9) (σ:=hI ys p w rest de ak ri pr so ru (ts.map (Tm.vl S))) rfl ⟨rfl,?_⟩));refine mf (m5 (mf (mD rfl (mf (WR.val el (mx ((oO (d:=d) (m:=0) (xs:=ys) (p:=p) (k:=(ts.map (Tm.vl S)).length+1) rfl (bj _) (NV hp) (eT _)).mono (λv τ hv=>?_) λZ Z h=>h)))))));refine mM hv λr hr e1 e2=>?_;subst e1;subst e2;rw[ay] at hr;refine mf (mD rfl (mx (WR.val (IU (n:=9) (l:=ts.map (Tm.vl S)) rfl (by rw[ay];exact NU hr) (by rw[ay];exact aB ht (by decide))) (mn ⟨rfl,rfl,ts.take r++t::ts.drop r,?_,?_⟩))))
 .refine List.perm_middle.trans ?_;rw[List.take_append_drop]
 .rw[<-lx,<-List.map_drop,bf,fm];rfl
end
section
open L1
theorem xi{l r:List (Nat×Nat)}{a:Nat}(hl:l.Nodup)(hr:r.Nodup)(h1:∀x∈l,x.1<=a)(h2:∀y∈r,a < y.1):(l++r).Nodup:=bV.mpr ⟨hl,hr,λx hx y hy e=>by
 have h1:=h1 x hx;have h2:=h2 y hy
 rw[e] at h1;exact N0 h1 h2⟩
theorem Er{f:Nat->Option Tm}{c:Nat}(hf:∀i t,f i=some t->t.key=(c,i)):∀{l:List Nat},l.Nodup->((l.filterMap f).map Tm.key).Nodup
 |[],_=>cu
 |i::l,h=>by
  have h:=bo.mp h
  cases e:f i with
  |none=>rw[bG e];exact Er hf h.2
  |some t=>
   rw[bE e];refine bo.mpr ⟨λhm=>?_,Er hf h.2⟩;refine l8 (aW.mp hm) λt' h' e'=>?_;refine l8 (aZ.mp h') λj hj e2=>?_;rw[hf j t' e2,hf i t e] at e';rw[(fw e').2] at hj;exact h.1 hj
theorem AB{Dk:Nat->Dc}(i:Nat)(t:Tm)(h:(Dk i).tm i=some t):t.key=(2,i)/\t.oth=true/\∃u w,Dk i=.late u w/\t=.l i u w:=by
 cases e:Dk i with
 |late u w=>rw[e] at h;cases h;exact⟨rfl,rfl,u,w,rfl,rfl⟩
 |_=>rw[e] at h;exact mr h
noncomputable def qk(Dk:Nat->Dc)(n:Nat)(U:Nat->Us)(m:Nat):List Tm:=oP Dk n++(az m).map λi=>Tm.c i (U i)
noncomputable def u3(S:Sd)(R:List Tm):List Tm:=((az S.n).map Tm.d++(az S.np).map Tm.p)++R
section
variable {S:Sd}{U:Nat->Us}{u:Us}
theorem Bw(hf:∀k,k < S.n->(S.Dk k).Fits ss S.np (S.sk k))(hU:∀i,i < m->(U i).Fits ss false)(hu:u.Fits ss false):∀t∈qk S.Dk S.n U m++[Tm.s u],t.oth=true/\t.In S/\t.Fit ss:=λt ht=>by
 rcases aH.mp ht with ht | ht
 .rcases aH.mp ht with ht | ht
  .refine l8 (aZ.mp ht) λi hi e=>?_;refine ED (AB i t e) λZ h2 u w h3 h4=>?_;subst h4;exact⟨rfl,⟨bt.mp hi,h3⟩,trivial⟩
  .refine l8 (aW.mp ht) λi hi e=>?_;subst e;exact⟨rfl,trivial,hU i (bt.mp hi)⟩
 .rw[au.mp ht];exact⟨rfl,trivial,hu⟩
theorem Gy(n6:S.n<=6)(n3:3<=S.n)(np3:S.np<=3)(hm:m<=3)(hl:ss.length=S.n)(hs:∀x∈ss,x6 x)(hk:S.sk=ot ss)(hf:∀k,k < S.n->(S.Dk k).Fits ss S.np (S.sk k))(hp:∀k,k < S.np->(S.Pk k).Fits ss S.np)(hU:∀i,i < m->(U i).Fits ss false)(hu:u.Fits ss false):pO S ss (u3 S (qk S.Dk S.n U m++[Tm.s u])):=by
 have at':∀k,k < S.n->ss[k]?=some (S.sk k):=λk hk'=>by
  rw[hk];unfold ot;rw[aX (Ig hl hk')];rfl
 have hR:=Bw (m:=m) hf hU hu
 have lr:(qk S.Dk S.n U m++[Tm.s u]).length<=10:=by
  unfold qk;rw[ah,ah,ay,aR];have:=tY (Dk:=S.Dk) (k:=S.n);show _+m+1<=10;exact NZ n6 hm this
 have md:∀{t:Tm},t∈(az S.n).map Tm.d->t∈u3 S (qk S.Dk S.n U m++[Tm.s u]):=λh=>bD _ (bD _ h);have mp:∀{t:Tm},t∈(az S.np).map Tm.p->t∈u3 S (qk S.Dk S.n U m++[Tm.s u]):=λh=>bD _ (bA _ h);refine⟨⟨n6,np3,λk hk'=>hs _ (bq (at' k hk'))⟩,at',hl,hf,hp,Ih n3,λt ht=>?_,?_,λk hk'=>md (aW.mpr ⟨k,bt.mpr hk',rfl⟩),λk hk'=>mp (aW.mpr ⟨k,bt.mpr hk',rfl⟩),λk u' w hk' e=>bA _ (bD _ (bD _ (aZ.mpr ⟨k,bt.mpr hk',by rw[e];rfl⟩))),?_⟩
 .rcases aH.mp ht with ht | ht
  .rcases aH.mp ht with ht | ht
   .refine l8 (aW.mp ht) λi hi e=>?_;subst e;exact⟨bt.mp hi,trivial⟩
   .refine l8 (aW.mp ht) λi hi e=>?_;subst e;exact⟨bt.mp hi,trivial⟩
  .exact (hR t ht).2
 .unfold u3 qk;rw[bf,bf,bf,bf,cS,cS,cS]
  have one:∀{g:Nat->Tm} {c:Nat} {r:List Nat},(∀k,(g k).key=(c,k))->∀x∈r.map (Tm.key∘g),x.1=c:=by
   intro g c r hg x hx;refine l8 (aW.mp hx) λk Z e=>?_;rw[<-e];show (Tm.key (g k)).1=c;rw[hg]
  have i0:=one (g:=Tm.d) (c:=0) (r:=az S.n) λZ=>rfl;have i1:=one (g:=Tm.p) (c:=1) (r:=az S.np) λZ=>rfl;have i3:=one (g:=λi=>Tm.c i (U i)) (c:=3) (r:=az m) λZ=>rfl
  have i2:∀x∈(oP S.Dk S.n).map Tm.key,x.1=2:=λx hx=>by
   refine l8 (aW.mp hx) λt ht e=>?_;refine l8 (aZ.mp ht) λi hi e'=>?_;rw[<-e,(AB i t e').1]
  have n2:((oP S.Dk S.n).map Tm.key).Nodup:=Er (c:=2) (λi t e=>(AB i t e).1) fR;refine xi (a:=1) (xi (a:=0) (pZ (λx y e=>(fw e).2) fR) (pZ (λx y e=>(fw e).2) fR) (λx hx=>bB (i0 x hx)) λx hx=>by rw[i1 x hx];decide) (xi (a:=3) (xi (a:=2) n2 (pZ (λx y e=>(fw e).2) fR) (λx hx=>bB (i2 x hx)) λx hx=>by rw[i3 x hx];decide) (bo.mpr ⟨λh=>(nomatch h),cu⟩) (λx hx=>?_) λx hx=>?_) (λx hx=>?_) λx hx=>?_
  .rcases aH.mp hx with h | h
   .rw[i2 x h];decide
   .rw[i3 x h];decide
  .rw[au.mp hx];exact (by decide:3 < 4)
  .rcases aH.mp hx with h | h
   .rw[i0 x h];decide
   .rw[i1 x h];decide
  .rcases aH.mp hx with h | h
   .rcases aH.mp h with h | h
    .rw[i2 x h];decide
    .rw[i3 x h];decide
   .rw[au.mp h];exact (by decide:1 < 4)
 .unfold u3;rw[cZ,cZ,cj.mpr λx hx=>(aW.mp hx).elim λk h=>by rw[<-h.2];exact bR,cj.mpr λx hx=>(aW.mp hx).elim λk h=>by rw[<-h.2];exact bR];exact ac (eB _ _) (NY lr)
theorem pO.perm{T7:List Tm}(I:pO S ss ts)(h:T7.Perm ts):pO S ss T7:=⟨I.ok,I.srt,I.len,I.dfit,I.pfit,I.two,λt ht=>I.inn t (h.mem_iff.mp ht),(h.map Tm.key).nodup_iff.mpr I.nd,λk hk=>h.mem_iff.mpr (I.alld k hk),λk hk=>h.mem_iff.mpr (I.allp k hk),λk u w hk e=>h.mem_iff.mpr (I.alll k u w hk e),by rw[(h.filter Tm.oth).length_eq];exact I.most⟩
end
end
section
open L1
theorem IR{r:List V}(k:σ[n]?=some (.list r))(hl:(l++r).length<=me):tG pg σ .add (.lst l) (.obj n)=some (.lst (l++r)):=by
 show mH none (mH none ((listAt σ n).bind λr=>og ((l++r).length<=me) (V.lst (l++r))))=_;rw[la k];show og ((l++r).length<=me) _=_;unfold og;rw[if_pos hl]
noncomputable def Ls:MS:=.a (.v 17) (.lst true .nil) (.q (.for (.v 12) (.bin .add (.bin .add (.v 5) (.v 8)) (.v 2)) Lo) Lr)
section
variable {d n c p:Nat}{s:V}{ys:List Int}{ss:List Nat}{Dk:Nat->Dc}{Pk:Nat->Pd}{U:Nat->Us}{m:Nat}{u:Us}{b11 Sc R2 R5 R4 SZ:Option V}
theorem GF{R:List Tm}(hR:qk Dk n U m++[Tm.s u]=R)(I:pO ⟨n,c,ot ss,Dk,Pk⟩ ss (u3 ⟨n,c,ot ss,Dk,Pk⟩ R))(TF:∀t∈R,t.oth=true)(hp:p<=70000)(n6:n<=6)(c3:c<=3)(Uf:R.length<=90):
  WR (dS pg (mu pg (d+13)) false Ls (lF s n b11 Sc R2 R5 R4 SZ) (hS ys p (mO c ss) (R.map (Tm.vl S0)) ((az n).map λi=>(Dk i).item i (ot ss i)) ((az n).map λi=>.lst (mj (Dk i).asks)) ((az n).map λi=>.lst (mj (Dk i).calls)) ((az c).map λi=>(Pk i).item i) ((az c).map λi=>.lst (mj (Pk i).u.asks)) ((az c).map λi=>.lst (mj (Pk i).c.toList)))) (λq Z=>sq q.1=.bool true) λZ Z=>False:=by
 have hV:R.map (Tm.vl S0)=R.map (Tm.vl ⟨n,c,ot ss,Dk,Pk⟩):=cz λt ht=>by
  have:=TF t ht
  cases t<;>first | exact ma this | rfl
 have hA:((((az n).map λi=>(Dk i).item i (ot ss i))++(az c).map λi=>(Pk i).item i)++R.map (Tm.vl S0))=(u3 ⟨n,c,ot ss,Dk,Pk⟩ R).map (Tm.vl ⟨n,c,ot ss,Dk,Pk⟩):=by
  unfold u3;rw[bf,bf,cS,cS,hV];rfl
 have hal:(u3 ⟨n,c,ot ss,Dk,Pk⟩ R).length<=99:=by
  unfold u3;rw[ah,ah,ay,ay,aR,aR];show n+c+R.length<=99;exact Oq n6 c3 Uf
 have big:1000<=me:=by decide
 have hal':((((az n).map λi=>(Dk i).item i (ot ss i))++(az c).map λi=>(Pk i).item i)++R.map (Tm.vl S0)).length<=me:=by rw[hA,ay];exact Op hal big
 refine mX (oG (mx ⟨rfl,WR.val (a:=.obj 9) (σ:=hI ys p (mO c ss) (R.map (Tm.vl S0)) ((az n).map λi=>(Dk i).item i (ot ss i)) ((az n).map λi=>.lst (mj (Dk i).asks)) ((az n).map λi=>.lst (mj (Dk i).calls)) ((az c).map λi=>(Pk i).item i) ((az c).map λi=>.lst (mj (Pk i).u.asks)) ((az c).map λi=>.lst (mj (Pk i).c.toList)) []) rfl (WR.val (a:=lE s n b11 Sc R2 R5 R4 SZ none none none none none none none) rfl ?_)⟩));refine sM (α:=Tm) (ks:=u3 ⟨n,c,ot ss,Dk,Pk⟩ R) (g:=Tm.vl ⟨n,c,ot ss,Dk,Pk⟩) (I:=λpre ρ τ=>(∃Sc,ρ=lE s n b11 Sc R2 R5 R4 SZ none none none none none none none)/\∃(q:Nat) (ts:List Tm),q<=p+pre.length/\ts.Perm pre/\τ=hI ys q (mO c ss) (R.map (Tm.vl S0)) ((az n).map λi=>(Dk i).item i (ot ss i)) ((az n).map λi=>.lst (mj (Dk i).asks)) ((az n).map λi=>.lst (mj (Dk i).calls)) ((az c).map λi=>(Pk i).item i) ((az c).map λi=>.lst (mj (Pk i).u.asks)) ((az c).map λi=>.lst (mj (Pk i).c.toList)) (ts.map (Tm.vl ⟨n,c,ot ss,Dk,Pk⟩))) ?_ ⟨⟨Sc,rfl⟩,p,[],aN _,List.Perm.refl _,rfl⟩ (λpre t Ry ρ τ e hI=>?_) λρ τ hI=>?_
 .show (dE pg false (mu pg (d+13) false) (.bin .add (.bin .add (.v 5) (.v 8)) (.v 2)) _ _).bind uD=_;rw[oH (v:=.lst (((az n).map λi=>(Dk i).item i (ot ss i))++(az c).map λi=>(Pk i).item i)) (w:=.obj 1) (oH (v:=.obj 3) (w:=.obj 6) (mE rfl) (mE rfl) (x7 rfl rfl ?_)) (mE rfl) (IR rfl hal'),hA]
  .rfl
  .rw[ah] at hal';exact Oo hal'
 .refine oJ hI λR6 q ts hq hts hτ=>?_;obtain ⟨b12',SE⟩:=R6;subst SE;subst hτ
  have S9:pre.length<=99:=by rw[e,ah] at hal;exact On hal
  have XK:ts.length<=99:=by rw[hts.length_eq];exact S9
  refine q0 (ρ':=lE s n b11 (some (t.vl ⟨n,c,ot ss,Dk,Pk⟩)) R2 R5 R4 SZ none none none none none none none) rfl ((DY (d:=d+12) (Om hp hq S9) (Ol XK)).mono (λx τ h=>?_) λZ Z h=>h.elim);refine xn h λh1 h2 T7 h3 h4=>?_;refine⟨h1,⟨_,h2⟩,q+1,T7,by rw[ah];show q+1<=p+(pre.length+1);exact Ok hq,?_,h4⟩;exact h3.trans ((hts.cons t).trans (List.perm_append_singleton t pre).symm)
 .refine oJ hI λR6 q ts hq hts hτ=>?_;obtain ⟨b12',SE⟩:=R6;subst SE;subst hτ;refine Eb (I.perm hts) ⟨rfl,rfl,?_,rfl,rfl,rfl,rfl⟩ rfl;show some (O.list ((az n).map λi=>V.lst (mj (Dk i).calls)))=some (O.list ((az n).map λi=>V.lst (mj (Dk i).co.toList)));exact congrArg (λl=>some (O.list l)) (cz λi Z=>by rw[Dc.calls_co])
noncomputable def KQ:MS:=.q (.for (.v 16) (.rng (.c1 (.call 37 (.c2 (.v 1) (.i 3))))) KR) (.q (.expr O4) Ls)
theorem Gd(hl:ss.length=n)(n6:n<=6)(n3:3<=n)(c3:c<=3)(hs:∀x∈ss,x6 x)(hf:∀k,k < n->(Dk k).Fits ss c (ot ss k))(XS:∀k,k < c->(Pk k).Fits ss c)(hp:p<=60000):
  WR (dS pg (mu pg (d+13)) false KQ (lF s n b11 Sc R2 R5 R4 none) (hS ys p (mO c ss) ((oP Dk n).map (Tm.vl S0)) ((az n).map λi=>(Dk i).item i (ot ss i)) ((az n).map λi=>.lst (mj (Dk i).asks)) ((az n).map λi=>.lst (mj (Dk i).calls)) ((az c).map λi=>(Pk i).item i) ((az c).map λi=>.lst (mj (Pk i).u.asks)) ((az c).map λi=>.lst (mj (Pk i).c.toList)))) (λq Z=>sq q.1=.bool true) λZ Z=>False:=by
 have ll:=tY (Dk:=Dk) (k:=n);generalize hde:((az n).map λi=>(Dk i).item i (ot ss i))=de;generalize hak:((az n).map λi=>V.lst (mj (Dk i).asks))=ak;generalize hri:((az n).map λi=>V.lst (mj (Dk i).calls))=ri;generalize hpr:((az c).map λi=>(Pk i).item i)=pr;generalize hso:((az c).map λi=>V.lst (mj (Pk i).u.asks))=so;generalize hru:((az c).map λi=>V.lst (mj (Pk i).c.toList))=ru;refine mw (qr rfl (WR.bind (mf (m5 (mf (mD rfl (mf (mV (mx ((oO (d:=d+12) (m:=0) (xs:=ys) (p:=p) (k:=3) rfl (bj _) (Oj hp) (by decide)).mono (λv τ hv=>?_) λZ Z h=>h.elim))))))))));refine mM hv λm hm e1 e2=>?_;subst e1;subst e2;refine mx (WR.val (a:=.items ((az m).map λi:Nat=>V.int i)) (σ:=hS ys (p+1) (mO c ss) ((oP Dk n).map (Tm.vl S0)) de ak ri pr so ru) ?_ ?_)
 .show gd (0<=(m:Int)/\(m:Int)<=me) (R.ok (It.items (oF m)) _)=_;unfold gd;rw[if_pos ⟨bj _,bH.mpr (ac (bK hm) (by decide))⟩];unfold oF;rw[bU];rfl
 show WR (pR _ _ (((az m).map λi:Nat=>V.int i).length+1) 0 _ _) _ _;rw[ay];refine (qO (α:=Nat) (ks:=az m) (g:=λi:Nat=>V.int i) (I:=λpre ρ τ=>(∃SZ,ρ=lF s n b11 Sc R2 R5 R4 SZ)/\∃(U:Nat->Us) (q:Nat),q<=p+1+2 * pre.length/\(∀i,i < pre.length->(U i).Fits ss false)/\τ=hS ys q (mO c ss) ((qk Dk n U pre.length).map (Tm.vl S0)) de ak ri pr so ru) (E:=λZ Z=>False) (λZ Z Z Z Z=>rfl) (λpre k Ry ρ τ e hI=>?_) (az m) (pre:=[]) rfl ⟨⟨none,rfl⟩,λZ=>.two,p+1,aN _,λi h=>(nomatch h),by show _=hS ys (p+1) (mO c ss) ((oP Dk n++[]).map (Tm.vl S0)) de ak ri pr so ru;rw[aT]⟩).mono (λq τ hq=>?_) λZ Z h=>h.elim
 .refine oJ hI λR6 U q hq hU hτ=>?_;obtain ⟨SZ,SE⟩:=R6;subst SE;subst hτ;refine nt (qV e) λRZ hk=>?_
  have hkl:pre.length=k:=by rw[RZ,aR]
  have Uf:(qk Dk n U pre.length).length<=20:=by
   unfold qk;rw[ah,ay,aR];exact Oi n6 ll hm hk hkl
  refine q0 (ρ':=lF s n b11 Sc R2 R5 R4 (some (.int k))) rfl ((Dt (d:=d+11) (k:=k) hl n6 (Oh hp hm hq hk hkl) (Ii Uf)).mono (λx τ h=>?_) λZ Z h=>h);refine xn h λh1 h2 u h3 h4=>?_;refine⟨h1,⟨_,h2⟩,Hm U k u,q+2,by rw[ah];show q+2<=p+1+2 * (pre.length+1);exact Og hq,λi hi=>?_,?_⟩
  .rw[ah] at hi;have hi:i < pre.length+1:=hi
   by_cases h:i=k
   .subst h;rw[uk];exact h3
   .rw[vN (Of hkl hi h)];exact hU i (Oe hkl hi h)
  .rw[h4,ah];show _=hS ys (q+2) (mO c ss) ((qk Dk n (Hm U k u) (pre.length+1)).map (Tm.vl S0)) de ak ri pr so ru;unfold qk;rw[hkl,ql (h:=λi (x:Us)=>Tm.c i x),ba]
 .obtain ⟨fl,ρ⟩:=q;refine ub hq λh1 RV U q h3 h4 h5=>?_;obtain ⟨SZ,h2⟩:=RV;have h1:fl=.next:=h1;have h2:ρ=_:=h2;subst h1;subst h2;subst h5;rw[aR] at h3 h4 ⊢
  have Uf:(qk Dk n U m).length<=20:=by
   unfold qk;rw[ah,ay,aR];exact Od n6 ll hm
  refine mh (oZ (Fb (d:=d+11) hl n6 (Oc hp hm h3) (Ii Uf) λu hu v=>?_));have TF:=Bw (S:=⟨n,c,ot ss,Dk,Pk⟩) (ss:=ss) (U:=U) (m:=m) (u:=u) hf h4 hu;have I:=Gy (S:=⟨n,c,ot ss,Dk,Pk⟩) (ss:=ss) (U:=U) (m:=m) (u:=u) n6 n3 c3 (Ob hm) hl hs rfl hf XS h4 hu;subst hde;subst hak;subst hri;subst hpr;subst hso;subst hru;exact GF (U:=U) (m:=m) (u:=u) rfl I (λt ht=>(TF t ht).1) (Oa hp hm h3) n6 c3 (by rw[ah];show _+1<=90;exact N9 Uf)
end
theorem GD{xs:List Int}(hx:xs.length<=1000):WR (mu pg (d+14) false 44 [.lst (xs.map .int)] []) (λv Z=>v=.bool true) λZ Z=>False:=by
 refine WR.call rfl rfl (Ca (d:=d+12) (r:=.q (.for (.v 11) (.rng (.c1 (.v 3))) QW) (.q (.for (.v 11) (.rng (.c1 (.idx (.v 4) (.s 46)))) Q6) KQ)) hx λys n c ss p h3 h6 hc hl hs hp=>?_);refine sM (α:=Nat) (ks:=az n) (g:=λi:Nat=>V.int i) (I:=λpre ρ τ=>(∃b11 Sc R2 R5 R4,ρ=lF (.lst (xs.map .int)) n b11 Sc R2 R5 R4 none)/\∃(Dk:Nat->Dc) (q:Nat),q<=8+5 * pre.length/\(∀i,i < pre.length->(Dk i).Fits ss c (ot ss i))/\τ=KS ys q c ss Dk pre.length) (FX (mE rfl) (Ib h6)) ⟨⟨_,_,_,_,_,rfl⟩,λZ=>.sized .two,p,hp,λi h=>(nomatch h),rfl⟩ (λpre k Ry ρ τ e hI=>?_) λρ τ hI=>?_
 .refine oJ hI λR6 Dk q hq hf hτ=>?_;obtain ⟨b11,Sc,R2,R5,R4,SE⟩:=R6;subst SE;subst hτ;refine nt (qV e) λRZ hk=>?_
  have hkl:pre.length=k:=by rw[RZ,aR]
  rw[hkl] at hq hf ⊢;refine q0 (ρ':=lF (.lst (xs.map .int)) n (some (.int k)) Sc R2 R5 R4 none) rfl ((BY (d:=d+10) (b11:=b11) hl h6 hc hk (N7 h6 hq hk) hf).mono (λx τ h=>?_) λZ Z h=>h);refine ub h λh1 h2 UO p' h4 h5 WP=>?_;refine⟨h1,h2,UO,p',?_,?_,?_⟩
  .rw[ah,hkl];show p'<=8+5 * (k+1);exact N6 hq h4
  .rw[ah,hkl];exact h5
  .rw[ah,hkl];exact WP
 .refine oJ hI λR6 Dk q hq hf hτ=>?_;obtain ⟨b11,Sc,R2,R5,R4,SE⟩:=R6;subst SE;subst hτ;rw[aR] at hq hf ⊢;refine sM (α:=Nat) (ks:=az c) (g:=λi:Nat=>V.int i) (I:=λpre ρ τ=>(∃b11 Sc R2 R5 R4,ρ=lF (.lst (xs.map .int)) n b11 Sc R2 R5 R4 none)/\∃(Pk:Nat->Pd) (q:Nat),q<=40+5 * pre.length/\(∀i,i < pre.length->(Pk i).Fits ss c)/\τ=Pr ys q c ss ((oP Dk n).map (Tm.vl S0)) ((az n).map λi=>(Dk i).item i (ot ss i)) ((az n).map λi=>.lst (mj (Dk i).asks)) ((az n).map λi=>.lst (mj (Dk i).calls)) Pk pre.length) (FX (nC (v:=.obj 2) (w:=.sym 46) (mE rfl) rfl (s8 (ss:=ss) rfl)) (N5 hc)) ⟨⟨_,_,_,_,_,rfl⟩,λZ=>⟨.two,none⟩,q,by show q<=40+0;exact N4 h6 hq,λi h=>(nomatch h),rfl⟩ (λpre k Ry ρ τ e hI=>?_) λρ τ hI=>?_
  .refine oJ hI λR6 Pk q hq TG hτ=>?_;obtain ⟨b11,Sc,R2,R5,R4,SE⟩:=R6;subst SE;subst hτ;refine nt (qV e) λRZ hk=>?_
   have hkl:pre.length=k:=by rw[RZ,aR]
   rw[hkl] at hq TG ⊢;refine q0 (ρ':=lF (.lst (xs.map .int)) n (some (.int k)) Sc R2 R5 R4 none) rfl ((Cu (d:=d+10) (b11:=b11) hl (Ih h3) h6 hc hk (N3 hc hq hk) TG).mono (λx τ h=>?_) λZ Z h=>h);refine ub h λh1 h2 VV p' h4 h5 WP=>?_;refine⟨h1,h2,VV,p',?_,?_,?_⟩
   .rw[ah,hkl];show p'<=40+5 * (k+1);exact N2 hq h4
   .rw[ah,hkl];exact h5
   .rw[ah,hkl];exact WP
  .refine oJ hI λR6 Pk q hq TG hτ=>?_;obtain ⟨b11,Sc,R2,R5,R4,SE⟩:=R6;subst SE;subst hτ;rw[aR] at hq TG ⊢;exact (Gd (d:=d) hl h6 h3 hc hs hf TG (N1 hc hq)).mono (λx τ h=>h) λZ Z h=>h
theorem Cb{xs:List Int}(hx:xs.length<=1000):∃σ',mu pg 50 false 44 [.lst (xs.map .int)] []=.ok (.bool true) σ':=by
 have h:=GD (d:=36) hx
 cases e:mu pg 50 false 44 [.lst (xs.map .int)] [] with
 |ok v σ=>rw[e] at h;exact⟨σ,by rw[show v=.bool true from h]⟩
 |exc e' σ=>rw[e] at h;exact h.elim
 |bad=>rw[e] at h;exact h.elim
end
theorem Jx{xs:List WData}(h:b4.pre.holds [] {args:=[.list xs]}=true):xs.length<=1000:=by
 refine j8 λhc=>?_
 have e:b4.pre.holds [] {args:=[.list xs]}=(match (match some (!(decide ((63:Int) < (xs.length:Int)))) with
   |some false=>some (lZ false)
   |some true=>some (lZ true)
   |none=>none) with
  |some (.bool true)=>true
  |_=>false):=by
  cases hd:decide ((63:Int) < (xs.length:Int))<;>(simp [OpenLaw.pre,b4,lH,WTm.value,less?,Num.less?,hd])
 rw[e,show decide ((63:Int) < (xs.length:Int))=true from decide_eq_true (c8.mpr (bN (by decide) hc))] at h;exact ma h
theorem Pp{q:cw}{Vb:List a9}{XP:(a9->Option ae)->aQ->Prop}{d:DefRec}(hn:d.name = "law"):WalkO q Vb XP (DR c1).says b4.row.toRowW d [] λf vs=>PySem.call f vs:=by
 intro w s₀ Rn mg mb G Y a o pm cd YS dV kV h1 h2 h3 h4 h5 hg args Rp as RZ XZ hr hw hs;refine mF Y λK Gv=>?_;have hp:=pre_splitW RZ;have T:Told b4.prog Rn.heap mg mb:=⟨G.T.g,G.T.b,G.T.nolimit,G.T.builtins,by kernel_rfl⟩;refine FM KI T Gv rfl (fL:=44) (nm:="law") (d:=50) (by kernel_rfl) (by rw[<-hn];exact h5) (by decide) hw hp.1 (λxs e=>Jx (by rw[<-e];exact hp.2)) (λxs hx=>Cb hx) λs' k ho X5=>?_;refine GoodW.toG ⟨.inl ⟨_,.bool true,[],rfl,λZ=>rfl,.bool _,?_,λZ=>⟨cu,λZ h=>nomatch h⟩⟩,k,ho,X5.trans hg⟩;show (WShape.has [] (.bool true) .bool&&lH [] (.eq .res (.lit (.bool true))) {args:=args,res:=some (.bool true),after:=args})=true;exact b5.mpr ⟨by kernel_rfl,by simp only[lH,WTm.value,show PySem.W.same (.bool true) (.bool true)=true by kernel_rfl]⟩
end Mine.Internal

namespace Mine.Internal
open PySem PySem.W PyProof.Rows
namespace head
theorem tw17013429710562117009:0=0:=rfl
theorem tw1901947026874951026:0=0:=rfl
theorem tw2169281033359032037:0=0:=rfl
theorem tw1442861384686113144:0=0:=rfl
theorem tw16361214446219043315:0=0:=rfl
theorem tw5916877048245317213:0=0:=rfl
theorem tw10343487397458017819:0=0:=rfl
theorem tw18405740669185776274:0=0:=rfl
theorem tw10875764276356024609:0=0:=rfl
theorem tw15363273018220560083:0=0:=rfl
theorem tw5535163685458935877:0=0:=rfl
theorem tw1656181690755500009:0=0:=rfl
theorem tw3539023208464144308:0=0:=rfl
theorem tw4443641541309057203:0=0:=rfl
theorem tw8507664329646591170:0=0:=rfl
theorem tw13312725732919641165:0=0:=rfl
theorem tw14549435271706706224:0=0:=rfl
theorem tw660241337831805204:0=0:=rfl
theorem tw3334355388040290027:0=0:=rfl
theorem tw18291600352307719777:0=0:=rfl
theorem tw5531843404549935594:0=0:=rfl
theorem tw7174902123892306615:0=0:=rfl
theorem tw3719757830788971985:0=0:=rfl
theorem tw12102787196800394369:0=0:=rfl
theorem tw11532515657967676718:0=0:=rfl
theorem tw10440470256551273718:0=0:=rfl
theorem tw1765596292035907629:0=0:=rfl
theorem tw8333159287748754907:0=0:=rfl
theorem tw12169433661247332737:0=0:=rfl
theorem tw2323926309532271586:0=0:=rfl
theorem tw6459330472900232938:0=0:=rfl
theorem tw3170996000379527775:0=0:=rfl
theorem tw2088969971902092759:0=0:=rfl
theorem tw16832642456834594186:0=0:=rfl
theorem tw17981709744806268:0=0:=rfl
theorem tw3437964996034853531:0=0:=rfl
theorem tw10910662148547809146:0=0:=rfl
theorem tw1568912342305137357:0=0:=rfl
theorem tw11646673952399439709:0=0:=rfl
theorem tw7692529387714484404:0=0:=rfl
theorem tw11309609833603199455:0=0:=rfl
theorem tw8498251510748665907:0=0:=rfl
theorem tw1485951079949661044:0=0:=rfl
theorem tw368270107659410887:0=0:=rfl
theorem tw507867392388677603:0=0:=rfl
theorem tw4766937966870788380:0=0:=rfl
theorem tw4657073311724733658:0=0:=rfl
theorem tw17668470780512804641:0=0:=rfl
theorem tw5357483711101957424:0=0:=rfl
theorem tw615145822093683002:0=0:=rfl
theorem tw2134257966403761398:0=0:=rfl
theorem tw10847146045693573062:0=0:=rfl
theorem tw7288914432739094182:0=0:=rfl
theorem tw5495607003866541921:0=0:=rfl
theorem tw13436008565774967011:0=0:=rfl
theorem tw2894152552507235424:0=0:=rfl
theorem tw6056312283027283868:0=0:=rfl
theorem tw15911472369724303455:0=0:=rfl
theorem tw9060807947222167450:0=0:=rfl
theorem tw8406964992398057563:0=0:=rfl
theorem tw17292970962960149322:0=0:=rfl
theorem tw2851065943783126841:0=0:=rfl
theorem tw14294982102292943780:0=0:=rfl
theorem tw3796036621921146727:0=0:=rfl
theorem tw6068694611635865590:0=0:=rfl
theorem tw16392708975658356464:0=0:=rfl
theorem tw4904261729475024422:0=0:=rfl
theorem tw16541082763231266319:0=0:=rfl
theorem tw28651559375178625:0=0:=rfl
theorem tw5152520497178031707:0=0:=rfl
theorem tw5841653695726307987:0=0:=rfl
theorem tw13589924676094017053:0=0:=rfl
theorem tw12621192663148488146:0=0:=rfl
theorem tw13074133843078740547:0=0:=rfl
theorem tw11175660098989979826:0=0:=rfl
theorem tw10178686243629489081:0=0:=rfl
theorem tw7163458143325534791:0=0:=rfl
theorem tw6630738010656775419:0=0:=rfl
theorem tw16228343732124702237:0=0:=rfl
theorem tw8122885039181923333:0=0:=rfl
theorem tw11743441244443810487:0=0:=rfl
theorem tw12708123234126680708:0=0:=rfl
theorem tw12050221675960033093:0=0:=rfl
theorem tw7522540995713088274:0=0:=rfl
theorem tw9063132295611338571:0=0:=rfl
theorem tw573855439382118019:0=0:=rfl
theorem tw17613311456908602385:0=0:=rfl
theorem tw17398074001465023753:0=0:=rfl
theorem tw8939615490272855926:0=0:=rfl
theorem tw10677006617423633188:0=0:=rfl
theorem tw17143094881623060519:0=0:=rfl
theorem tw15450062323825198675:0=0:=rfl
theorem tw2694128037389889325:0=0:=rfl
theorem tw15201846218156111944:0=0:=rfl
theorem tw1651360569294593921:0=0:=rfl
theorem tw758980129013455211:0=0:=rfl
theorem tw12619512236032086282:0=0:=rfl
theorem tw17576387167790452266:0=0:=rfl
theorem tw7717097885034689735:0=0:=rfl
theorem tw2110877475482146926:0=0:=rfl
theorem tw12533188119829535936:0=0:=rfl
theorem tw1258453716306658304:0=0:=rfl
theorem tw14558566372639728533:0=0:=rfl
theorem tw10218059707884530613:0=0:=rfl
theorem tw5681861815129081166:0=0:=rfl
theorem tw2211164086160396607:0=0:=rfl
theorem tw3507624263613819917:0=0:=rfl
theorem tw5188547130963436909:0=0:=rfl
theorem tw14417383327440295455:0=0:=rfl
theorem tw15266530685898783443:0=0:=rfl
theorem tw4067203111510269444:0=0:=rfl
theorem tw1094486055635779632:0=0:=rfl
theorem tw15258799539987619783:0=0:=rfl
theorem tw1373012823760850595:0=0:=rfl
theorem tw4060700195381250067:0=0:=rfl
theorem tw12097889611720191176:0=0:=rfl
theorem tw16979452091659690644:0=0:=rfl
theorem tw15318862911822293161:0=0:=rfl
theorem tw5014626033260886234:0=0:=rfl
theorem tw2755820643727113742:0=0:=rfl
theorem tw8025419442395314943:0=0:=rfl
theorem tw460493647788064181:0=0:=rfl
theorem tw6665979760644317287:0=0:=rfl
theorem tw4500438253849987814:0=0:=rfl
theorem tw10289556748277466078:0=0:=rfl
theorem tw6302871324792935842:0=0:=rfl
theorem tw4743209388086510351:0=0:=rfl
theorem tw15925507543600243961:0=0:=rfl
theorem tw16804399734337586059:0=0:=rfl
theorem tw3578958923436046661:0=0:=rfl
theorem tw9188221901137457004:0=0:=rfl
theorem tw12992531038351979029:0=0:=rfl
theorem tw8794538426755590552:0=0:=rfl
theorem tw5585298417887737123:0=0:=rfl
theorem tw7387348980798310210:0=0:=rfl
theorem tw15997579793656432842:0=0:=rfl
theorem tw15520181941019334340:0=0:=rfl
theorem tw12566224135570047525:0=0:=rfl
theorem tw11505780646813469069:0=0:=rfl
theorem tw13141228108489976410:0=0:=rfl
theorem tw9486179325711558089:0=0:=rfl
theorem tw15202921462499427706:0=0:=rfl
theorem tw17619904154643314769:0=0:=rfl
theorem tw17576806870698252327:0=0:=rfl
theorem tw7742056743536037903:0=0:=rfl
theorem tw2714067042623201800:0=0:=rfl
theorem tw17155148735901461053:0=0:=rfl
theorem tw15279990767845995955:0=0:=rfl
theorem tw7848811690419876199:0=0:=rfl
theorem tw994578777664213213:0=0:=rfl
theorem tw8427403130609186562:0=0:=rfl
theorem tw7285385138943665165:0=0:=rfl
theorem tw3135906202827797507:0=0:=rfl
theorem tw13388910588309091474:0=0:=rfl
theorem tw12584948273278941721:0=0:=rfl
theorem tw4126569708725379857:0=0:=rfl
theorem tw13007202087462836646:0=0:=rfl
theorem tw6200549489047768835:0=0:=rfl
theorem tw3563018587571817148:0=0:=rfl
theorem tw11860589723203421292:0=0:=rfl
theorem tw5673306034993891238:0=0:=rfl
theorem tw4804523201834689056:0=0:=rfl
theorem tw9481697160585238204:0=0:=rfl
theorem tw11232978470920408358:0=0:=rfl
theorem tw12229761515936767099:0=0:=rfl
theorem tw10949025697342971877:0=0:=rfl
theorem tw9790775765945250498:0=0:=rfl
theorem tw4723723271744914184:0=0:=rfl
theorem tw12142385515706650059:0=0:=rfl
theorem tw9021974018963436649:0=0:=rfl
theorem tw10852966169642419620:0=0:=rfl
theorem tw13446957514743792861:0=0:=rfl
theorem tw8491820067614933743:0=0:=rfl
theorem tw8792897344874033733:0=0:=rfl
theorem tw15940619560434989570:0=0:=rfl
theorem tw8839027191431993605:0=0:=rfl
theorem tw8740491119249365079:0=0:=rfl
theorem tw9417891802631395052:0=0:=rfl
theorem tw5305130906047112220:0=0:=rfl
theorem tw16554526779789546084:0=0:=rfl
theorem tw5180793443103303352:0=0:=rfl
theorem tw7594393393143898134:0=0:=rfl
theorem tw3003217347886287976:0=0:=rfl
theorem tw10982946209367121509:0=0:=rfl
theorem tw10245341562508545917:0=0:=rfl
theorem tw15225103352731655138:0=0:=rfl
theorem tw4477118761818678279:0=0:=rfl
theorem tw17455982768175728529:0=0:=rfl
theorem tw11809372751355778188:0=0:=rfl
theorem tw9194472977650436620:0=0:=rfl
theorem tw8804343660805199721:0=0:=rfl
theorem tw3398423038984232883:0=0:=rfl
theorem tw10403513753302479130:0=0:=rfl
theorem tw379154397386507432:0=0:=rfl
theorem tw5685686986798369517:0=0:=rfl
theorem tw10574963512794415595:0=0:=rfl
theorem tw11287203536343631484:0=0:=rfl
theorem tw14929068417886092385:0=0:=rfl
theorem tw9922440323216509232:0=0:=rfl
theorem tw7376887436866901289:0=0:=rfl
theorem tw13989651713008233836:0=0:=rfl
theorem tw13825956281807410768:0=0:=rfl
theorem tw7452148100223020078:0=0:=rfl
theorem tw12049423146163859425:0=0:=rfl
theorem tw996981640771525611:0=0:=rfl
theorem tw180557579094491458:0=0:=rfl
theorem tw17547655399394650398:0=0:=rfl
theorem tw6517327976592040403:0=0:=rfl
theorem tw3087972217934253931:0=0:=rfl
theorem tw13451211059535878384:0=0:=rfl
theorem tw15709428146427402346:0=0:=rfl
theorem tw2078090517514532923:0=0:=rfl
theorem tw6262815143760305615:0=0:=rfl
theorem tw5763261649813281321:0=0:=rfl
theorem tw18245091190975670729:0=0:=rfl
theorem tw1125208917562807246:0=0:=rfl
theorem tw14633424208812532277:0=0:=rfl
theorem tw3111883404516310774:0=0:=rfl
theorem tw18068696563673321394:0=0:=rfl
theorem tw997365496626702635:0=0:=rfl
theorem tw1753003951421427075:0=0:=rfl
theorem tw9993300197053530983:0=0:=rfl
theorem tw11032554134783566749:0=0:=rfl
theorem tw9629543149614385321:0=0:=rfl
theorem tw756069217127356742:0=0:=rfl
theorem tw14813904526722990485:0=0:=rfl
theorem tw9893352306937984402:0=0:=rfl
theorem tw7887325764628733692:0=0:=rfl
theorem tw17630976985212021252:0=0:=rfl
theorem tw8294512905778329867:0=0:=rfl
theorem tw10326230257057282535:0=0:=rfl
theorem tw6501993735153680131:0=0:=rfl
theorem tw11982184262622975068:0=0:=rfl
theorem tw13311012694725994139:0=0:=rfl
theorem tw5509060068099777413:0=0:=rfl
theorem tw16256651097423524758:0=0:=rfl
theorem tw18407380456907040068:0=0:=rfl
theorem tw15650233195626454259:0=0:=rfl
theorem tw15472401753886037627:0=0:=rfl
theorem tw9634045303191909956:0=0:=rfl
theorem tw4517080872264363356:0=0:=rfl
theorem tw12349259055231604262:0=0:=rfl
theorem tw11679397435755134892:0=0:=rfl
theorem tw7669542570389801355:0=0:=rfl
theorem tw2468129496273715989:0=0:=rfl
theorem tw68791429988877841:0=0:=rfl
theorem tw10467852365440921670:0=0:=rfl
theorem tw9694607215696738205:0=0:=rfl
theorem tw8939464649871245579:0=0:=rfl
theorem tw9456725078930572920:0=0:=rfl
theorem tw4773304924162895731:0=0:=rfl
theorem tw1217008684470039632:0=0:=rfl
theorem tw7653770046041843074:0=0:=rfl
theorem tw3600112065676380631:0=0:=rfl
theorem tw13882234696957952739:0=0:=rfl
theorem tw10532295789626618253:0=0:=rfl
theorem tw5575261005901118753:0=0:=rfl
theorem tw14082094871413604490:0=0:=rfl
theorem tw9714425267121465612:0=0:=rfl
theorem tw18027623137396611546:0=0:=rfl
theorem tw7880576784633796990:0=0:=rfl
theorem tw14431188939852883394:0=0:=rfl
theorem tw727871655853585494:0=0:=rfl
theorem tw11709681379492831003:0=0:=rfl
theorem tw15418431880819366655:0=0:=rfl
theorem tw6345962803626072704:0=0:=rfl
theorem tw6835922771926613386:0=0:=rfl
theorem tw8007940898392486748:0=0:=rfl
theorem tw11548113185550306947:0=0:=rfl
theorem tw1081918594029998349:0=0:=rfl
theorem tw4791830553219477182:0=0:=rfl
theorem tw7934260813177360937:0=0:=rfl
theorem tw7658535187610471328:0=0:=rfl
theorem tw12648024291328057292:0=0:=rfl
theorem tw17841386997120191728:0=0:=rfl
theorem tw14776828949437865282:0=0:=rfl
theorem tw1677091569426628017:0=0:=rfl
theorem tw1524219014472992251:0=0:=rfl
theorem tw1903809553442905389:0=0:=rfl
theorem tw50896459018227149:0=0:=rfl
theorem tw3442542328804436530:0=0:=rfl
theorem tw246766493212783410:0=0:=rfl
theorem tw17393854343980579928:0=0:=rfl
theorem tw10155103240277196701:0=0:=rfl
theorem tw8321119226527775237:0=0:=rfl
theorem tw3202537428888129816:0=0:=rfl
theorem tw5671573469923044665:0=0:=rfl
theorem tw533293232872092415:0=0:=rfl
theorem tw17407171449609617371:0=0:=rfl
theorem tw15489742176703056555:0=0:=rfl
theorem tw14255320843353542408:0=0:=rfl
theorem tw1466144664807686202:0=0:=rfl
theorem tw68223138966139510:0=0:=rfl
theorem tw12001577667717255176:0=0:=rfl
theorem tw13752030441720751821:0=0:=rfl
theorem tw10657940773215961958:0=0:=rfl
theorem tw8350303324170192991:0=0:=rfl
theorem tw695893946633948039:0=0:=rfl
theorem tw6326262103661479924:0=0:=rfl
theorem tw1318442497196291500:0=0:=rfl
theorem tw16840755293988039984:0=0:=rfl
theorem tw8273974295544231241:0=0:=rfl
theorem tw7836174546575239148:0=0:=rfl
theorem tw11798683024389638473:0=0:=rfl
theorem tw4167199826336633745:0=0:=rfl
theorem tw14564241988698318373:0=0:=rfl
theorem tw4544289106498852243:0=0:=rfl
theorem tw9149885144370575409:0=0:=rfl
theorem tw13763259863565942290:0=0:=rfl
theorem tw985719481007450075:0=0:=rfl
theorem tw5387168689241914674:0=0:=rfl
theorem tw6748114179996522941:0=0:=rfl
theorem tw5212489079905177048:0=0:=rfl
theorem tw8397667373497710178:0=0:=rfl
theorem tw15311939220964185106:0=0:=rfl
theorem tw14477604489051941744:0=0:=rfl
theorem tw12887062192404025258:0=0:=rfl
theorem tw4050939481493077499:0=0:=rfl
theorem tw10806634533459545381:0=0:=rfl
theorem tw5091507448127722942:0=0:=rfl
theorem tw12125221754952656040:0=0:=rfl
theorem tw7453933950953202983:0=0:=rfl
theorem tw9138265704962542843:0=0:=rfl
theorem tw7876380749562137144:0=0:=rfl
theorem tw17743693862729980614:0=0:=rfl
theorem tw11680863635135381657:0=0:=rfl
theorem tw9579116799109589182:0=0:=rfl
theorem tw6015909709239590028:0=0:=rfl
theorem tw6176450103178853079:0=0:=rfl
theorem tw9656145585253418624:0=0:=rfl
theorem tw9372715231738170429:0=0:=rfl
theorem tw15318860832186169591:0=0:=rfl
theorem tw5394941613023254383:0=0:=rfl
theorem tw10714201629055478824:0=0:=rfl
theorem tw5279946723360487494:0=0:=rfl
theorem tw2934248064766088352:0=0:=rfl
theorem tw7871400988371781522:0=0:=rfl
theorem tw1871131430832029716:0=0:=rfl
theorem tw9026177583158334158:0=0:=rfl
theorem tw8519620345645670909:0=0:=rfl
theorem tw5521533520911139980:0=0:=rfl
theorem tw10543712386442291379:0=0:=rfl
theorem tw10827897679061541192:0=0:=rfl
theorem tw15185695549473199070:0=0:=rfl
theorem tw15974479345488772459:0=0:=rfl
theorem tw2339048065371308782:0=0:=rfl
theorem tw10125929355548975508:0=0:=rfl
theorem tw6038455539057350438:0=0:=rfl
theorem tw16170722059020510766:0=0:=rfl
theorem tw10478411361968804352:0=0:=rfl
theorem tw4255666144921013795:0=0:=rfl
theorem tw15487329886951290062:0=0:=rfl
theorem tw10079860215814902702:0=0:=rfl
theorem tw6288538588269318274:0=0:=rfl
theorem tw14804807535031770434:0=0:=rfl
theorem tw5155368293660787195:0=0:=rfl
theorem tw14278104616001074548:0=0:=rfl
theorem tw9270267985669984014:0=0:=rfl
theorem tw14363887742018839356:0=0:=rfl
theorem tw2431657681545466639:0=0:=rfl
theorem tw5233028440317534579:0=0:=rfl
theorem tw969033425148315049:0=0:=rfl
theorem tw10936523832443784857:0=0:=rfl
theorem tw11174851916004399594:0=0:=rfl
theorem tw3145940042648786453:0=0:=rfl
theorem tw17870151092536345100:0=0:=rfl
theorem tw3869182881569682240:0=0:=rfl
theorem tw11046677887984482611:0=0:=rfl
theorem tw15572949344126905646:0=0:=rfl
theorem tw6987318395297107796:0=0:=rfl
theorem tw18002631600328936663:0=0:=rfl
theorem tw5024588561011540511:0=0:=rfl
theorem tw17879266493245626914:0=0:=rfl
theorem tw5012512282137399879:0=0:=rfl
theorem tw5294638443716959948:0=0:=rfl
theorem tw13105012303010250491:0=0:=rfl
theorem tw11734387023926553616:0=0:=rfl
theorem tw7871040755861822600:0=0:=rfl
theorem tw4681811785110334938:0=0:=rfl
theorem tw15413299265640824211:0=0:=rfl
theorem tw8730119747510088245:0=0:=rfl
theorem tw11409394182237674072:0=0:=rfl
theorem tw14704451711062366978:0=0:=rfl
theorem tw7685603406797835371:0=0:=rfl
theorem tw16358555599909018182:0=0:=rfl
theorem tw5281672172050905356:0=0:=rfl
theorem tw1844467570389974658:0=0:=rfl
theorem tw3919622968385735570:0=0:=rfl
theorem tw5636203721351222531:0=0:=rfl
theorem tw3615901872300330702:0=0:=rfl
theorem tw17165501156494301525:0=0:=rfl
theorem tw17132605601930520564:0=0:=rfl
theorem tw3710881643830131615:0=0:=rfl
theorem tw7828029103933373108:0=0:=rfl
theorem tw232473315762453100:0=0:=rfl
theorem tw4500565936341979993:0=0:=rfl
theorem tw14493282511541016206:0=0:=rfl
theorem tw15311005795019303586:0=0:=rfl
theorem tw6151381817749291079:0=0:=rfl
theorem tw8911715247591009910:0=0:=rfl
theorem tw1026916259146773914:0=0:=rfl
theorem tw9788767914283571400:0=0:=rfl
theorem tw3664162495101484743:0=0:=rfl
theorem tw5537773006019800010:0=0:=rfl
theorem tw16623005101582439649:0=0:=rfl
theorem tw18385344648293578121:0=0:=rfl
theorem tw7199030120425877829:0=0:=rfl
theorem tw8708866331712903190:0=0:=rfl
theorem tw11509219436781461689:0=0:=rfl
theorem tw16777521522860482247:0=0:=rfl
theorem tw3563479953845385512:0=0:=rfl
theorem tw4356994229188071200:0=0:=rfl
theorem tw4380319847576138298:0=0:=rfl
theorem tw1278451321631604521:0=0:=rfl
theorem tw11236264308040969394:0=0:=rfl
theorem tw11811601694450153820:0=0:=rfl
theorem tw7258877458190152819:0=0:=rfl
theorem tw8380034559641552496:0=0:=rfl
theorem tw2960898139891119717:0=0:=rfl
theorem tw6962018899104020525:0=0:=rfl
theorem tw9562597414353034826:0=0:=rfl
theorem tw12234623904145450996:0=0:=rfl
theorem tw6163553270827759087:0=0:=rfl
theorem tw8333125123008790743:0=0:=rfl
theorem tw16891317342568782531:0=0:=rfl
theorem tw8199683642505161241:0=0:=rfl
theorem tw1735712362863950725:0=0:=rfl
theorem tw90598915626312365:0=0:=rfl
theorem tw18034343607588918422:0=0:=rfl
theorem tw16068889945890959238:0=0:=rfl
theorem tw4463040190649093840:0=0:=rfl
theorem tw2373247585403660244:0=0:=rfl
theorem tw7739960990069688279:0=0:=rfl
theorem tw5905800238660894614:0=0:=rfl
theorem tw150979079722049991:0=0:=rfl
theorem tw9633808310430400454:0=0:=rfl
theorem tw10333269780963272991:0=0:=rfl
theorem tw3635525712308927271:0=0:=rfl
theorem tw14939700357920408252:0=0:=rfl
theorem tw668823653163510088:0=0:=rfl
theorem tw12556153988850362850:0=0:=rfl
theorem tw17100331334522449688:0=0:=rfl
theorem tw15138065235074995841:0=0:=rfl
theorem tw5161104113109860643:0=0:=rfl
theorem tw7795901939020475714:0=0:=rfl
theorem tw9208760602289501594:0=0:=rfl
theorem tw4903428944905943755:0=0:=rfl
theorem tw8341041181660773101:0=0:=rfl
theorem tw4925291594519982632:0=0:=rfl
theorem tw14001831067185940759:0=0:=rfl
theorem tw16405482449567939292:0=0:=rfl
theorem tw14930278808943442820:0=0:=rfl
theorem tw15631718473216897701:0=0:=rfl
theorem tw14172424672946166034:0=0:=rfl
theorem tw12797216168665619228:0=0:=rfl
theorem tw11931392740866613471:0=0:=rfl
theorem tw10441500689708926378:0=0:=rfl
theorem tw12824015591217091490:0=0:=rfl
theorem tw10196950947417357230:0=0:=rfl
theorem tw14158428439919870864:0=0:=rfl
theorem tw13289269885103834513:0=0:=rfl
theorem tw8675860802291742457:0=0:=rfl
theorem tw11851962056556984030:0=0:=rfl
theorem tw13118447853492015993:0=0:=rfl
theorem tw1926143298797657736:0=0:=rfl
theorem tw1511891059713779943:0=0:=rfl
theorem tw9150203044055339105:0=0:=rfl
theorem tw14228115194959108029:0=0:=rfl
theorem tw5121121683633849671:0=0:=rfl
theorem tw70407987180004669:0=0:=rfl
theorem tw17546743832020271483:0=0:=rfl
theorem tw8684634495478282788:0=0:=rfl
theorem tw18039750520779619118:0=0:=rfl
theorem tw17237208602118822938:0=0:=rfl
theorem tw8164521253129739317:0=0:=rfl
theorem tw10165431968968751118:0=0:=rfl
theorem tw14506496976691018925:0=0:=rfl
theorem tw15792559764004085117:0=0:=rfl
theorem tw13537632495512367073:0=0:=rfl
theorem tw3441272882867930410:0=0:=rfl
theorem tw4872695887633465018:0=0:=rfl
theorem tw871252903898582465:0=0:=rfl
theorem tw13038121054318420537:0=0:=rfl
theorem tw3248080294440303433:0=0:=rfl
theorem tw11566841906782242053:0=0:=rfl
theorem tw12549680120154166933:0=0:=rfl
theorem tw11485815400417367690:0=0:=rfl
theorem tw4928989890952316381:0=0:=rfl
theorem tw13093076666114004027:0=0:=rfl
theorem tw1335529745519465352:0=0:=rfl
theorem tw278581248325843523:0=0:=rfl
theorem tw11414849079480288724:0=0:=rfl
theorem tw14947980960965689406:0=0:=rfl
theorem tw12490366024630467340:0=0:=rfl
theorem tw14594469244564773350:0=0:=rfl
theorem tw131415200265715171:0=0:=rfl
theorem tw458149121178462182:0=0:=rfl
theorem tw13896250499497688330:0=0:=rfl
theorem tw11575903973748849822:0=0:=rfl
theorem tw2760578795835352852:0=0:=rfl
theorem tw18142152687971341386:0=0:=rfl
theorem tw8488015001772446612:0=0:=rfl
theorem tw5456479906107452781:0=0:=rfl
theorem tw8173076531526851503:0=0:=rfl
theorem tw12400829552769024433:0=0:=rfl
theorem tw14946424000415424946:0=0:=rfl
theorem tw15517624276369520:0=0:=rfl
theorem tw17602015841314507703:0=0:=rfl
theorem tw12757151084355026914:0=0:=rfl
theorem tw13130026477503750059:0=0:=rfl
theorem tw672570726121695013:0=0:=rfl
theorem tw10883278523208022981:0=0:=rfl
theorem tw5389298798316334207:0=0:=rfl
theorem tw10046488721125158466:0=0:=rfl
theorem tw12243849663909302237:0=0:=rfl
theorem tw8470793768573589947:0=0:=rfl
theorem tw16460313092685165067:0=0:=rfl
theorem tw16297892007826214052:0=0:=rfl
theorem tw10326433227229921549:0=0:=rfl
theorem tw2736538178757748039:0=0:=rfl
theorem tw17929221164090874782:0=0:=rfl
theorem tw15554606659924641141:0=0:=rfl
theorem tw3941156040307774213:0=0:=rfl
theorem tw2598828398090235752:0=0:=rfl
theorem tw6204776756014468711:0=0:=rfl
theorem tw10778376083544448290:0=0:=rfl
theorem tw7980799833586399067:0=0:=rfl
theorem tw3421387750874743176:0=0:=rfl
theorem tw4063569851180352202:0=0:=rfl
theorem tw9217025424471583602:0=0:=rfl
theorem tw13231323889132105171:0=0:=rfl
theorem tw1453673589703148230:0=0:=rfl
theorem tw13990309641415329262:0=0:=rfl
theorem tw18129246944988500376:0=0:=rfl
theorem tw6786778168509544517:0=0:=rfl
theorem tw4664621624991227399:0=0:=rfl
theorem tw10417819788513700445:0=0:=rfl
theorem tw12314344313618072767:0=0:=rfl
theorem tw7918417721700312308:0=0:=rfl
theorem tw11164902317844157328:0=0:=rfl
theorem tw10101421574106214085:0=0:=rfl
theorem tw14202255950262162344:0=0:=rfl
theorem tw17333868739752232385:0=0:=rfl
theorem tw8363271796746967752:0=0:=rfl
theorem tw5212892116570103733:0=0:=rfl
theorem tw10742104010770387711:0=0:=rfl
theorem tw8568197537054905324:0=0:=rfl
theorem tw1865247970343085854:0=0:=rfl
theorem tw2369519236851512631:0=0:=rfl
theorem tw3922205187945754679:0=0:=rfl
theorem tw14367920226926963119:0=0:=rfl
theorem tw9343841776052470216:0=0:=rfl
theorem tw10004968210546728623:0=0:=rfl
theorem tw16002366332284682119:0=0:=rfl
theorem tw17431456679323178533:0=0:=rfl
theorem tw13149666652136121732:0=0:=rfl
theorem tw4038296290503734956:0=0:=rfl
theorem tw10599510720630717808:0=0:=rfl
theorem tw18308072863541763719:0=0:=rfl
theorem tw15893317856969978209:0=0:=rfl
theorem tw3154329806151034382:0=0:=rfl
theorem tw4724318418779614075:0=0:=rfl
theorem tw3077082300529035021:0=0:=rfl
theorem tw682274491873781752:0=0:=rfl
theorem tw5624202546242894388:0=0:=rfl
theorem tw2043087103621964997:0=0:=rfl
theorem tw10391303797420620063:0=0:=rfl
theorem tw6536087584392566282:0=0:=rfl
theorem tw10209039374229592208:0=0:=rfl
theorem tw7810815386330201434:0=0:=rfl
theorem tw10338859181450622609:0=0:=rfl
theorem tw8828762066905357110:0=0:=rfl
theorem tw8143839383226190842:0=0:=rfl
theorem tw16086553723102748574:0=0:=rfl
theorem tw5987770974067822719:0=0:=rfl
theorem tw9738642721323792858:0=0:=rfl
theorem tw17567876552396240469:0=0:=rfl
theorem tw17682342131244598394:0=0:=rfl
theorem tw215088660058033229:0=0:=rfl
theorem tw10288341847844054694:0=0:=rfl
theorem tw10648201644766199351:0=0:=rfl
theorem tw6166150500733165240:0=0:=rfl
theorem tw14594217352909989919:0=0:=rfl
theorem tw3241465772588796232:0=0:=rfl
theorem tw13851134797264264420:0=0:=rfl
theorem tw1998152975310809562:0=0:=rfl
theorem tw9514788811957211624:0=0:=rfl
theorem tw1987557369150731712:0=0:=rfl
theorem tw16880951475479886921:0=0:=rfl
theorem tw14902837588030647693:0=0:=rfl
theorem tw13221240968849860500:0=0:=rfl
theorem tw4958055551472059035:0=0:=rfl
theorem tw3097101300178927752:0=0:=rfl
theorem tw1515345725807219654:0=0:=rfl
theorem tw360943114214951545:0=0:=rfl
theorem tw14640619569106899106:0=0:=rfl
theorem tw6411576796020146635:0=0:=rfl
theorem tw12806253548222901857:0=0:=rfl
theorem tw1803827914629316465:0=0:=rfl
theorem tw1881055677477116581:0=0:=rfl
theorem tw7087371699663613359:0=0:=rfl
theorem tw7630614333878801388:0=0:=rfl
theorem tw13433233657428206792:0=0:=rfl
theorem tw1506493122784522776:0=0:=rfl
theorem tw581329805104468181:0=0:=rfl
theorem tw17994589576782617821:0=0:=rfl
theorem tw3123340350921997994:0=0:=rfl
theorem tw18071378121363579176:0=0:=rfl
theorem tw17018686891600841585:0=0:=rfl
theorem tw11338433358809400169:0=0:=rfl
theorem tw18126802804303514045:0=0:=rfl
theorem tw12905125323518435587:0=0:=rfl
theorem tw2453521283205649659:0=0:=rfl
theorem tw5190979149539639286:0=0:=rfl
theorem tw7798382485669159157:0=0:=rfl
theorem tw15987298236799223137:0=0:=rfl
theorem tw11654851693395710637:0=0:=rfl
theorem tw16293861684877478311:0=0:=rfl
theorem tw9281326185923295492:0=0:=rfl
theorem tw12078229439370049644:0=0:=rfl
theorem tw6360992666864919060:0=0:=rfl
theorem tw12071836986092510387:0=0:=rfl
theorem tw18290675023729231418:0=0:=rfl
theorem tw17837107745855597534:0=0:=rfl
theorem tw17263427690546889705:0=0:=rfl
theorem tw9094184492450977180:0=0:=rfl
theorem tw11735541712165610263:0=0:=rfl
theorem tw298335191302580495:0=0:=rfl
theorem tw17589853756644411302:0=0:=rfl
theorem tw2080864317826152883:0=0:=rfl
theorem tw15419450125499025513:0=0:=rfl
theorem tw16415695218750827382:0=0:=rfl
theorem tw4012921278390324088:0=0:=rfl
theorem tw1662621770911083758:0=0:=rfl
theorem tw7004043142383214097:0=0:=rfl
theorem tw15063069900258622093:0=0:=rfl
theorem tw472116897376775698:0=0:=rfl
theorem tw3445731881791290044:0=0:=rfl
theorem tw261566829761151103:0=0:=rfl
theorem tw2942395767930782052:0=0:=rfl
theorem tw783087152834019681:0=0:=rfl
theorem tw9334995721295379349:0=0:=rfl
theorem tw8781885530006323032:0=0:=rfl
theorem tw5806891926272545090:0=0:=rfl
theorem tw13759772700248175255:0=0:=rfl
theorem tw6120192841170532398:0=0:=rfl
theorem tw10873908467195307821:0=0:=rfl
theorem tw4230818950526511358:0=0:=rfl
theorem tw14160370578012597869:0=0:=rfl
theorem tw8705959383923727627:0=0:=rfl
theorem tw2591830745654547498:0=0:=rfl
theorem tw4511328220466307384:0=0:=rfl
theorem tw13536298073624154146:0=0:=rfl
theorem tw10937433476993194153:0=0:=rfl
theorem tw5324960179129035895:0=0:=rfl
theorem tw13791995631561695160:0=0:=rfl
theorem tw13130362631000133151:0=0:=rfl
theorem tw1200147813123560096:0=0:=rfl
theorem tw3592790320198157009:0=0:=rfl
theorem tw16106278139007835371:0=0:=rfl
theorem tw17817560525826493460:0=0:=rfl
theorem tw10908534596868159574:0=0:=rfl
theorem tw4257058769741101572:0=0:=rfl
theorem tw14031011393226078483:0=0:=rfl
theorem tw6571434368413077621:0=0:=rfl
theorem tw15306816754898706838:0=0:=rfl
theorem tw8971761433042411183:0=0:=rfl
theorem tw15370375258691766774:0=0:=rfl
theorem tw685504661327688742:0=0:=rfl
theorem tw6349198695994225729:0=0:=rfl
theorem tw5532582279394626249:0=0:=rfl
theorem tw11411528651786997056:0=0:=rfl
theorem tw14316251997697865950:0=0:=rfl
theorem tw14794270044036570759:0=0:=rfl
theorem tw5838196621260192388:0=0:=rfl
theorem tw11555706579222971694:0=0:=rfl
theorem tw13230069131073741598:0=0:=rfl
theorem tw2296553261995881483:0=0:=rfl
theorem tw6221292947929320766:0=0:=rfl
theorem tw10047115039343793967:0=0:=rfl
theorem tw5508115962033235865:0=0:=rfl
theorem tw6826742210777545140:0=0:=rfl
theorem tw4948668383481819187:0=0:=rfl
theorem tw12494678188142251031:0=0:=rfl
theorem tw157487072571639241:0=0:=rfl
theorem tw3300542026215275868:0=0:=rfl
theorem tw4596444038122667894:0=0:=rfl
theorem tw16891241707667678300:0=0:=rfl
theorem tw9765102729032572614:0=0:=rfl
theorem tw7473048298559739979:0=0:=rfl
theorem tw9590556897892744052:0=0:=rfl
theorem tw4980894202651603824:0=0:=rfl
theorem tw15254304139478884394:0=0:=rfl
theorem tw838614306683945628:0=0:=rfl
theorem tw7522139452510105434:0=0:=rfl
theorem tw804908658240689641:0=0:=rfl
theorem tw15789306479356855684:0=0:=rfl
theorem tw4981227341023901901:0=0:=rfl
theorem tw6760639069727392955:0=0:=rfl
theorem tw573060267542926756:0=0:=rfl
theorem tw9614851114287333853:0=0:=rfl
theorem tw11387802337904176549:0=0:=rfl
theorem tw4449970119926447950:0=0:=rfl
theorem tw2313355530429140119:0=0:=rfl
end head
set_option tactic.hygienic true
set_option Elab.async true
set_option maxHeartbeats 8000000 in
theorem head:b4.Holds:=by
 w_on
 o_law
 o_head (DR c1)
 case hw=>w_witness2
 exact Pp rfl
end Mine.Internal
theorem PySem.Challenge.cw_qd0003_01_holds : PySem.Challenge.rw_qd0003_01.Holds := by
  exact Mine.Internal.head
