import PyProof.Rows.All
import Wide.All
import OpenK.AllK
import Wide.FinOn
import KE.KIntText
import KE.KDictSum
import PyProof.ExcBaseAll.Exception
import PyProof.StrLawsIn
import PyProof.StrLawsTight
import PyProof.StrLawsChain
import PyProof.Rows.Top
import KE.KTryMore
import PySem.Challenge.RW_nn0410_01
open PySem PySem.W PySem.Calls PyProof.Rows
set_option Elab.async false
set_option maxRecDepth 100000
set_option genSizeOf false
set_option linter.all false
set_option tactic.hygienic false
set_option bootstrap.genMatcherCode false
noncomputable section
namespace Mine.Internal
open _root_.And renaming intro->JB
open _root_.Array renaming getElem?_setIfInBounds_ne->kl,getElem?_eq_none->tW,getElem?_setIfInBounds_self_of_lt->vp,getElem?_eq_getElem->D2,forIn_toList->NI,find?_toList->NL,size_append->Qc,ext'->ac5
open _root_.Bool renaming true->D,false->bk,ctorIdx->bP,and_eq_true->eT,and_eq_true_iff->fV,or_eq_true->hX,false_ne_true->ic,and_false->kP,false_eq_true->q7,not_eq_true'->sf,or_false->Hk,and_true->Hn,true_and->Z5,or_true->acZ
open _root_.Eq renaming trans->bL,symm->pP
open _root_.Exists renaming intro->yD
open _root_.ForIn renaming forIn->Qb
open _root_.ForInStep renaming yield->oJ
open _root_.Int renaming le_trans->bA,natCast_nonneg->bT,lt_of_lt_of_le->dO,le_of_lt->ew,add_sub_cancel->eW,le_refl->fb,le_sub_right_of_add_le->gH,lt_of_le_of_lt->ig,add_le_add_right->ix,sub_le_self->iQ,ne_of_gt->i5,add_le_add_left->jK,lt_succ->jW,eq_ofNat_of_zero_le->kX,add_comm->lC,toNat_natCast->lX,ne_of_lt->nZ,sub_nonneg_of_le->pQ,lt_add_one_of_le->pR,sub_add_cancel->rJ,neg_le_neg->rM,le_add_of_nonneg_right->rN,sub_left_le_of_le_add->sj,sub_lt_self->vu,toNat_of_nonneg->xt,add_zero->Ac,ofNat->Bf,max_eq_right->Bg,le_antisymm->Dq,max_eq_left->Ds,add_le_of_le_sub_right->Fd,natAbs_neg->Fi,fdiv_eq_ediv_of_nonneg->Fj,add_le_add->Fl,mul_le_mul->Fo,add_assoc->Hv,neg_nonpos_of_nonneg->HA,sub_self->JT,le_of_eq->JZ,add_mul_ediv_right->J2,sub_nonpos_of_le->NP,sub_pos_of_lt->VC,natAbs_add_le->VQ,ofNat_toNat->Yz,fdiv_nonneg->YC,mul_nonneg->Z6,lt_trans->adg,one_mul->afQ
open _root_.Int.ofNat renaming inj->Qh
open _root_.LawfulBEq renaming eq_of_beq->cR
open _root_.List renaming length_map->aT,getElem?_eq_getElem->aV,mem_of_getElem?->aW,length_append->aY,replicate->bg,getD_eq_getElem?_getD->bx,getElem?_map->bz,append_assoc->bF,map_append->bN,mem_cons_self->bS,length->bW,mem_cons_of_mem->di,range->dk,mem_map_of_mem->dm,cons_ne_nil->dy,take_length->dD,take_add_one->dK,append_nil->dS,length_replicate->ef,ctorIdx->ek,length_range->et,map_map->eE,getElem?_set_self->eK,map_cons->eL,getElem?_append_right->eN,lookup_cons->eS,getElem_mem->eU,length_set->fD,getElem?_append_left->fX,drop_eq_getElem_cons->fY,length_drop->gw,length_cons->gP,exists_cons_of_length_eq_add_one->gQ,size_toArray->g6,getElem?_toArray->hM,take_append_drop->hO,reverse_cons->iH,length_take_of_le->iI,filterMap_cons->iJ,toArray->iZ,sum_cons->i1,getElem?_set_ne->i9,eq_nil_of_length_eq_zero->i',nodup_append->jq,map_congr_left->jH,getElem?_range->jI,take_of_length_le->jM,length_take->jV,length_filterMap_le->km,getElem?_replicate->kM,nodup_nil->kN,pairwise_singleton->kQ,map->lG,drop_left'->lH,getElem?_eq_none->lM,exists_cons_of_ne_nil->me,all_eq_true->mB,mem_or_eq_of_mem_set->mE,eq_of_mem_replicate->mS,sum_append->m3,filterMap_append->oI,lookup->pI,nodup_cons->qb,range_succ->qd,forIn_cons->qe,nodup_iff_pairwise_ne->q5,flatten_cons->sb,getElem_inj->tN,lookup_eq_none_iff->tO,not_mem_nil->tP,all_map->ub,drop_of_length_le->ue,length_singleton->vt,drop_drop->wt,replicate_succ'->wx,dropWhile_cons->xm,mem_cons->xq,map_take->xw,getElem?_drop->yC,pairwise_map->zF,take_sublist->zG,take_subset->AB,foldl_cons->C4,idxOf_cons->C9,drop_left->D5,isPrefixOf_iff_prefix->D6,takeWhile_cons_of_neg->D7,takeWhile_cons_of_pos->D8,map_drop->Ho,filter_cons_of_pos->Hw,filter_cons_of_neg->Hx,length_eq_zero_iff->Hz,find?_cons_of_pos->JE,find?_cons_of_neg->JF,flatMap->JM,mem_append_right->J4,zip->LU,length_take_le'->LV,map_id->LX,filter_sublist->NQ,takeWhile_cons->NV,length_reverse->NW,pairwise_cons->Qf,prefix_append->Qg,getElem_idxOf->Qi,map_replicate->Qk,drop_sublist->Qw,foldl_append->Qz,ext_getElem?->QB,getElem_drop->QD,any_toArray->VB,mem_reverse->VH,cons_append->VO,all_append->Wb,take_left'->Wf,filterMap->YB,any_cons->Z1,set_set->acV,flatten->ac0,foldl->afP,cons->af5,take->af9
open _root_.List.Pairwise renaming nil->uh
open _root_.List.cons renaming inj->gg
open _root_.Nat renaming le_trans->aD,le_of_ble_eq_true->aK,le_refl->bO,succ_le_succ->cg,lt_of_le_of_lt->cw,le_of_eq->cC,lt_of_lt_of_le->cD,add_le_add_right->cG,lt_of_lt_of_eq->cI,add_le_add->cV,zero_le->dA,le_of_lt->dH,lt_succ_self->dM,le_add_right->d7,le_succ->ej,add_le_add_left->eZ,add_comm->fO,ble->gh,le_add_left->gq,lt_succ_of_lt->gB,mul_le_mul_right->gG,le_of_not_lt->gS,ne_of_lt->hY,le_sub_of_add_le->ir,lt_irrefl->iG,add_sub_cancel'->iL,lt_succ_of_le->jx,le_of_succ_le->jy,le_of_succ_le_succ->jN,le_succ_of_le->kj,add_assoc->ku,ne_of_gt->mC,lt_trans->mD,mul_le_mul_left->mJ,lt_or_eq_of_le->m5,sub_add_cancel->m6,zero_add->nY,ble_eq_true_of_le->oY,min_eq_left->qn,sub_self->qU,le_of_add_le_add_left->si,add_sub_cancel_left->tX,succ_add->ui,le_antisymm->vr,sub_eq_zero_of_le->wc,le_of_sub_eq_zero->wi,add_right_comm->yO,lt_of_succ_lt->Aa,le_of_lt_succ->Af,succ_ne_self->Bd,add_mul->C5,exists_eq_succ_of_ne_zero->C8,not_lt_zero->Dr,mul_le_mul->Fc,exists_eq_add_of_le->JJ,lt_of_succ_lt_succ->J0,succ_pos->J1,eq_of_beq_eq_true->L0,one_mul->NR,one_pos->NS,le_sub_one_of_lt->NT,not_succ_le_zero->NX,add_lt_add_left->Qj,sub_le->Qr,sub_lt->QA,lt_of_le_of_ne->QE,pos_of_ne_zero->QF,sub_pos_of_lt->VM,succ_le_of_lt->VP,le_of_not_le->V3,min_le_right->V4,succ_lt_succ->Wc,min_eq_right->Wd,beq->ac3
open _root_.Nat.succ renaming inj->eQ
open _root_.Ne renaming symm->lF
open _root_.Option renaming some->O,none->X,ctorIdx->aP,some_ne_none->iF,map_some->pH,map->qP,isSome->wJ,getD->Z4
open _root_.Option.some renaming inj->aJ
open _root_.Or renaming elim->bV
open _root_.PUnit renaming unit->ac9
open _root_.Prod renaming fst->q6,ext->D0,mk->acT
open _root_.Prod.mk renaming inj->qZ
open _root_.Pure renaming pure->jg,pure->afZ
open _root_.PyProof.Rows renaming seqObj->dG,lookup_of_mem_nodup->ly,sortedHeap->te,IsTup->Aw,signs_ofString->JY,listUpdate_at->NU,seqEpoch_at->Wa,IntsAre->acW,entry_list_sort->afV,slot_list_sort->af6,args_list_sort->af7,sortedHeap_old->af8
open _root_.PySem renaming Addr->a8,Value->bb,Shared->bG,wpAny_pure->bZ,sizeLine->cE,wpAny->ee,eval->eO,wpAny_holding->eY,cellsFrom->fy,sizeLine_eq->fA,wpAny_loadPart_at->fJ,World->fZ,NameKind->gn,model->gy,mainGlobals->gC,wpAny_newObj_type->iR,holding->jL,Heap->j9,Around->kr,cLine->ll,Stmt->lp,wpAny_call_entry->lA,sysModules->lP,Operator->lZ,intItems->l4,standAt->mz,spliced->mA,wpAny_field->mI,codeAny_mono->mZ,stored->nJ,swappedStores->nK,builtinsNs->nV,wpAny_ite_false->oy,DictEntry->oA,tupleKeyHash->pd,getMethod_builtin->pe,foldedSetIterable->pf,CmpOp->qc,call_meets->qm,Builtin->qO,nsFind->rH,wpAny_execs_nil->rL,wpAny_isSubtype_exc->r8,frameOf->sa,compareOp->sY,swapsWith->sZ,IsTupleKey->s9,sliceRange->tc,typeIs_str->td,valueOrNone->uc,excClassObj->ud,assign->ug,wpAny_ite_true->vZ,wpAny_isInstance->wb,getMethod->wd,markedBehindIn_of_false->we,wpAny_callSpecial?_slot->wg,checkBuiltinCall->wh,bootBuiltins->wI,ExcBaseFacts->wM,intBits_le_64->wN,wpAny_storeName_local->xp,exec->xu,Model->yF,wpAny_seqItems->yG,bindName->yI,wpAny_setField->yJ,codeAny_call_builtin->yK,starEach->yL,firstArgMember->yM,wpAny_loadPart->yN,Program->zD,Arguments->zE,execs->Ay,wpAny_newList->AA,wpAny_tupleItemsOf->A0,wpAny_rule->A7,wpAny_call->A9,wpAny_pyIter_tuple->Bc,cLine->Dh,wpAny_truthy_bool->Di,wpAny_mkText->Dj,evalEach->Dl,ownMembersOf->Dm,wpAny_forIn_list->E7,wpAny_eqBool_int->E8,Result->Fb,strValues->Fg,wpAny_madeBy_exc->Fh,wpAny_throw->Hh,IsRangeIter->Hi,interactive->Hj,numAt->Hl,intItems_at->Hm,wpAny_specialOf->Hr,codeAny_builtin->Ht,codeAny->JC,valueAt->JD,evalOpt->JG,notedBy->JI,argBest->JK,wpAny_bindName->JP,point->JQ,binaryOp->JS,typeLookup->JV,assignEach->JW,wpAt_of_wpAny->LY,wpAny_standAt->NJ,Comprehension->NK,attributeBase->NN,wpAny_attempt->NO,eqIsQuiet->Qa,wpAny_pyNext_tuple_item->Qd,wpAny_list_append_plain->Qe,StrKeys->Qq,backTo->Qs,typeOf->Qu,wpAny_pyNext_list_item->Qx,wpAny_pyIter_tupleiter->Qy,callerA->QH,isSubtype_tuple_tuple->VA,wpAny_pyNext_list_end->VD,wpAt_bind->VJ,FuncData->V2,dictDisplay->V7,wpAny_alloc->V8,wpAny_of_eq->V9,numAt_eq->V',wpAny_dictSet_pairs->YA,wpAny_Name->ZV,Flow->ZW,truthy->ZX,markedEach->ZY,pyNext->ZZ,findBy_of_findIdx?->Z0,wpAny_setItem_heap->Z2,passOn->Z3,Thread->Z9,IsRange->acL,operate->acM,allTrue->acO,wpAny_pyIter_list->acQ,slot_list_setitem->acR,setAttr->acS,relabel->acU,OsState->acX,call->ac4,ClassData->ac6,seqIndex?->ac7,partValue->ac8,wpAny_lookBehind->ada,pastItsLine_dict->adb,isinstance_outer->ade,treeTable->adh,Fin->afO,letOwnedTupleGo->afR,pushCells_keeps->afS,wpAny_ite_false->afT,call_isinstance->afU,importedModules->afW,constantsAlone->af0,wpAny_newTuple->af1,methodCallForm->af3,isSubtype_stop->af4
open _root_.PySem.AnswersAll renaming cons->JX
open _root_.PySem.Around renaming frames_deeper->vq
open _root_.PySem.BoolOp renaming And->fF,Or->oC
open _root_.PySem.Builtin renaming divisionGoesByPylong->Ab,bitAnd->Ba
open _root_.PySem.Builtin.Int renaming intBits->iq
open _root_.PySem.Builtin.List renaming listTooLong->qf
open _root_.PySem.Builtin.Str renaming strSliceIndices->jh
open _root_.PySem.Builtin.Tuple renaming tupleHashOf->lE
open _root_.PySem.Calls renaming call_function_entry->D4,Name_function_global->V1
open _root_.PySem.Challenge renaming pw_nn0410_01->vY
open _root_.PySem.Code renaming quiet_builtin->q8
open _root_.PySem.Data renaming ctorIdx->gz
open _root_.PySem.DictEntry renaming refKey->JU
open _root_.PySem.EntryCells renaming newEntry->t9
open _root_.PySem.Expr renaming ctorIdx->hG
open _root_.PySem.F renaming plainAttrs_list->se,args_str_split_2->Ad,entry_str_split->Be,excBase_Exception->C7,slot_str_split->Dp,plainAttrs_str->Fe,slot_range_iterator_next->Hu,slot_tuple_iterator_next->Hy,slot_tuple_hash->Yy,slot_tuple_eq->acK,slot_int_rmul->acN
open _root_.PySem.Heap renaming get?_push_of_some->bM,get?_push_size->cJ,get?_none_of_le->d6,get?_update_self->eV,size_push->fj,lt_size->fN,SameBut->f7,get?_update_other->gf,ExtBut->LW,get?_push_ne->QC,size_update->VK
open _root_.PySem.Heap.DictOf renaming new->JH
open _root_.PySem.Heap.SameBut renaming update->gF
open _root_.PySem.IntMulOk renaming of_left->jJ,of_right->J3
open _root_.PySem.NameKind renaming ctorIdx->gA,cell->nW,free->nX
open _root_.PySem.Obj renaming mapFields->kx,mapSeq->lB,putNameByArray->rK,putName_eq->wL
open _root_.PySem.Sem renaming wp_release->E9
open _root_.PySem.Shared.TypeIs renaming not_mainsLoader->wu
open _root_.PySem.Str renaming ofString->qT,length->Ff,join->Z7,append->afY
open _root_.PySem.Txt renaming charAt->af2
open _root_.PySem.Value renaming ctorIdx->f9,ref->gL,isStrOf->xk,builtin->xl,none->xr,int->Ae,isInt->Ax,type->adf
open _root_.PySem.Value.type renaming inj->LZ
open _root_.PySem.W renaming findIn->ji,boot_heap->mf,Frag->nH,SharedT->qQ,Looks->vX,looks_findIn->wK,handedIn->yH,emptyDict->zH,clsIn->Az,keepIn->A8,typeIn->Bb,instObj->JL,alive->JR,boot_drawn->J5,boot_toks->Ql,looks_clsIn->V5,nsIn->ZU,readsAllW_cons_inv->Z8,findObj->acP,readsAllW_nil_inv->ac2
open _root_.PySem.W.CFound renaming val->ac1
open _root_.PySem.W.KIN renaming signs_num->acY
open _root_.PySem.W.Looks renaming of_pure->oX,ld->V6,here->ac'
open _root_.PySem.W.WData renaming int->Ag,weightAll->VR
open _root_.PySem.W.WShape renaming hasItems->QG
abbrev ar:=List Int
abbrev aq:=List Nat
abbrev ao:=Option Int
abbrev ai:=Option Bool
abbrev af:=List (Int×Int)
abbrev ae:=List ar
abbrev aa:=List aq
theorem cM{a b:Prop}(h:a)(k:¬a):b:=absurd h k
theorem aH{α:Sort u}{β:Sort v}{a b:α}(f:α->β)(h:a=b):f a=f b:=congrArg f h
theorem Ll{α:Sort u}{β:α->Sort v}{f g:(x:α)->β x}(h:f=g)(a:α):f a=g a:=congrFun h a
theorem bj{p:Prop}[Decidable p](h:¬p):decide p=false:=decide_eq_false h
theorem aN{p:Prop}[Decidable p](h:p):decide p=true:=decide_eq_true h
theorem bu{c:Prop}{h:Decidable c}(k:¬c){α:Sort u}{t e:α}:ite c t e=e:=if_neg k
theorem bI{c:Prop}{h:Decidable c}(k:c){α:Sort u}{t e:α}:ite c t e=t:=if_pos k
theorem aI{p:Prop}[Decidable p](h:decide p=true):p:=of_decide_eq_true h
theorem Z{α:Sort u}{a:α}:a=a:=rfl
set_option backward.match.sparseCases true
theorem fw{A1:Prop}{A2:Prop}{G:Prop}(h:A1/\A2)(k:A1->A2->G):G:=k h.1 h.2
theorem ka{α:Sort _}{A1:α->Prop}{G:Prop}(h:∃x,A1 x)(k:∀x,A1 x->G):G:=h.elim λx t=>k x t
theorem m7{A1:Prop}{A2:Prop}{A3:Prop}{G:Prop}(h:A1/\A2/\A3)(k:A1->A2->A3->G):G:=k h.1 h.2.1 h.2.2
theorem xy{α:Sort _}{A1:Prop}{A2:α->Prop}{G:Prop}(h:A1/\∃x,A2 x)(k:A1->∀x,A2 x->G):G:=h.2.elim λx t=>k h.1 x t
theorem cK{α:Sort _}{A1:α->Prop}{A2:α->Prop}{G:Prop}(h:∃x,A1 x/\A2 x)(k:∀x,A1 x->A2 x->G):G:=h.elim λx t=>k x t.1 t.2
theorem mK{α:Sort _}{β:Sort _}{A1:α->β->Prop}{G:Prop}(h:∃x,∃a,A1 x a)(k:∀x,∀a,A1 x a->G):G:=h.elim λx t=>t.elim λa b=>k x a b
theorem Bh{A1:Prop}{A2:Prop}{A3:Prop}{A4:Prop}{G:Prop}(h:A1/\A2/\A3/\A4)(k:A1->A2->A3->A4->G):G:=k h.1 h.2.1 h.2.2.1 h.2.2.2
theorem Bi{α:Sort _}{A1:Prop}{A2:α->Prop}{A3:α->Prop}{G:Prop}(h:A1/\∃x,A2 x/\A3 x)(k:A1->∀x,A2 x->A3 x->G):G:=h.2.elim λx t=>k h.1 x t.1 t.2
theorem hV{α:Sort _}{A1:α->Prop}{A2:α->Prop}{A3:α->Prop}{G:Prop}(h:∃x,A1 x/\A2 x/\A3 x)(k:∀x,A1 x->A2 x->A3 x->G):G:=h.elim λx t=>k x t.1 t.2.1 t.2.2
theorem j6{α:Sort _}{β:Sort _}{A1:α->β->Prop}{A2:α->β->Prop}{G:Prop}(h:∃x,∃a,A1 x a/\A2 x a)(k:∀x,∀a,A1 x a->A2 x a->G):G:=h.elim λx b=>b.elim λa t=>k x a t.1 t.2
theorem xA{α:Sort _}{β:Sort _}{γ:Sort _}{A1:α->β->γ->Prop}{G:Prop}(h:∃x,∃a,∃b,A1 x a b)(k:∀x,∀a,∀b,A1 x a b->G):G:=h.elim λx t=>t.elim λa c=>c.elim λb d=>k x a b d
theorem J6{α:Sort _}{A1:Prop}{A2:α->Prop}{A3:α->Prop}{A4:α->Prop}{G:Prop}(h:A1/\∃x,A2 x/\A3 x/\A4 x)(k:A1->∀x,A2 x->A3 x->A4 x->G):G:=h.2.elim λx t=>k h.1 x t.1 t.2.1 t.2.2
theorem gU{α:Sort _}{A1:α->Prop}{A2:α->Prop}{A3:α->Prop}{A4:α->Prop}{G:Prop}(h:∃x,A1 x/\A2 x/\A3 x/\A4 x)(k:∀x,A1 x->A2 x->A3 x->A4 x->G):G:=h.elim λx t=>k x t.1 t.2.1 t.2.2.1 t.2.2.2
theorem rO{α:Sort _}{β:Sort _}{A1:α->Prop}{A2:α->Prop}{A3:α->β->Prop}{G:Prop}(h:∃x,A1 x/\A2 x/\∃a,A3 x a)(k:∀x,A1 x->A2 x->∀a,A3 x a->G):G:=h.elim λx t=>t.2.2.elim λa b=>k x t.1 t.2.1 a b
theorem fE{α:Sort _}{β:Sort _}{A1:α->β->Prop}{A2:α->β->Prop}{A3:α->β->Prop}{G:Prop}(h:∃x,∃a,A1 x a/\A2 x a/\A3 x a)(k:∀x,∀a,A1 x a->A2 x a->A3 x a->G):G:=h.elim λx b=>b.elim λa t=>k x a t.1 t.2.1 t.2.2
theorem jz{α:Sort _}{β:Sort _}{γ:Sort _}{A1:α->β->γ->Prop}{A2:α->β->γ->Prop}{G:Prop}(h:∃x,∃a,∃b,A1 x a b/\A2 x a b)(k:∀x,∀a,∀b,A1 x a b->A2 x a b->G):G:=h.elim λx c=>c.elim λa d=>d.elim λb t=>k x a b t.1 t.2
theorem Bj{α:Sort _}{β:Sort _}{γ:Sort _}{δ:Sort _}{A1:α->β->γ->δ->Prop}{G:Prop}(h:∃x,∃a,∃b,∃c,A1 x a b c)(k:∀x,∀a,∀b,∀c,A1 x a b c->G):G:=h.elim λx t=>t.elim λa d=>d.elim λb e=>e.elim λc f=>k x a b c f
theorem pS{α:Sort _}{A1:α->Prop}{A2:α->Prop}{A3:α->Prop}{A4:α->Prop}{A5:α->Prop}{G:Prop}(h:∃x,A1 x/\A2 x/\A3 x/\A4 x/\A5 x)(k:∀x,A1 x->A2 x->A3 x->A4 x->A5 x->G):G:=h.elim λx t=>k x t.1 t.2.1 t.2.2.1 t.2.2.2.1 t.2.2.2.2
theorem e9{α:Sort _}{β:Sort _}{A1:α->β->Prop}{A2:α->β->Prop}{A3:α->β->Prop}{A4:α->β->Prop}{G:Prop}(h:∃x,∃a,A1 x a/\A2 x a/\A3 x a/\A4 x a)(k:∀x,∀a,A1 x a->A2 x a->A3 x a->A4 x a->G):G:=h.elim λx b=>b.elim λa t=>k x a t.1 t.2.1 t.2.2.1 t.2.2.2
theorem iT{α:Sort _}{β:Sort _}{γ:Sort _}{A1:α->β->γ->Prop}{A2:α->β->γ->Prop}{A3:α->β->γ->Prop}{G:Prop}(h:∃x,∃a,∃b,A1 x a b/\A2 x a b/\A3 x a b)(k:∀x,∀a,∀b,A1 x a b->A2 x a b->A3 x a b->G):G:=h.elim λx c=>c.elim λa d=>d.elim λb t=>k x a b t.1 t.2.1 t.2.2
theorem AD{α:Sort _}{β:Sort _}{γ:Sort _}{δ:Sort _}{A1:α->β->γ->δ->Prop}{A2:α->β->γ->δ->Prop}{G:Prop}(h:∃x,∃a,∃b,∃c,A1 x a b c/\A2 x a b c)(k:∀x,∀a,∀b,∀c,A1 x a b c->A2 x a b c->G):G:=h.elim λx d=>d.elim λa e=>e.elim λb f=>f.elim λc t=>k x a b c t.1 t.2
theorem q9{α:Sort _}{β:Sort _}{γ:Sort _}{δ:Sort _}{ζ:Sort _}{A1:α->β->γ->δ->ζ->Prop}{G:Prop}(h:∃x,∃a,∃b,∃c,∃d,A1 x a b c d)(k:∀x,∀a,∀b,∀c,∀d,A1 x a b c d->G):G:=h.elim λx t=>t.elim λa e=>e.elim λb f=>f.elim λc g=>g.elim λd i=>k x a b c d i
theorem QJ{α:Sort _}{β:Sort _}{γ:Sort _}{A1:Prop}{A2:Prop}{A3:α->β->γ->Prop}{A4:α->β->γ->Prop}{G:Prop}(h:A1/\A2/\∃x,∃a,∃b,A3 x a b/\A4 x a b)(k:A1->A2->∀x,∀a,∀b,A3 x a b->A4 x a b->G):G:=h.2.2.elim λx c=>c.elim λa d=>d.elim λb t=>k h.1 h.2.1 x a b t.1 t.2
theorem g7{α:Sort _}{β:Sort _}{γ:Sort _}{A1:α->β->γ->Prop}{A2:α->β->γ->Prop}{A3:α->β->γ->Prop}{A4:α->β->γ->Prop}{G:Prop}(h:∃x,∃a,∃b,A1 x a b/\A2 x a b/\A3 x a b/\A4 x a b)(k:∀x,∀a,∀b,A1 x a b->A2 x a b->A3 x a b->A4 x a b->G):G:=h.elim λx c=>c.elim λa d=>d.elim λb t=>k x a b t.1 t.2.1 t.2.2.1 t.2.2.2
theorem kh{α:Sort _}{β:Sort _}{γ:Sort _}{δ:Sort _}{A1:α->β->γ->δ->Prop}{A2:α->β->γ->δ->Prop}{A3:α->β->γ->δ->Prop}{G:Prop}(h:∃x,∃a,∃b,∃c,A1 x a b c/\A2 x a b c/\A3 x a b c)(k:∀x,∀a,∀b,∀c,A1 x a b c->A2 x a b c->A3 x a b c->G):G:=h.elim λx d=>d.elim λa e=>e.elim λb f=>f.elim λc t=>k x a b c t.1 t.2.1 t.2.2
theorem uj{α:Sort _}{β:Sort _}{γ:Sort _}{δ:Sort _}{ζ:Sort _}{A1:α->β->γ->δ->ζ->Prop}{A2:α->β->γ->δ->ζ->Prop}{G:Prop}(h:∃x,∃a,∃b,∃c,∃d,A1 x a b c d/\A2 x a b c d)(k:∀x,∀a,∀b,∀c,∀d,A1 x a b c d->A2 x a b c d->G):G:=h.elim λx e=>e.elim λa f=>f.elim λb g=>g.elim λc i=>i.elim λd t=>k x a b c d t.1 t.2
theorem sk{α:Sort _}{β:Sort _}{γ:Sort _}{δ:Sort _}{A1:Prop}{A2:α->β->γ->δ->Prop}{A3:α->β->γ->δ->Prop}{A4:α->β->γ->δ->Prop}{G:Prop}(h:A1/\∃x,∃a,∃b,∃c,A2 x a b c/\A3 x a b c/\A4 x a b c)(k:A1->∀x,∀a,∀b,∀c,A2 x a b c->A3 x a b c->A4 x a b c->G):G:=h.2.elim λx d=>d.elim λa e=>e.elim λb f=>f.elim λc t=>k h.1 x a b c t.1 t.2.1 t.2.2
theorem vv{α:Sort _}{β:Sort _}{A1:α->β->Prop}{A2:α->β->Prop}{A3:α->β->Prop}{A4:α->β->Prop}{A5:α->β->Prop}{A6:α->β->Prop}{G:Prop}(h:∃x,∃a,A1 x a/\A2 x a/\A3 x a/\A4 x a/\A5 x a/\A6 x a)(k:∀x,∀a,A1 x a->A2 x a->A3 x a->A4 x a->A5 x a->A6 x a->G):G:=h.elim λx b=>b.elim λa t=>k x a t.1 t.2.1 t.2.2.1 t.2.2.2.1 t.2.2.2.2.1 t.2.2.2.2.2
theorem l5{α:Sort _}{β:Sort _}{γ:Sort _}{A1:α->β->γ->Prop}{A2:α->β->γ->Prop}{A3:α->β->γ->Prop}{A4:α->β->γ->Prop}{A5:α->β->γ->Prop}{G:Prop}(h:∃x,∃a,∃b,A1 x a b/\A2 x a b/\A3 x a b/\A4 x a b/\A5 x a b)(k:∀x,∀a,∀b,A1 x a b->A2 x a b->A3 x a b->A4 x a b->A5 x a b->G):G:=h.elim λx c=>c.elim λa d=>d.elim λb t=>k x a b t.1 t.2.1 t.2.2.1 t.2.2.2.1 t.2.2.2.2
theorem vx{α:Sort _}{β:Sort _}{γ:Sort _}{δ:Sort _}{A1:α->β->γ->δ->Prop}{A2:α->β->γ->δ->Prop}{A3:α->β->γ->δ->Prop}{A4:α->β->γ->δ->Prop}{G:Prop}(h:∃x,∃a,∃b,∃c,A1 x a b c/\A2 x a b c/\A3 x a b c/\A4 x a b c)(k:∀x,∀a,∀b,∀c,A1 x a b c->A2 x a b c->A3 x a b c->A4 x a b c->G):G:=h.elim λx d=>d.elim λa e=>e.elim λb f=>f.elim λc t=>k x a b c t.1 t.2.1 t.2.2.1 t.2.2.2
theorem n0{α:Sort _}{β:Sort _}{γ:Sort _}{δ:Sort _}{ζ:Sort _}{η:Sort _}{A1:α->β->γ->δ->ζ->η->Prop}{A2:α->β->γ->δ->ζ->η->Prop}{G:Prop}(h:∃x,∃a,∃b,∃c,∃d,∃e,A1 x a b c d e/\A2 x a b c d e)(k:∀x,∀a,∀b,∀c,∀d,∀e,A1 x a b c d e->A2 x a b c d e->G):G:=h.elim λx f=>f.elim λa g=>g.elim λb i=>i.elim λc j=>j.elim λd l=>l.elim λe t=>k x a b c d e t.1 t.2
theorem n4{α:Sort _}{β:Sort _}{γ:Sort _}{δ:Sort _}{ζ:Sort _}{η:Sort _}{θ:Sort _}{A1:α->β->γ->δ->ζ->η->θ->Prop}{G:Prop}(h:∃x,∃a,∃b,∃c,∃d,∃e,∃f,A1 x a b c d e f)(k:∀x,∀a,∀b,∀c,∀d,∀e,∀f,A1 x a b c d e f->G):G:=h.elim λx t=>t.elim λa g=>g.elim λb i=>i.elim λc j=>j.elim λd l=>l.elim λe m=>m.elim λf n=>k x a b c d e f n
@[elab_as_elim]theorem rr{α:Sort _}{a b:α}{P:α->Prop}(e:a=b)(h:P b):P a:=e▸h
@[elab_as_elim]theorem rl{α:Sort _}{a b:α}{P:α->Prop}(e:b=a)(h:P b):P a:=e▸h
@[elab_as_elim]theorem ri{a b:Prop}{P:Prop->Prop}(e:a↔b)(h:P b):P a:=propext e▸h
@[elab_as_elim]theorem ril{a b:Prop}{P:Prop->Prop}(e:b↔a)(h:P b):P a:=propext e▸h
theorem dW{A1:Prop}{A2:Prop}{A3:Prop}(h1:A1)(h2:A2)(h3:A3):A1/\A2/\A3:=⟨h1,h2,h3⟩
theorem rP{α:Sort _}{A1:Prop}{A2:α->Prop}(h:A1)(x:α)(a:A2 x):A1/\∃x,A2 x:=⟨h,x,a⟩
theorem bX{α:Sort _}{A1:α->Prop}{A2:α->Prop}(x:α)(h:A1 x)(a:A2 x):∃x,A1 x/\A2 x:=⟨x,h,a⟩
theorem Bk{α:Sort _}{β:Sort _}{A1:α->β->Prop}(x:α)(a:β)(h:A1 x a):∃x,∃a,A1 x a:=⟨x,a,h⟩
theorem mT{A1:Prop}{A2:Prop}{A3:Prop}{A4:Prop}(h:A1)(a:A2)(b:A3)(c:A4):A1/\A2/\A3/\A4:=⟨h,a,b,c⟩
theorem Bl{α:Sort _}{A1:Prop}{A2:α->Prop}{A3:α->Prop}(h:A1)(x:α)(a:A2 x)(b:A3 x):A1/\∃x,A2 x/\A3 x:=⟨h,x,a,b⟩
theorem tQ{α:Sort _}{β:Sort _}{A1:Prop}{A2:α->β->Prop}(h:A1)(x:α)(a:β)(b:A2 x a):A1/\∃x,∃a,A2 x a:=⟨h,x,a,b⟩
theorem fW{α:Sort _}{A1:α->Prop}{A2:α->Prop}{A3:α->Prop}(x:α)(h:A1 x)(a:A2 x)(b:A3 x):∃x,A1 x/\A2 x/\A3 x:=⟨x,h,a,b⟩
theorem lq{α:Sort _}{β:Sort _}{A1:α->β->Prop}{A2:α->β->Prop}(x:α)(a:β)(h:A1 x a)(b:A2 x a):∃x,∃a,A1 x a/\A2 x a:=⟨x,a,h,b⟩
theorem Bm{α:Sort _}{β:Sort _}{γ:Sort _}{A1:α->β->γ->Prop}(x:α)(a:β)(b:γ)(h:A1 x a b):∃x,∃a,∃b,A1 x a b:=⟨x,a,b,h⟩
theorem rR{A1:Prop}{A2:Prop}{A3:Prop}{A4:Prop}{A5:Prop}(h:A1)(a:A2)(b:A3)(c:A4)(d:A5):A1/\A2/\A3/\A4/\A5:=⟨h,a,b,c,d⟩
theorem Fp{α:Sort _}{A1:Prop}{A2:α->Prop}{A3:α->Prop}{A4:α->Prop}(h:A1)(x:α)(a:A2 x)(b:A3 x)(c:A4 x):A1/\∃x,A2 x/\A3 x/\A4 x:=⟨h,x,a,b,c⟩
theorem wO{α:Sort _}{β:Sort _}{γ:Sort _}{A1:Prop}{A2:α->β->γ->Prop}(h:A1)(x:α)(a:β)(b:γ)(c:A2 x a b):A1/\∃x,∃a,∃b,A2 x a b:=⟨h,x,a,b,c⟩
theorem lQ{α:Sort _}{A1:α->Prop}{A2:α->Prop}{A3:α->Prop}{A4:α->Prop}(x:α)(h:A1 x)(a:A2 x)(b:A3 x)(c:A4 x):∃x,A1 x/\A2 x/\A3 x/\A4 x:=⟨x,h,a,b,c⟩
theorem lR{α:Sort _}{β:Sort _}{A1:α->Prop}{A2:α->Prop}{A3:α->β->Prop}(x:α)(h:A1 x)(b:A2 x)(a:β)(c:A3 x a):∃x,A1 x/\A2 x/\∃a,A3 x a:=⟨x,h,b,a,c⟩
theorem J7{α:Sort _}{β:Sort _}{A1:α->Prop}{A2:α->β->Prop}{A3:α->β->Prop}(x:α)(h:A1 x)(a:β)(b:A2 x a)(c:A3 x a):∃x,A1 x/\∃a,A2 x a/\A3 x a:=⟨x,h,a,b,c⟩
theorem fe{α:Sort _}{β:Sort _}{A1:α->β->Prop}{A2:α->β->Prop}{A3:α->β->Prop}(x:α)(a:β)(h:A1 x a)(b:A2 x a)(c:A3 x a):∃x,∃a,A1 x a/\A2 x a/\A3 x a:=⟨x,a,h,b,c⟩
theorem kY{α:Sort _}{β:Sort _}{γ:Sort _}{A1:α->β->γ->Prop}{A2:α->β->γ->Prop}(x:α)(a:β)(b:γ)(h:A1 x a b)(c:A2 x a b):∃x,∃a,∃b,A1 x a b/\A2 x a b:=⟨x,a,b,h,c⟩
theorem J8{α:Sort _}{β:Sort _}{γ:Sort _}{δ:Sort _}{A1:α->β->γ->δ->Prop}(x:α)(a:β)(b:γ)(c:δ)(h:A1 x a b c):∃x,∃a,∃b,∃c,A1 x a b c:=⟨x,a,b,c,h⟩
theorem rf{α:Sort _}{A1:α->Prop}{A2:α->Prop}{A3:α->Prop}{A4:α->Prop}{A5:α->Prop}(x:α)(h:A1 x)(a:A2 x)(b:A3 x)(c:A4 x)(d:A5 x):∃x,A1 x/\A2 x/\A3 x/\A4 x/\A5 x:=⟨x,h,a,b,c,d⟩
theorem gk{α:Sort _}{β:Sort _}{A1:α->β->Prop}{A2:α->β->Prop}{A3:α->β->Prop}{A4:α->β->Prop}(x:α)(a:β)(h:A1 x a)(b:A2 x a)(c:A3 x a)(d:A4 x a):∃x,∃a,A1 x a/\A2 x a/\A3 x a/\A4 x a:=⟨x,a,h,b,c,d⟩
theorem jX{α:Sort _}{β:Sort _}{γ:Sort _}{A1:α->β->γ->Prop}{A2:α->β->γ->Prop}{A3:α->β->γ->Prop}(x:α)(a:β)(b:γ)(h:A1 x a b)(c:A2 x a b)(d:A3 x a b):∃x,∃a,∃b,A1 x a b/\A2 x a b/\A3 x a b:=⟨x,a,b,h,c,d⟩
theorem AF{α:Sort _}{β:Sort _}{γ:Sort _}{δ:Sort _}{ζ:Sort _}{A1:α->β->γ->δ->ζ->Prop}(x:α)(a:β)(b:γ)(c:δ)(d:ζ)(h:A1 x a b c d):∃x,∃a,∃b,∃c,∃d,A1 x a b c d:=⟨x,a,b,c,d,h⟩
theorem mF{α:Sort _}{β:Sort _}{γ:Sort _}{A1:α->β->γ->Prop}{A2:α->β->γ->Prop}{A3:α->β->γ->Prop}{A4:α->β->γ->Prop}(x:α)(a:β)(b:γ)(h:A1 x a b)(c:A2 x a b)(d:A3 x a b)(e:A4 x a b):∃x,∃a,∃b,A1 x a b/\A2 x a b/\A3 x a b/\A4 x a b:=⟨x,a,b,h,c,d,e⟩
theorem qo{α:Sort _}{β:Sort _}{γ:Sort _}{δ:Sort _}{A1:α->β->γ->δ->Prop}{A2:α->β->γ->δ->Prop}{A3:α->β->γ->δ->Prop}(x:α)(a:β)(b:γ)(c:δ)(h:A1 x a b c)(d:A2 x a b c)(e:A3 x a b c):∃x,∃a,∃b,∃c,A1 x a b c/\A2 x a b c/\A3 x a b c:=⟨x,a,b,c,h,d,e⟩
theorem uk{α:Sort _}{β:Sort _}{γ:Sort _}{δ:Sort _}{ζ:Sort _}{A1:α->β->γ->δ->ζ->Prop}{A2:α->β->γ->δ->ζ->Prop}(x:α)(a:β)(b:γ)(c:δ)(d:ζ)(h:A1 x a b c d)(e:A2 x a b c d):∃x,∃a,∃b,∃c,∃d,A1 x a b c d/\A2 x a b c d:=⟨x,a,b,c,d,h,e⟩
theorem vy{α:Sort _}{β:Sort _}{γ:Sort _}{δ:Sort _}{A1:Prop}{A2:α->β->γ->δ->Prop}{A3:α->β->γ->δ->Prop}{A4:α->β->γ->δ->Prop}(h:A1)(x:α)(a:β)(b:γ)(c:δ)(d:A2 x a b c)(e:A3 x a b c)(f:A4 x a b c):A1/\∃x,∃a,∃b,∃c,A2 x a b c/\A3 x a b c/\A4 x a b c:=⟨h,x,a,b,c,d,e,f⟩
theorem yP{α:Sort _}{β:Sort _}{γ:Sort _}{δ:Sort _}{A1:α->Prop}{A2:α->β->γ->δ->Prop}{A3:α->β->γ->δ->Prop}{A4:α->β->γ->δ->Prop}(x:α)(h:A1 x)(a:β)(b:γ)(c:δ)(d:A2 x a b c)(e:A3 x a b c)(f:A4 x a b c):∃x,A1 x/\∃a,∃b,∃c,A2 x a b c/\A3 x a b c/\A4 x a b c:=⟨x,h,a,b,c,d,e,f⟩
theorem vz{α:Sort _}{β:Sort _}{A1:α->β->Prop}{A2:α->β->Prop}{A3:α->β->Prop}{A4:α->β->Prop}{A5:α->β->Prop}{A6:α->β->Prop}(x:α)(a:β)(h:A1 x a)(b:A2 x a)(c:A3 x a)(d:A4 x a)(e:A5 x a)(f:A6 x a):∃x,∃a,A1 x a/\A2 x a/\A3 x a/\A4 x a/\A5 x a/\A6 x a:=⟨x,a,h,b,c,d,e,f⟩
theorem ja{α:Sort _}{β:Sort _}{γ:Sort _}{A1:α->β->γ->Prop}{A2:α->β->γ->Prop}{A3:α->β->γ->Prop}{A4:α->β->γ->Prop}{A5:α->β->γ->Prop}(x:α)(a:β)(b:γ)(h:A1 x a b)(c:A2 x a b)(d:A3 x a b)(e:A4 x a b)(f:A5 x a b):∃x,∃a,∃b,A1 x a b/\A2 x a b/\A3 x a b/\A4 x a b/\A5 x a b:=⟨x,a,b,h,c,d,e,f⟩
theorem vA{α:Sort _}{β:Sort _}{γ:Sort _}{δ:Sort _}{ζ:Sort _}{A1:α->β->γ->δ->ζ->Prop}{A2:α->β->γ->δ->ζ->Prop}{A3:α->β->γ->δ->ζ->Prop}(x:α)(a:β)(b:γ)(c:δ)(d:ζ)(h:A1 x a b c d)(e:A2 x a b c d)(f:A3 x a b c d):∃x,∃a,∃b,∃c,∃d,A1 x a b c d/\A2 x a b c d/\A3 x a b c d:=⟨x,a,b,c,d,h,e,f⟩
theorem sq{α:Sort _}{β:Sort _}{γ:Sort _}{δ:Sort _}{ζ:Sort _}{η:Sort _}{A1:α->β->γ->δ->ζ->η->Prop}{A2:α->β->γ->δ->ζ->η->Prop}(x:α)(a:β)(b:γ)(c:δ)(d:ζ)(e:η)(h:A1 x a b c d e)(f:A2 x a b c d e):∃x,∃a,∃b,∃c,∃d,∃e,A1 x a b c d e/\A2 x a b c d e:=⟨x,a,b,c,d,e,h,f⟩
theorem sr{α:Sort _}{β:Sort _}{γ:Sort _}{δ:Sort _}{ζ:Sort _}{η:Sort _}{θ:Sort _}{A1:α->β->γ->δ->ζ->η->θ->Prop}(x:α)(a:β)(b:γ)(c:δ)(d:ζ)(e:η)(f:θ)(h:A1 x a b c d e f):∃x,∃a,∃b,∃c,∃d,∃e,∃f,A1 x a b c d e f:=⟨x,a,b,c,d,e,f,h⟩
theorem nq{α:Sort _}(f:α->Nat){a b:α}{G:Prop}(h:a=b)(t:ac3 (f a) (f b)=bk):G:=by subst h;rw [Nat.beq_refl]at t;cases t
theorem ff:bk=bk:=rfl
theorem Z'{A1:Prop}{A2:Prop}{A3:Prop}{A4:Prop}{A5:Prop}{G:Prop}(h:A1/\A2/\A3/\A4/\A5)(k:A1->A2->A3->A4->A5->G):G:=k h.1 h.2.1 h.2.2.1 h.2.2.2.1 h.2.2.2.2
theorem fc{α:Type}{P:α->Prop}{a:α}{l:List α}(h:P a)(t:∀y∈l,P y):∀y∈a::l,P y:=λy b=>by
 cases b with
 |head=>exact h
 |tail _ b=>exact t y b
theorem f0{α:Type}{P:α->Prop}:∀y∈([]:List α),P y:=nofun
theorem k15{P:Nat->Prop}(h:∀k∈[1,2,3,4,5,6,7,8,9,10,11,12,13,14,15],P k){k:Nat}(a:1<=k)(b:k<=15):P k:=h k<|show k∈List.range' 1 15 from List.mem_range'_1.mpr ⟨a,jx b⟩
theorem mm{α:Type _}{β:Type _}{f:α->β}{b:β}{l:List α}{P:Prop}(h:b∈l.map f)(k:∀a,a∈l->f a=b->P):P:=(List.mem_map.mp h).elim λa h=>k a h.1 h.2
@[elab_as_elim]theorem vB{α:Type _}{β:Type _}{f:α->β}{b:β}{l:List α}{P:β->Prop}(h:b∈l.map f)(k:∀a,a∈l->P (f a)):P b:=mm h λa h e=>e▸k a h
theorem om{α:Type _}{β:Type _}{f:α->β}{b:β}{o:Option α}{P:Prop}(h:o.map f=O b)(k:∀a,o=O a->f a=b->P):P:=(Option.map_eq_some_iff.mp h).elim λa h=>k a h.1 h.2
@[elab_as_elim]theorem Fs{α:Type _}{β:Type _}{f:α->β}{b:β}{o:Option α}{P:β->Prop}(h:o.map f=O b)(k:∀a,o=O a->P (f a)):P b:=om h λa h e=>e▸k a h
theorem gm{α:Type _}{β:Type _}{f:α->β}{b:β}{l:List α}{i:Nat}{P:Prop}(h:(l.map f)[i]?=O b)(k:∀a,l[i]?=O a->f a=b->P):P:=om (List.getElem?_map.symm.trans h) k
@[elab_as_elim]theorem zn{a:Int}{P:Int->Prop}(h:0<=a)(k:∀n:Nat,P n):P a:=(kX h).elim λn e=>e▸k n
theorem zp{a:Int}{P:Prop}(h:0<=a)(k:∀n:Nat,a=n->P):P:=(kX h).elim k
theorem gs{α:Type _}{l:List α}{i:Nat}{a:α}{P:Prop}(h:l[i]?=O a)(k:∀t:i<l.length,l[i]=a->P):P:=(List.getElem?_eq_some_iff.mp h).elim k
theorem gi{α:Type _}{l:List α}{a:α}{P:Prop}(h:a∈l)(k:∀i:Nat,l[i]?=O a->P):P:=(List.mem_iff_getElem?.mp h).elim k
theorem ba{a b:Bool}{P:Prop}(h:(a&&b)=D)(k:a=D->b=D->P):P:=k (Bool.and_eq_true_iff.mp h).1 (Bool.and_eq_true_iff.mp h).2
theorem an{a b:Bool}(h:(a&&b)=D):a=D/\b=D:=Bool.and_eq_true_iff.mp h
theorem nL{a b:Bool}(h:(a&&b)=D):a=D:=(an h).1
theorem nR{a b:Bool}(h:(a&&b)=D):b=D:=(an h).2
theorem nA{a b:Bool}(h:a=D)(k:b=D):(a&&b)=D:=Bool.and_eq_true_iff.mpr ⟨h,k⟩
theorem la{α:Type _}{l:List α}{p:α->Bool}(h:l.all p=D):∀x∈l,p x=D:=List.all_eq_true.mp h
theorem al{α:Type _}{l:List α}{p:α->Bool}(h:∀x∈l,p x=D):l.all p=D:=List.all_eq_true.mpr h
theorem mc{α:Type _}{x a:α}{l:List α}(h:x∈a::l):x=a\/x∈l:=List.mem_cons.mp h
theorem ms{α:Type _}{x a:α}(h:x∈[a]):x=a:=List.mem_singleton.mp h
theorem gl{α:Type _}{l:List α}{i:Nat}{a:α}(h:l[i]?=O a):i<l.length:=(List.getElem?_eq_some_iff.mp h).1
theorem ma{α:Type _}{x:α}{l k:List α}(h:x∈l++k):x∈l\/x∈k:=List.mem_append.mp h
theorem am{α:Type _}{x:α}{l k:List α}(h:x∈l\/x∈k):x∈l++k:=List.mem_append.mpr h
theorem J9{m n:Nat}(h:m<n):m∈dk n:=List.mem_range.mpr h
theorem mr_{m n:Nat}(h:m∈dk n):m<n:=List.mem_range.mp h
theorem il{a b:Nat}(h:a<=b):(a:Int)<=b:=Int.ofNat_le.mpr h
theorem li{a b:Nat}(h:(a:Int)<=b):a<=b:=Int.ofNat_le.mp h
theorem it{a b:Nat}(h:a<b):(a:Int)<b:=Int.ofNat_lt.mpr h
theorem zI{a b:Nat}(h:(a:Int)<b):a<b:=Int.ofNat_lt.mp h
theorem ij{a b:Nat}(h:(a:Int)=b):a=b:=Int.ofNat_inj.mp h
theorem Ka{a b:Int}(h:¬a<b):b<=a:=Int.not_lt.mp h
theorem NY{a b:Int}(h:b<=a):¬a<b:=Int.not_lt.mpr h
theorem nle{a b:Int}(h:¬a<=b):b<a:=Int.not_le.mp h
theorem wj{a b:Int}(h:b<a):¬a<=b:=Int.not_le.mpr h
theorem oB{a b:Bool}(h:a=D\/b=D):(a||b)=D:=Bool.or_eq_true_iff.mpr h
theorem be{α:Type _} [BEq α] [LawfulBEq α]{a b:α}(h:a=b):(a==b)=D:=beq_iff_eq.mpr h
theorem gi_{α:Type _}{l:List α}{i:Nat}{a:α}(h:l[i]?=O a):a∈l:=List.mem_iff_getElem?.mpr ⟨i,h⟩
theorem dc{p:Prop} [Decidable p](h:decide p=D:=by exact Eq.refl D):p:=aI h
set_option backward.match.sparseCases false
variable{α:Type} {β:Type} {A:kr} {E:bb->bG->Prop} {s:bG} {s':bG} {f:α->Sem β}
theorem db{M:yF}{m:Sem α}{Q:β->bG->Prop}{v:α}(d:∀(P:α->bG->Prop) E,P v s'->ee M A m P E s)(h:ee M A (f v) Q E s'):ee M A (m>>=f) Q E s:=wpAny_bind<|d _ _ h
theorem pb{M:yF}{v:α}{Q:β->bG->Prop}(h:ee M A (f v) Q E s):ee M A (jg v>>=f) Q E s:=wpAny_bind<|bZ h
theorem lb{M:yF}{m:Sem α}{Q:β->bG->Prop}{v:α}(d:vX M s.heap m v)(h:ee M A (f v) Q E s):ee M A (m>>=f) Q E s:=wpAny_bind<|d.here h
theorem iz{G:Prop}(h:∀P:Prop,(G->P)->P):G:=h G id
theorem n5{f:α->Option β}{a b:α}{u v:Option β}(e:f b=u)(n:f a=v)(h:u≠v):b≠a:=λz=>h<|e.symm.trans<|(aH f z).trans n
abbrev PR:zD:=vY
variable{h:j9} {L:List bb} {h':j9} {ks:ae} {a:a8} {rest:List bb} {v:bb} {m:Nat} {items:Array bb} {n:Nat}
section
variable{w:fZ}
abbrev ik(w:fZ):KeyKind PR w Int:=intKind PR w
inductive rg(w:fZ)(h:j9):ae->List bb->Prop
 |jr:rg w h [] []
 |gu {k:ar} {a:a8} {ks:ae} {L:List bb}:s9 (ik w) h k a->rg w h ks L->rg w h (k::ks) (.ref a::L)
def tY(w:fZ)(h:j9)(ks:ae)(a:a8):Prop:=∃o items n,h.get? a=O o/\o.cls=.type "tuple"/\o.data=.seq items n/\rg w h ks items.toList
theorem rg.inj{x y:ae}(b:rg w h x L)(a:rg w h y L):x=y:=by
 induction b generalizing y with
 |jr=>cases a;rfl
 |gu c _ i=>cases a with|gu d t=>exact rr (c.inj d)<|rr (i t) Z
theorem rg.cp{x:ae}(b:rg w h x L)(k:∀x a,s9 (ik w) h x a->s9 (ik w) h' x a):rg w h' x L:=by
 induction b with
 |jr=>exact .jr
 |gu c _ i=>exact .gu (k _ _ c) i
theorem tY.oK(x:tY w s.heap ks a):s.TypeIs (.ref a) "tuple":=iT x λo U U h b U=>bX o h b
theorem tY.inj{x y:ae}(c:tY w h x a)(d:tY w h y a):x=y:=by
 refine g7 c λo k n e z hd f=>g7 d λg l m i z b j=>?_;obtain rfl:o=g:=aJ<|e.symm.trans i;replace b:=hd▸b;injection b with h1 _
 subst h1;exact f.inj j
theorem tY.Wg{d:a8}{o:Obj}{es ep}(x:tY w h ks a)(c:h.get? d=O o)(hd:o.data=.dict es ep)(e:f7 d h h'):tY w h' ks a:=by
 refine g7 x λf i n g j b k=>?_;have l:a≠d:=by
  rintro rfl;obtain rfl:f=o:=aJ<|g.symm.trans c;rw [hd]at b;exact nq gz b ff
 exact mF f i n ((e.2 a l).trans g) j b<|k.cp λU U q=>q.keeps c hd e
noncomputable def Kb(w:fZ)(ks:ae):Int:=reduceHash<|lE<|ks.map<|pd<|ik w
noncomputable def Ft(ks:ae):Nat:=(ks.map λk=>k.length+1).sum+1
inductive HsI(w:fZ)(s:bG)(ks:ae)(rest:List bb)(b:Array Int)(s':bG):Prop
 |mk (left:ae) (n:Nat) (hl:rg w s.heap left rest) (hb:b.toList++left.map (pd<|ik w)=ks.map (pd<|ik w)) (hn:n+(left.map λk=>k.length+1).sum=s.toks+(ks.map λk=>k.length+1).sum) (hs:s'={s with toks:=n})
set_option tactic.hygienic true in
theorem HsI.gV{x:bb}{b:Array Int}(h:HsI w s ks (x::rest) b s'):∃k a n,x=.ref a/\s9 (ik w) s.heap k a/\s'={s with toks:=n}/\HsI w s ks rest (b.push<|pd (ik w) k) {s with toks:=n+(k.length+1)}:=by
 induction h;rename_i left n c d e f
 cases c with
 |gu g c=>exact mF _ _ n Z g f ⟨_,_,c,(by refine rr (Array.toList_push)<|bL (bF _ _ _) ?_;exact d),(ku ..).trans e,Z⟩
theorem HsI.fin{b:Array Int}(h:HsI w s ks [] b s'):b.toList=ks.map (pd<|ik w)/\s'={s with toks:=s.toks+(ks.map λk=>k.length+1).sum}:=by
 obtain⟨left,n,a,c,d,e⟩:=h;cases a
 exact⟨(dS _).symm.trans c,d▸e⟩
theorem Wh{Q:Int->bG->Prop}(e:A.units+1<Dh)(c:tY w s.heap ks a)(h:Q (Kb w ks) {s with toks:=s.toks+Ft ks}):
 ee (gy PR w) A (pyHash<|.ref a) Q E s:=by
 refine g7 c λo p n f U hd g=>?_;unfold pyHash pyHashByItsType;refine wpAny_bind<|wpAny_cRoomFor_or (.inr<|Aa e) ?_;refine wpAny_bind<|Hr c.oK F.slot_tuple_hash.lookup ?_;refine oy (by rfl)<|wpAny_bind<|Hr c.oK F.slot_tuple_hash.lookup ?_;refine wpAny_bind<|wpAny_callSpecialIfBoundUnlessNone?_slot c.oK Yy<|lA Yy c.oK F.entry_tuple_hash ?_<|F.args_tuple_hash_1 _;show ee _ _ (Builtin.Tuple.tupleItemsOf (.ref a)>>=_) _ _ s;refine db (λU U k=>A0 f hd k)<|wpAny_bind<|rl (NI)<|E7 _ (HsI w s ks) _ (λx r b s' q=>?_) (λb s' q=>?_) _ _ ⟨ks,_,g,Z,Z,Z⟩
 .refine g7 (q.gV) λk a n z i j l=>?_;obtain rfl:=z;obtain rfl:=j;exact db (λU U k=>wpAny_pyHash_tuple (knd:=ik w) e i k)<|bZ l
 .refine fw (q.fin) λm z=>rr z ?_;show ee _ _ (retInt<|lE b.toList) _ _ _;refine rr m<|wpAny_ret_mkInt ?_;unfold Kb reduceHash Ft at h;by_cases d:(decide (-(2:Int)^63<=lE (ks.map<|pd<|ik w))&&decide (lE (ks.map<|pd<|ik w)<2^63))=D
  .refine vZ (aN d) ?_;rw [bI d]at h;exact bZ h
  .refine oy (bj d) ?_;rw [bu d]at h;exact wpAny_bind<|A7<|bZ h
inductive EqI(w:fZ)(h:j9)(d n:Bool):List (bb×bb)->Prop
 |mk (x' y':ae) (xs' ys':List bb) (hx:rg w h x' xs') (hy:rg w h y' ys') (hd:decide (x'=y')=d) (hl:(xs'.length==ys'.length)=n):EqI w h d n (LU xs' ys')
set_option tactic.hygienic true in
theorem EqI.gV{d n:Bool}{u:bb}{rest l:List (bb×bb)}(q:EqI w h d n l)(e:l=(u,v)::rest):∃k a c b,u=.ref a/\v=.ref b/\s9 (ik w) h k a/\s9 (ik w) h c b/\(k≠c->d=bk)/\(k=c->EqI w h d n rest):=by
 induction q;rename_i x y B p f g hd i
 cases f with
 |jr=>exact nq ek e ff
 |gu j f=>
  cases g with
  |jr=>exact nq ek e ff
  |gu m g=>
   obtain⟨o,rfl⟩:=gg e;obtain⟨rfl,rfl⟩:=qZ o;exact(qo _ _ _ _ Z Z (JB j ⟨m,λn=>hd▸bj λz=>n (gg z).1,λz=>⟨_,_,_,_,f,g,hd▸decide_eq_decide.mpr ⟨λe=>by exact rr z<|rr e Z,λe=>(gg e).2⟩,i▸(by refine ?_;exact decide_eq_decide.mpr ⟨λe=>aH (·+1) e,eQ⟩)⟩⟩))
theorem EqI.fin{d n:Bool}{l:List (bb×bb)}(q:EqI w h d n l)(e:l=[]):n=d:=by
 obtain⟨x,y,B,c,b,a,rfl,rfl⟩:=q;induction b with
 |jr=>
  induction a with
  |jr=>rfl
  |gu _ _=>rfl
 |gu _ _=>
  induction a with
  |jr=>rfl
  |gu _ _=>exact nq ek e ff
theorem Ke{x y:ae}{b:a8}{P:afO->bG->Prop}(l:A.units<Dh)(m:tY w s.heap x a)(d:tY w s.heap y b)(h:P (.done<|.ret<|.bool<|decide (x=y)) s):
 ee (gy PR w) A (qO.«tuple.__eq__» ⟨[.ref a,.ref b],[]⟩) P E s:=by
 refine g7 m λρ B K n U o t=>g7 d λvs f nb xs U C aO=>?_;show ee _ _ (isInstance (.ref b) (.type "tuple")>>=_) _ _ s;refine db (λU U k=>wb d.oK VA k)<|oy rfl<|db (λU U k=>A0 n o k)<|db (λU U k=>A0 xs C k)<|wpAny_bind<|E7 _ (λg r s'=>r.1=X/\s'=s/\EqI w s.heap (decide (x=y)) (B.size==f.size) g) _ (λp g r s' q=>?_) (λr s' q=>?_) _ _<|dW Z Z ⟨x,y,B.toList,f.toList,t,aO,Z,Z⟩
 .obtain⟨u,v⟩:=p;refine m7 q λM z q=>?_;induction z;refine vx (q.gV Z) λi a j b z F G H=>?_;obtain rfl:=z;obtain rfl:=F;refine m7 H λI no yes=>db (λU U k=>wpAny_eqBool_tuple (knd:=ik w) (x:=i) (y:=j) l G I k) ?_;by_cases c:i=j
  .exact oy (rr (aN c) Z)<|bZ<|dW Z Z<|yes c
  .exact vZ (rr (bj c) Z)<|pb<|bZ<|bZ<|(no c)▸h
 .obtain⟨r1,aZ⟩:=r;obtain⟨e,rfl,q⟩:=q;obtain rfl:r1=X:=e;refine bZ<|have h:=(q.fin Z)▸h;?_;exact h
theorem adi{x y:ae}{b:a8}{Q:Bool->bG->Prop}(g:A.units+1<Dh)(c:tY w s.heap x a)(d:tY w s.heap y b)(h:Q (decide (x=y)) s):
 ee (gy PR w) A (eqBool (.ref a)<|.ref b) Q E s:=by
 refine eY ?_;show ee _ _ (if(gL a==gL b)=D then _ else _) Q E s;by_cases f:(gL a==gL b)=D
 .refine rr (bI f) ?_;have e:a=b:=by have:=cR f;injection this
  subst e;obtain rfl:=c.inj d;exact wpAny_bind (A7<|bZ<|by simpa using h)
 .exact rr (bu f)<|wpAny_bind (wpAny_richCompare_same_room (op:=.Eq) c.oK d.oK acK
   (lA acK c.oK F.entry_tuple_eq (Ke (show A.units+1<Dh from g) c d<|fW _ Z (λe=>nq f9 e ff)<|Di h)<|F.args_tuple_eq_2 _ _) (dH ‹_›))
theorem D9{T:ar->a8->Prop}{o:Obj}{Q:Bool->bG->Prop}(b:s.heap.get? a=O o)(i:o.cls=.type "tuple")(hd:o.data=.seq items n)(e:∀v∈items.toList,∀Q:Bool->bG->Prop,Q D s->ee (gy PR w) A (Qa m v) Q E s) (h:Q D s):ee (gy PR w) A (Qa (m+1)<|.ref a) Q E s:=by
 have c:s.TypeIs (.ref a) "tuple":=bX o b i;unfold Qa;refine db (λU U k=>Hr c F.slot_tuple_eq.lookup k)<|db (λU U k=>wb c VA k)<|db (λU U k=>yG b hd k)<|wpAny_bind<|rl (NI)<|E7 _ (λf r s'=>r.1=X/\s'=s/\∀v∈f,v∈items.toList) _ ?_ ?_ _ _<|dW Z Z λv j=>j
 .clear c b;intro v f r s' z;(refine m7 z λd l g=>?_;refine rr l ?_);refine wpAny_bind<|e v (g v bS) _ ?_;exact bZ<|dW Z Z λu p=>g u<|di _ p
 .clear c e b;intro z;obtain⟨r1,t⟩:=z;intro s' q;obtain⟨d,rfl,_⟩:=q;simp only at d;exact rr d<|bZ h
theorem QK{Q:Bool->bG->Prop}(f:tY w s.heap ks a)(h:Q D s):ee (gy PR w) A (Qa 8<|.ref a) Q E s:=by
 obtain⟨o,i,n,g,j,hd,e⟩:=f;refine D9 (T:=λU U=>True) (m:=7) g j hd (λv c Q d=>?_) h;have:∃k b,v=.ref b/\s9 (ik w) s.heap k b:=by
  generalize i.toList=l at e c;induction e with
  |jr=>simp at c
  |gu p _ q=>
   rcases mc c with rfl|c
   .exact lq _ _ Z p
   .exact q c
 refine j6 this λk b z t=>jz t λC it aO r u=>rr z<|m7 u λx y xs=>D9 (T:=λU U=>True) (m:=6) r x y (λv c Q d=>?_) d;exact rr (eqIsQuiet_byValue _<|xs.byValue v c)<|bZ d
end
def Kf(w:fZ):HeapKind PR w (List<|ar) where
 is:=tY w
 hash:=Kb w
 draws:=Ft
 room:=λA=>A.units+1<Dh
 inj:=λhx hy=>hx.inj hy
 keeps:=λx ho hd hs=>x.Wg ho hd hs
 pyHash:=λhu hk h=>Wh hu hk h
 eqBool:=λhu hx hy h=>adi hu hx hy h
 quiet:=λhk h=>QK hk h
theorem no{x:α}{P:Prop}(h:X=O x):P:=nq aP h ff
theorem ns{o:Option α}{x:α}{P:Prop}(h:o=X)(h':o=O x):P:=no<|h.symm.trans h'
theorem ss{o:Option α}{x y:α}(h:o=O x)(h':o=O y):x=y:=aJ<|h.symm.trans h'
inductive V where
 |bR|du (b:Bool)|aL (i:Int)|aQ (l:aq)|S (a:a8)|bD (B:List V)|fK (n:String)|eH (n:String)|wk (a b:Int)|ph (a:a8)
abbrev aw:=List V
abbrev au:=Option V
abbrev ah:=List aw
abbrev tx(l:aq):Str:=⟨l.toArray⟩
@[simp]theorem vC(l:aq):(tx l).length=l.length:=rfl
@[simp]theorem yQ(a b:aq):tx a++tx b=tx (a++b):=by show afY _ _=_;simp [afY]
theorem QL{a b:aq}:tx a=tx b↔a=b:=by simp
theorem Wi(s:Str):s=tx s.cps.toList:=by induction s;rfl
@[simp]theorem aaa(a b:aq):(tx a==tx b)=(a==b):=by
 by_cases h:a=b
 .refine rr h ?_;simp
 .have:tx a≠tx b:=λe=>h<|QL.mp e;exact bL (beq_eq_false_iff_ne.mpr this)<|rr (beq_eq_false_iff_ne.mpr h) Z
def Fu(o:Obj):Prop:=(o.cls=.type "tuple"/\∃B n,o.data=.seq B n)\/(o.cls=.type "range"/\∃L,o.data=.fields L)
def IK(h h':j9):Prop:=∀a o,h.get? a=O o->Fu o->h'.get? a=O o
theorem IK.cL(h:j9):IK h h:=λU U e U=>e
variable{h'':j9}
theorem IK.aU(x:IK h h')(y:IK h' h''):IK h h'':=λa o e i=>y a o (x a o e i) i
mutual
noncomputable def cY(h:j9):V->bb->Prop
 |.bR,v=>v=.none
 |.du b,v=>v=.bool b
 |.aL i,v=>∃t,v=.int i t
 |.aQ l,v=>(∃t,v=.str (tx l) t)/\l.length<=cE
 |.S a,v=>v=.ref a
 |.bD B,v=>∃a L,v=.ref a/\Aw h a L.toArray/\eX h B L/\L.length<=cE
 |.fK n,v=>v=.type n
 |.eH n,v=>v=.builtin n/\yH (.builtin n)=D
 |.wk a b,v=>∃r t u w,v=.ref r/\acL h r a b 1 t u w/\0<=a/\a<=cE/\-(cE:Int)<=b/\b<=cE
 |.ph a,v=>v=.ref a
noncomputable def eX(h:j9):aw->List bb->Prop
 |[],L=>L=[]
 |x::B,L=>∃v r,L=v::r/\cY h x v/\eX h B r
end
theorem IK.bD(k:IK h h'){L:Array bb}(x:Aw h a L):Aw h' a L:=rO x λo e c n d=>lR o (k a o e<|.inl<|tQ c _ _ d) c n d
theorem IK.wk(k:IK h h'){r:a8}{a b c:Int}{t u v:Tok}(x:acL h r a b c t u v):acL h' r a b c t u v:=k _ _ x (.inr<|rP Z _ Z)
mutual
theorem cY.cp(k:IK h h'):∀{x:V} {v:bb},cY h x v->cY h' x v
 |.bR,_,r=>r
 |.du _,_,r=>r
 |.aL _,_,r=>r
 |.aQ _,_,r=>r
 |.S _,_,r=>r
 |.fK _,_,r=>r
 |.eH _,_,r=>r
 |.bD B,_,r=>by
  exact e9 r λa L e t q z=>gk a L e (k.bD t) (eX.cp k q) z
 |.wk a b,_,r=>by
  exact kh r λq t u w e x z=>qo q t u w e (k.wk x) z
 |.ph a,_,r=>r
theorem eX.cp(k:IK h h'):∀{B:aw} {L:List bb},eX h B L->eX h' B L
 |[],_,r=>r
 |x::B,_,r=>by
  exact fE r λv q e a b=>fe v q e (cY.cp k a)<|eX.cp k b
end
theorem qp(r:cY h .bR v):v=.none:=r
variable{b:Bool}
theorem su(r:cY h (.du b) v):v=.bool b:=r
theorem rh{i:Int}(r:cY h (.aL i) v):∃t,v=.int i t:=r
theorem AG{l:aq}(r:cY h (.aQ l) v):∃t,v=.str (tx l) t:=r.1
theorem th{l:aq}(r:cY h (.aQ l) v):l.length<=cE:=r.2
theorem Bo(r:cY h (.ph a) v):v=.ref a:=r
theorem Wj:cY h (.ph a) (.ref a):=rfl
theorem fG(r:cY h (.S a) v):v=.ref a:=r
theorem vD{n:String}(r:cY h (.fK n) v):v=.type n:=r
theorem Wk{n:String}(r:cY h (.eH n) v):v=.builtin n:=r.1
variable{B:aw}
theorem xB(r:cY h (.bD B) v):∃a L,v=.ref a/\Aw h a L.toArray/\eX h B L/\L.length<=cE:=r
theorem Wl{a b:Int}(r:cY h (.wk a b) v):∃q t u w,v=.ref q/\acL h q a b 1 t u w/\0<=a/\a<=cE/\-(cE:Int)<=b/\b<=cE:=r
@[elab_as_elim]theorem Ah{i:Int}{P:bb->Prop}(r:cY h (.aL i) v)(k:∀t,P<|.int i t):P v:=r.elim λt e=>e▸k t
@[elab_as_elim]theorem D'{h:j9}{l:aq}{v:bb}{P:bb->Prop}(r:cY h (.aQ l) v)(k:∀t,P<|.str (tx l) t):P v:=(AG r).elim λt e=>e▸k t
@[elab_as_elim]theorem Wm{h:j9}{B:aw}{v:bb}{P:bb->Prop}(r:cY h (.bD B) v)(k:∀a L,Aw h a L.toArray->eX h B L->L.length<=cE->P (.ref a)):P v:=e9 (xB r) λa L e t q z=>e▸k a L t q z
@[elab_as_elim]theorem rnn{h:j9}{v:bb}{P:bb->Prop}(r:cY h .bR v)(k:P .none):P v:=rr (show v=.none from r) k
theorem gW{h:j9}{i:Int}{t:Tok}:cY h (.aL i) (.int i t):=⟨t,Z⟩
theorem qq{l:aq}{t:Tok}(z:l.length<=cE):cY h (.aQ l) (.str (tx l) t):=⟨⟨t,Z⟩,z⟩
theorem L1{x:Str}{t:Tok}(z:x.length<=cE):cY h (.aQ x.cps.toList) (.str x t):=⟨⟨t,Z⟩,z⟩
theorem jk:cY h (.S a) (.ref a):=rfl
theorem tl:cY h (.du b) (.bool b):=rfl
theorem oD:cY h .bR .none:=rfl
theorem QM{n:String}:cY h (.fK n) (.type n):=rfl
theorem QN{n:String}(z:yH (.builtin n)=D):cY h (.eH n) (.builtin n):=⟨Z,z⟩
theorem Bp{x:V}(r:cY h x v):yH v=D:=by
 cases x with
 |aL i=>exact Ah r λU=>rfl
 |aQ l=>exact D' r λU=>rfl
 |bD B=>exact Wm r λU U U U U=>rfl
 |eH n=>exact rr r.1 r.2
 |wk a b=>exact AD r λq t u w e U=>rr e Z
 |_=>exact rr (show v=_ from r) Z
theorem Bq(t:Aw h a L.toArray)(q:eX h B L)(z:L.length<=cE):cY h (.bD B) (.ref a):=gk a L Z t q z
theorem fP(r:eX h [] L):L=[]:=r
theorem kb{x:V}(r:eX h (x::B) L):∃v r,L=v::r/\cY h x v/\eX h B r:=r
theorem rlc{x:V}{P:Prop}(r:eX h (x::B) L)(k:∀v q,L=v::q->cY h x v->eX h B q->P):P:=fE r k
@[elab_as_elim]theorem n6{x:V}{P:List bb->Prop}(r:eX h (x::B) L)(k:∀v q,cY h x v->eX h B q->P (v::q)):P L:=fE r λv q e a b=>e▸k v q a b
@[elab_as_elim]theorem rln{h:j9}{L:List bb}{P:List bb->Prop}(r:eX h [] L)(k:P []):P L:=rr (show L=[]from r) k
theorem iA{h:j9}:eX h [] []:=rfl
theorem fQ{x:V}(a:cY h x v)(b:eX h B L):eX h (x::B) (v::L):=fe v L Z a b
theorem eX.ez:∀{B:aw} {L:List bb},eX h B L->L.length=B.length:=by
 intro l;induction l with
 |nil=>
  intro U r;exact rr (fP r) Z
 |cons x B i=>
  intro U r;refine n6 r λv q U b=>?_;simp [i b]
theorem eX.at:∀{B:aw} {L:List bb} {n:Nat} {x:V},eX h B L->B[n]?=O x->∃v,L[n]?=O v/\cY h x v:=by
 intro l;induction l with
 |nil=>
  intro U U U U e;simp at e
 |cons y c i=>
  exact @λ
  |_,0,x,r,e=>by
   refine n6 r λv q a U=>?_;simp at e;subst e;exact bX v Z a
  |_,n+1,x,r,e=>by
   refine n6 r λv q U b=>?_;simpa using i b (e)
theorem eX.oL:∀{B ys:aw} {L us:List bb},eX h B L->eX h ys us->eX h (B++ys) (L++us):=by
 intro l;induction l with
 |nil=>
  intro U U U r q;exact rr (fP r) q
 |cons x B i=>
  intro U U U r q;exact n6 r λv w a b=>fQ a<|i b q
theorem eX.take:∀{B:aw} {L:List bb} (n:Nat),eX h B L->eX h (B.take n) (L.take n):=by
 intro l;induction l with
 |nil=>
  intro U n r;refine rln r ?_;induction n<;>rfl
 |cons x B i=>
  exact @λ
  |_,0,r=>rfl
  |_,n+1,r=>by
   exact n6 r λv w a b=>fQ a<|i n b
theorem eX.QO:∀{B:aw} {L:List bb} (n:Nat),eX h B L->eX h (B.drop n) (L.drop n):=by
 intro l;induction l with
 |nil=>
  intro U n r;refine rln r ?_;induction n<;>rfl
 |cons x B i=>
  exact @λ
  |_,0,r=>r
  |_,n+1,r=>by
   exact n6 r λv w a b=>i n b
theorem eX.aX{x:V}(a:cY h x v):∀{B:aw} {L:List bb} (n:Nat),eX h B L->eX h (B.set n x) (L.set n v):=by
 intro l;induction l with
 |nil=>
  intro U n r;exact rr (fP r) Z
 |cons y B i=>
  exact @λ
  |_,0,r=>by
   exact n6 r λu w c b=>fQ a b
  |_,n+1,r=>by
   exact n6 r λu w c b=>fQ c<|i n b
theorem eX.Wn:∀{B ys:aw} {L:List bb},eX h (B++ys) L->∃us a,L=us++a/\eX h B us/\eX h ys a:=by
 intro l;induction l with
 |nil=>
  intro U L r;exact fe [] L Z iA r
 |cons x B i=>
  intro U U r;exact n6 r λu w c b=>fE (i b) λus a z p q=>rr z<|fe (u::us) a Z (fQ c p) q
theorem eX.jO{x:V}(r:eX h B L)(a:cY h x v):eX h (B++[x]) (L++[v]):=r.oL<|fQ a iA
noncomputable def nmS:List String:=["offset","line","column","what","at","text","join","names","terminal_count","lefts","lengths","befores","defaults","numbers","table","check","bases","owners","actions","gotos","goto_bases","goto_table","goto_check","goto_owners","goto_defaults","goto_masks","lines","cursor","add","flaw","texts","one","unpacked","head","items","finish","need_same","append","split","__init__","told","is_done","peek","take_while","take","get","explicit","first_fit","grow","put","flaw_of_rows","pop","extend","need","end_line","skip","whole","fail","starts","coded","fits","flaw_of_cells","cell_count","position","quoted","bracket","item","position_at","escape","default","is_free","take_line","skip_blanks","name","number","terminal","left","length","before","state_count","goto","action","expected","is_consistent","gaps","cells"]
def NM:List Str:=nmS.map qT
def nm(i:Nat):Str:=NM.getD i Str.empty
theorem QP:NM.Nodup:=by decide+kernel
theorem NZ:NM.length=86:=by decide+kernel
variable{i:Nat} {j:Nat}
theorem aab(a:i<86)(b:j<86)(h:nm i=nm j):i=j:=by rw [<-NZ]at a b;unfold nm at h;rw [bx,bx,aV a,aV b]at h;simp only [Option.getD_some]at h;exact(tN QP).mp h
abbrev bw:=List<|au
abbrev At:=List<|Nat×V
noncomputable def At.iV:At->Nat->V->At
 |[],i,v=>[(i,v)]
 |(j,u)::r,i,v=>if j=i then(i,v)::r else(j,u)::At.iV r i v
theorem At.YD(j:Nat)(u:V)(r:At)(i:Nat)(v:V):At.iV ((j,u)::r) i v=if j=i then(i,v)::r else(j,u)::At.iV r i v:=rfl
theorem At.Kg(J:At)(x y:Nat)(v:V):(J.iV x v).lookup y=if y=x then O v else J.lookup y:=by
 induction J with
 |nil=>
  refine bL (eS) ?_;by_cases h:y=x
  .subst h;simp
  .have:(y==x)=bk:=by simpa using h
   exact rr this<|rr (bu h) Z
 |cons p r i=>
  obtain⟨z,u⟩:=p;refine rr (At.YD z u r x v) ?_;by_cases a:z=x
  .clear i;refine rl a<|rr (bI Z)<|bL (eS)<|rr (eS) ?_;by_cases h:y=z
   .subst h;simp
   .have:(y==z)=bk:=by simpa using h
    exact rr this<|rr (bu h) Z
  .refine rr (bu a)<|bL (eS)<|rr (eS)<|rr i ?_;by_cases h:y=z
   .clear i;subst h;simp [a]
   .have:(y==z)=bk:=by simpa using h
    exact rr this Z
theorem At.Br(J:At)(x:Nat)(v:V):J.length<=(J.iV x v).length/\(J.iV x v).length<=J.length+1/\(J.lookup x=X->(J.iV x v).length=J.length+1):=by
 induction J with
 |nil=>exact⟨dA _,bO _,λU=>rfl⟩
 |cons p r i=>
  obtain⟨z,u⟩:=p;refine rr (At.YD z u r x v) ?_;by_cases a:z=x
  .clear i;subst a;refine rr (bI Z) ?_;simp
  .refine rr (bu a) ?_;have:(x==z)=bk:=by simpa using lF a
   refine rr (eS)<|rr this ?_;simp only [gP];exact(dW (by lia) (by lia) (λh=>by have:=i.2.2 h;exact aH (·+1) ‹_›))
def OV(h:j9):Option bb->au->Prop
 |some v,O u=>cY h u v
 |none,X=>True
 |_,_=>False
theorem OV.cp(k:IK h h'):∀{a:Option bb} {b:au},OV h a b->OV h' a b
 |some _,O _,x=>cY.cp k x
 |none,X,_=>trivial
def nP(h:j9)(a:a8)(J:At):Prop:=∃o es ep,h.get? a=O o/\o.data=.dict es ep/\Qq es/\es.size<=J.length/\∀i<86,OV h (rH es<|nm i)<|J.lookup i
theorem nP.wQ{J:At}(x:nP h a J)(k:IK h h')(e:h'.get? a=h.get? a):nP h' a J:=l5 x λo es ep b hd c d f=>ja o es ep (e.trans b) hd c d λi g=>(f i g).cp k
inductive KK where
 |i (n:Int)|s (l:aq)
 deriving DecidableEq
abbrev ak:=List (KK×V)
noncomputable def toK:V->Option KK
 |.aL n=>O<|.i n
 |.aQ l=>O<|.s l
 |_=>X
noncomputable def KK.is:KK->bb->Bool
 |.i n,v=>Ax n v
 |.s l,v=>xk (tx l) v
theorem KK.Dt{n:Int}(h:KK.is (.i n) v=D):∃t,v=.int n t:=Value.isInt_shape h
theorem KK.Fv{l:aq}(h:KK.is (.s l) v=D):∃t,v=.str (tx l) t:=Value.isStrOf_shape h
def Bs(w:fZ):KeyKind PR w KK where
 is:=KK.is
 hash:=λk=>match k with
  |.i n=>hashInt n
  |.s l=>hashStr w<|tx l
 inj:=λv a b ha hb=>by
  induction a with
  |i n=>
   obtain⟨t,rfl⟩:=KK.Dt ha;induction b with
   |i m=>obtain⟨u,e⟩:=KK.Dt hb;exact aH KK.i (Value.int.inj e).1
   |s l=>obtain⟨u,e⟩:=KK.Fv hb;exact nq f9 e ff
  |s l=>
   obtain⟨t,rfl⟩:=KK.Fv ha;induction b with
   |i m=>obtain⟨u,e⟩:=KK.Dt hb;cases e
   |s l'=>obtain⟨u,e⟩:=KK.Fv hb;simp at e;exact rr (e.1) Z
 byValue:=λk v h=>by
  induction k with
  |i n=>obtain⟨t,rfl⟩:=KK.Dt h;rfl
  |s l=>obtain⟨t,rfl⟩:=KK.Fv h;rfl
 pyHash:=λ{A E s k v Q} hv h=>by
  induction k with
  |i n=>obtain⟨t,rfl⟩:=KK.Dt hv;exact wpAny_pyHash_int h
  |s l=>obtain⟨t,rfl⟩:=KK.Fv hv;exact wpAny_pyHash_str h
 eqBool:=λ{A E s a b u v Q} hu hv h=>by
  cases a with
  |i n=>
   obtain⟨t,rfl⟩:=KK.Dt hu;cases b with
   |i m=>obtain⟨t',rfl⟩:=KK.Dt hv;exact E8 (by refine rr (show(n==m)=decide (KK.i n=KK.i m)from decide_eq_decide.mpr ⟨aH KK.i,KK.i.inj⟩) ?_;exact h)
   |s l=>obtain⟨t',rfl⟩:=KK.Fv hv;exact SeqAt.EqAt.int_str _ _ _ _ _ _ _ _<|h
  |s l=>
   obtain⟨t,rfl⟩:=KK.Fv hu;cases b with
   |i m=>obtain⟨t',rfl⟩:=KK.Dt hv;exact SeqAt.EqAt.str_int _ _ _ _ _ _ _ _<|h
   |s l'=>obtain⟨t',rfl⟩:=KK.Fv hv;exact wpAny_eqBool_str (by simpa using h)
 «strs»:=λk x t v h=>by
  induction k with
  |i n=>obtain⟨t,e⟩:=KK.Dt h;exact nq f9 e ff
  |s l=>
   obtain⟨t,e⟩:=KK.Fv h;cases e
   induction v<;>rfl
noncomputable def lr(h:j9):ak->List (KK×bb)->Prop
 |[],kvs=>kvs=[]
 |(k,v)::r,kvs=>∃u q,kvs=(k,u)::q/\cY h v u/\lr h r q
theorem lr.cp(k:IK h h'):∀{kv:ak} {es:List (KK×bb)},lr h kv es->lr h' kv es:=by
 intro l;induction l with
 |nil=>
  intro U r;exact r
 |cons a r i=>
  obtain⟨x,v⟩:=a;intro U q;obtain⟨e,q,rfl,b,d⟩:=q;exact fe e q Z (b.cp k)<|i d
noncomputable def oM(h:j9):List (ae×V)->List (ae×a8×bb)->Prop
 |[],B=>B=[]
 |(k,v)::r,B=>∃b u q,B=(k,b,u)::q/\cY h v u/\oM h r q
theorem oM.cp(k:IK h h'):∀{kv:List (ae×V)} {es:List (ae×a8×bb)},oM h kv es->oM h' kv es:=by
 intro l;induction l with
 |nil=>
  intro U r;exact r
 |cons a r i=>
  obtain⟨x,v⟩:=a;intro U q;obtain⟨b,e,q,rfl,d,f⟩:=q;exact jX b e q Z (d.cp k)<|i f
theorem IK.tt{w:fZ}{x:ae}(k:IK h h')(i:tY w h x a):tY w h' x a:=g7 i λo it n d c hd e=>mF o it n (k a o d<|.inl<|tQ c _ _ hd) c hd<|e.cp λy b f=>g7 f λo it n d c hd e=>mF o it n (k b o d<|.inl<|tQ c _ _ hd) c hd e
inductive cP where
 |aF (B:aw)
 |cQ (kv:ak)
 |sv (kv:List (ae×V))
 |d8 (C dx:a8) (at_:At)
 |fu (o:a8)
 |fg (C dx:a8) (at_:At) (cx:bb) (tb:Option a8)
 |Ai (C:a8)
 |Kh
noncomputable def HB:Option a8->bb
 |none=>.none
 |some T=>.ref T
def cP.fU(w:fZ)(h:j9)(a:a8):cP->Prop
 |.aF B=>∃L n,h.get? a=O {cls:=.type "list",data:=.seq (iZ L) n}/\eX h B L/\L.length<=cE
 |.cQ kv=>∃kvs,h.DictOf (Bs w) a kvs/\lr h kv kvs/\kv.length<=1000000/\(a==lP)=bk
 |.sv kv=>∃B,h.DictOfH (Kf w) a B/\oM h kv B/\(a==lP)=bk
 |.d8 C dx at_=>(∃sl,h.get? a=O ⟨.ref C,O dx,.plain,sl⟩)/\nP h dx at_
 |.fu o=>∃ob es n,h.get? a=O ob/\ob.data=.dict es n
 |.fg C dx at_ cx tb=>(∃(L:Array bb) (sl:Array (Option bb)),h.get? a=O ⟨.ref C,O dx,.fields L,sl⟩/\L.size=6/\L[2]?=O cx/\L[1]?=O (HB tb))/\nP h dx at_
 |.Ai C=>∃(L:Array bb) (sl:Array (Option bb)),h.get? a=O ⟨.ref C,X,.fields L,sl⟩/\L.size=6/\L[2]?=O .none/\L[1]?=O .none
 |.Kh=>∃(o:Obj) (ts:Array bb),h.get? a=O o/\o.cls=.type "traceback"/\o.data=.fields ts/\3<ts.size
noncomputable def cP.tm:cP->Option a8
 |.d8 _ dx _=>O dx
 |.fg _ dx _ _ _=>O dx
 |_=>X
theorem cP.fU.n7{w:fZ}{k:cP}(H:k.fU w h a)(i:IK h h')(e:h'.get? a=h.get? a)(f:∀d,k.tm=O d->h'.get? d=h.get? d):k.fU w h' a:=by
 induction k with
 |aF B=>refine fE H λL n b r z=>?_;exact fe L n (e.trans b) (r.cp i) z
 |cQ kv=>(refine hV H λkvs c r z=>?_;refine jz c λo es ep b q=>?_);exact fW kvs (kY o es ep (e.trans b) q) (r.cp i) z
 |sv kv=>(refine hV H λB c r z=>?_;(refine l5 c λo es ep b q1 g j c=>?_;refine fw c λl m=>?_));exact fW B (ja o es ep (e.trans b) q1 g j ⟨λx p=>i.tt<|l x p,m⟩) (r.cp i) z
 |d8 C dx s=>(refine fw H λc n=>?_;refine ka c λsl b=>?_);exact⟨⟨sl,e.trans b⟩,n.wQ i<|f dx Z⟩
 |fu o=>refine jz H λt es n b d=>?_;exact kY t es n (e.trans b) d
 |fg C dx s u tb=>(refine fw H λc n=>?_;refine j6 c λL sl b q=>?_);exact⟨lq L sl (e.trans b) q,n.wQ i<|f dx Z⟩
 |Ai C=>refine j6 H λL sl b q=>?_;exact lq L sl (e.trans b) q
 |Kh=>refine j6 H λo ts b q=>?_;exact lq o ts (e.trans b) q
theorem cP.fU.kZ{w:fZ}{k:cP}(H:k.fU w h a):∃o,h.get? a=O o/\¬Fu o:=by
 induction k with
 |aF B=>refine fE H λL n b r z=>?_;exact(bX _ b<|by rintro(⟨h,_⟩|⟨h,_⟩)<;>simp at h)
 |cQ kv=>(refine hV H λkvs e r z=>?_;refine g7 e λo es ep b f hd q=>?_);exact bX _ b (by rintro(⟨h,_⟩|⟨h,_⟩)<;>replace h:=(f.1)▸h<;>simp at h)
 |sv kv=>(refine hV H λB e r z=>?_;refine g7 e λo es ep b f hd q=>?_);exact bX _ b (by rintro(⟨h,_⟩|⟨h,_⟩)<;>replace h:=(f.1)▸h<;>simp at h)
 |d8 C dx g=>(refine fw H λe n=>?_;refine ka e λsl b=>?_);exact(bX _ b<|by rintro(⟨h,_⟩|⟨h,_⟩)<;>simp at h)
 |fu o=>refine jz H λi es n b d=>?_;exact bX _ b (by rintro(⟨_,_,_,h⟩|⟨_,_,h⟩)<;>replace h:=d▸h<;>exact nq gz h ff)
 |fg C dx g j tb=>(refine fw H λe n=>?_;refine j6 e λL sl b q=>?_);exact(bX _ b<|by rintro(⟨h,_⟩|⟨h,_⟩)<;>simp at h)
 |Ai C=>refine j6 H λL sl b q=>?_;exact(bX _ b<|by rintro(⟨h,_⟩|⟨h,_⟩)<;>simp at h)
 |Kh=>refine e9 H λo ts b c d q=>?_;exact bX o b (by rintro(⟨h,_⟩|⟨h,_⟩)<;>replace h:=c▸h<;>simp at h)
abbrev N:=a8->Option cP
abbrev aj:=V->N->Prop
abbrev ag:=Bool->N->Prop
noncomputable def N.aX(Y:N)(a:a8)(k:cP):N:=λb=>if b=a then O k else Y b
@[simp]theorem N.aM(Y:N)(a:a8)(k:cP):Y.aX a k a=O k:=by simp [N.aX]
theorem N.da(Y:N){a b:a8}(k:cP)(h:b≠a):Y.aX a k b=Y b:=by simp [N.aX,h]
theorem N.yR(Y:N){k:cP}(h:Y a=O k):Y.aX a k=Y:=by
 funext b
 unfold N.aX;split
 .rename_i z;exact rr z<|rr h Z
 .rfl
theorem N.mU(Y:N)(a:a8)(k k':cP):(Y.aX a k).aX a k'=Y.aX a k':=by funext b;unfold N.aX;split<;>rfl
set_option genInjectivity false in
structure Gd where
 w:fZ
 iW:j9
 K:nH
abbrev Gd.M(g:Gd):yF:=gy PR g.w
structure Glo(w:fZ)(K:nH)(h:j9):Prop where
 vE:K.In h
 N0:h.NoLimit
 aac:∃mc,h.Ns cStatics mc/\mc "sys.int_max_str_digits"=X
 Bt:∃mg,h.Ns gC mg/\∀x v,ZU K gC x=O v->mg x=v
 eH:∃mb,h.Ns nV mb/\∀x:Str,x≠"__name__"->mb x=wI x
noncomputable def rS(A:kr):List a8:=(A.frames.getD []).filterMap (·.frame)
structure iO(g:Gd)(A:kr)(Y:N)(s:bG):Prop where
 gD:∀a k,Y a=O k->k.fU g.w s.heap a
 ie:∀a k d,Y a=O k->k.tm=O d->Y d=O (.fu a)
 fk:∀b o,g.iW.get? b=O o->s.heap.get? b=O o
 cu:∀b k,Y b=O k->g.iW.get? b=X
 um:∃l,A.frames=O l/\∀e∈l,e.scope.kind≠.module/\∃vs o es n,e.frame=O vs/\s.heap.get? vs=O o/\o.data=.dict es n/\g.iW.get? vs=X/\Y vs=X
 m8:s.gens=#[]
 Du:Glo g.w g.K g.iW
variable{g:Gd} {Y:N}
theorem iO.zJ{P:Prop}(i:iO g A Y s)(h:Y a=O (.aF B))(k:∀L n,s.heap.get? a=O {cls:=.type "list",data:=.seq (iZ L) n}->eX s.heap B L->L.length<=cE->P):P:=fE (i.gD a _ h) k
theorem iO.frs{P:Prop}(i:iO g A Y s)(k:∀l,A.frames=O l->(∀e∈l,e.scope.kind≠.module/\∃vs o es n,e.frame=O vs/\s.heap.get? vs=O o/\o.data=.dict es n/\g.iW.get? vs=X/\Y vs=X)->P):P:=cK i.um k
def N1(fr:List a8)(own:a8->Prop)(h h':j9):Prop:=(∀b,h'.get? b=X->h.get? b=X)/\IK h h'/\∀b o,h.get? b=O o->¬own b->(b∉fr->h'.get? b=O o)/\∃sl,h'.get? b=O {o with slots:=sl}
theorem N1.cL(fr:List a8)(own:a8->Prop)(h:j9):N1 fr own h h:=dW (λU e=>e) (.cL _) λb o e U=>rP (λU=>e) o.slots e
variable{own:a8->Prop} {QQ:a8->Prop}
theorem N1.aU{fr:List a8}(x:N1 fr own h h')(y:N1 fr QQ h' h'')(d:∀b,QQ b->own b\/h.get? b=X):N1 fr own h h'':=by
 refine dW (λb e=>x.1 b<|y.1 b e) (x.2.1.aU y.2.1) λb o e n=>?_;have a:¬QQ b:=λq=>(d b q).elim n λz=>by replace z:=e▸z;exact nq aP z ff
 refine xy (x.2.2 b o e n) λc sl g=>⟨λf=>(y.2.2 b o (c f) a).1 f,?_⟩;exact xy (y.2.2 b _ g a) λU s i=>⟨s,i⟩
theorem N1.cp{fr:List a8}(x:N1 fr own h h')(k:∀b,own b->QQ b):N1 fr QQ h h':=(dW x.1 x.2.1 λb o e n=>x.2.2 b o e λq=>n<|k b q)
structure eM(g:Gd)(A:kr)(Y:N)(s:bG)(c8:N)(s':bG):Prop where
 cm:iO g A c8 s'
 tR:N1 (rS A) (λb=>∃k,Y b=O k) s.heap s'.heap
 Fw:∀b k,c8 b=O k->(∃k,Y b=O k)\/s.heap.get? b=X
 os:s'.os=s.os
variable{c8:N} {qV:N} {JN:bG}
theorem eM.aU(x:eM g A Y s c8 s')(y:eM g A c8 s' qV JN):eM g A Y s qV JN:=by refine⟨y.cm,x.tR.aU y.tR λb a=>ka a λk h=>x.Fw b k h,λb k c=>?_,y.os.trans x.os⟩;exact bV (y.Fw b k c) (λz=>ka z λk' q=>x.Fw b k' q) λq=>.inr<|x.tR.1 b q
set_option genInjectivity false in
structure dC where
 g:Gd
 A:kr
 bc:Env
 bp:List Str
 Ki:List a8
abbrev dC.M(c:dC):yF:=gy PR c.g.w
def dC.uo(c:dC)(Y:N)(b:a8):Prop:=(∃k,Y b=O k)\/b=c.bc.locals\/b∈c.Ki
structure de(c:dC)(J:bw)(Y:N)(s:bG):Prop extends iO c.g c.A Y s where
 uq:∃m,s.heap.Ns c.bc.locals m/\∀(i:Nat) x v,c.bp[i]?=O x->J[i]?=O (O v)->c.bc.cells.lookup x=X->∃v',m x=O v'/\cY s.heap v v'
 N2:∀x a,(x,a)∈c.bc.cells->∃o v',s.heap.get? a=O o/\o.data=.cell v'/\∀(i:Nat) v,c.bp[i]?=O x->J[i]?=O (O v)->∃u,v'=O u/\cY s.heap v u
 iM:Y c.bc.locals=X/\(∀a∈c.bc.cells.map (·.2),Y a=X/\a≠c.bc.locals)
 sx:c.g.iW.get? c.bc.locals=X
 yS:∀a∈c.Ki,c.g.iW.get? a=X/\a∈c.bc.cells.map (·.2)
theorem de.tS{c:dC}{J:bw}{P:Prop}(i:de c J Y s)(k:∀m,s.heap.Ns c.bc.locals m->(∀(i:Nat) x v,c.bp[i]?=O x->J[i]?=O (O v)->c.bc.cells.lookup x=X->∃a,m x=O a/\cY s.heap v a)->P):P:=cK i.uq k
theorem de.pJ{c:dC}{J:bw}{x:Str}{P:Prop}(i:de c J Y s)(h:(x,a)∈c.bc.cells)(k:∀o b,s.heap.get? a=O o->o.data=.cell b->(∀(i:Nat) v,c.bp[i]?=O x->J[i]?=O (O v)->∃u,b=O u/\cY s.heap v u)->P):P:=fE (i.N2 x a h) k
structure dh(c:dC)(Y:N)(s:bG)(eP:bw)(c8:N)(s':bG):Prop where
 cm:de c eP c8 s'
 tR:N1 (rS c.A) (c.uo Y) s.heap s'.heap
 Fw:∀b k,c8 b=O k->(∃k,Y b=O k)\/s.heap.get? b=X
 os:s'.os=s.os
theorem QR{c:dC}{g:j9}(d:∀b k,c8 b=O k->(∃k,Y b=O k)\/g.get? b=X)(b:a8)(h:c.uo c8 b):c.uo Y b\/g.get? b=X:=bV h (λz=>ka z λk a=>bV (d b k a) (λq=>.inl<|.inl q) λq=>.inr q) λe=>bV e (λh=>.inl<|.inr<|.inl h) λh=>.inl<|.inr<|.inr h
theorem dh.cL{c:dC}{J:bw}(h:de c J Y s):dh c Y s J Y s:=⟨h,.cL ..,λb k q=>.inl ⟨k,q⟩,Z⟩
theorem dh.aU{c:dC}{eP adj:bw}(x:dh c Y s eP c8 s')(y:dh c c8 s' adj qV JN):dh c Y s adj qV JN:=by refine⟨y.cm,x.tR.aU y.tR<|QR x.Fw,λb k h=>?_,y.os.trans x.os⟩;exact bV (y.Fw b k h) (λz=>ka z λk' q=>x.Fw b k' q) λq=>.inr<|x.tR.1 b q
theorem dh.ik{c:dC}{eP:bw}(x:dh c Y s eP c8 s'):IK s.heap s'.heap:=x.tR.2.1
theorem ur{o:Obj}{es:Array oA}(h:o.data=.dict es n):¬Fu o:=by rintro(⟨_,_,_,h'⟩|⟨_,_,h'⟩)<;>replace h':=h▸h'<;>exact nq gz h' ff
theorem HE{o:Obj}{v:Option bb}(h:o.data=.cell v):¬Fu o:=by rintro(⟨_,_,_,h'⟩|⟨_,_,h'⟩)<;>replace h':=h▸h'<;>exact nq gz h' ff
theorem de.lI{c:dC}{J:bw}(i:de c J Y s)(x:eM c.g c.A Y s c8 s'):dh c Y s J c8 s':=by
 have C:∀{b:a8},Y b=X->¬∃k,Y b=O k:=λh F=>ka F λk q=>by replace q:=h▸q;exact nq aP q ff
 have aO:∀{b:a8},Y b=X->(∃o,s.heap.get? b=O o)->c8 b=X:=λ{b} h l=>by
  cases q:c8 b with
  |none=>rfl
  |some k=>
   refine bV (x.Fw b k q) (λn=>ka n λk' z=>?_) λz=>?_
   .replace z:=h▸z;cases z
   .refine ka l λo e=>have z:=e▸z;?_;exact nq aP z ff
 have G:∀a∈c.bc.cells.map (·.2),∃o,s.heap.get? a=O o:=λa p=>by
  refine vB p λn H=>?_;obtain⟨y,b⟩:=n;exact j6 (i.N2 y b H) λo t d U=>⟨o,d⟩
 have ik:=x.tR.2.1;refine⟨⟨x.cm,?_,λy a E=>?_,⟨aO i.iM.1 (cK (i.uq) λm I U=>jz I λo U U d U=>⟨o,d⟩:∃o,s.heap.get? c.bc.locals=O o),λa p=>⟨aO (i.iM.2 a p).1<|G a p,(i.iM.2 a p).2⟩⟩,i.sx,i.yS⟩,x.tR.cp λb q=>.inl q,x.Fw,x.os⟩
 .refine cK (i.uq) λm n z=>iT n λo es ep d hd r=>ka ((x.tR.2.2 _ o d<|C i.iM.1).2) λsl e=>bX m (jX _ es ep e hd r) λj y v w xs ρ=>?_;exact cK (z j y v w xs ρ) λt a b=>bX t a<|b.cp ik
 .refine i.pJ E λo t d hd r=>ka ((x.tR.2.2 _ o d (C (i.iM.2 a (dm (f:=(·.2)) E)).1)).2) λsl e=>fe _ t e hd λj v w xs=>?_;exact cK (r j v w xs) λu a b=>bX u a<|b.cp ik
def Wo(e:a8)(Y:N):Prop:=∃C dx at_ cx tb,Y e=O (.fg C dx at_ cx tb)/\∀T,tb=O T->Y T=O .Kh
structure Lv(e:a8)(Y c8:N):Prop where
 fg:∃C dx at_ cx tb tb',Y e=O (.fg C dx at_ cx tb)/\c8 e=O (.fg C dx at_ cx tb')/\(∀T,tb=O T->Y T=O .Kh)/\(∀T,tb'=O T->c8 T=O .Kh)
 Bu:∀b k,b≠e->Y b=O k->c8 b=O k
theorem Wo.lv{e:a8}(f:Wo e Y):Lv e Y Y:=uj f λC dx b c tb h a=>⟨sq C dx b c tb tb h ⟨h,a,a⟩,λU U U h=>h⟩
theorem Lv.fly{e:a8}(l:Lv e Y c8):Wo e c8:=n0 (l.fg) λC dx f g tb t a z=>m7 z λb c d=>uk C dx f g t b d
noncomputable def adk(t:Option a8):cP->cP
 |.fg C dx at_ cx _=>.fg C dx at_ cx t
 |c=>c
variable{C:a8} {dx:a8} {at_:At} {cx:bb}
theorem QS{C' dx':a8}{at':At}{cx':bb}{tb tb':Option a8}(t:Option a8)(h:O (cP.fg C dx at_ cx tb)=O (.fg C' dx' at' cx' tb')):O (cP.fg C' dx' at' cx' t)=O (.fg C dx at_ cx t):=aH (qP<|adk t) h.symm
theorem Lv.aU{e:a8}(x:Lv e Y c8)(y:Lv e c8 qV):Lv e Y qV:=n0 (x.fg) λC dx c g tb l a z=>m7 z λb d f=>n0 (y.fg) λm o p q r t i z=>m7 z λb' s j=>⟨sq C dx c g tb t a ⟨b'.trans<|QS t<|b.symm.trans i,d,j⟩,λb k n h=>y.Bu b k n<|x.Bu b k n h⟩
def Cl(E:a8->β->N->Prop)(ea:a8)(J:β)(Y:N):Prop:=Wo ea Y/\∀c8,Lv ea Y c8->E ea J c8
variable{ea:a8} {J:β}
theorem Cl.lv{E:a8->β->N->Prop}(x:Cl E ea J Y)(l:Lv ea Y c8):Cl E ea J c8:=⟨l.fly,λa b=>x.2 a<|l.aU b⟩
theorem Cl.now{E:a8->β->N->Prop}(x:Cl E ea J Y):E ea J Y:=x.2 Y x.1.lv
variable{γ:Type}
theorem Cl.cp{E:a8->β->N->Prop}{E':a8->γ->N->Prop}{eP:γ}(x:Cl E ea J Y)(h:∀e Y,E e J Y->E' e eP Y):Cl E' ea eP Y:=⟨x.1,λa l=>h _ _<|x.2 a l⟩
abbrev Ex:=a8->Unit->N->Prop
abbrev oZ:=a8->bw->N->Prop
inductive Wq(c:dC)(J:bw)(Y:N)(s:bG)(Q:N->bG->Prop)(s':bG):Prop where
 |mk (c8:N) (x:dh c Y s J c8 s') (q:Q c8 s')
inductive We(c:dC)(J:bw)(Y:N)(s:bG)(E:Ex)(e:bb)(s':bG):Prop where
 |mk (ea:a8) (c8:N) (z:e=.ref ea) (x:dh c Y s J c8 s') (q:Cl E ea () c8)
inductive Sq(c:dC)(Y:N)(s:bG)(Q:bw->N->bG->Prop)(s':bG):Prop where
 |mk (eP:bw) (c8:N) (x:dh c Y s eP c8 s') (q:Q eP c8 s')
inductive Se(c:dC)(Y:N)(s:bG)(E:oZ)(e:bb)(s':bG):Prop where
 |mk (ea:a8) (eP:bw) (c8:N) (z:e=.ref ea) (x:dh c Y s eP c8 s') (q:Cl E ea eP c8)
def W(c:dC)(J:bw)(Y:N)(s:bG)(t:Sem α)(Q:α->N->bG->Prop)(E:Ex):Prop:=ee c.M c.A t (λa=>Wq c J Y s<|Q a) (We c J Y s E) s
def WS(c:dC)(Y:N)(s:bG)(t:Sem α)(Q:α->bw->N->bG->Prop)(E:oZ):Prop:=ee c.M c.A t (λa=>Sq c Y s<|Q a) (Se c Y s E) s
theorem We.no{c:dC}{J:bw}{e:bb}{P:Prop}:We c J Y s (λU U U=>False) e s'->P:=λ⟨_,_,_,_,q⟩=>(q.2 _ q.1.lv).elim
theorem Wq.no{c:dC}{J:bw}{P:Prop}:Wq c J Y s (λU U=>False) s'->P:=λ⟨_,_,q⟩=>q.elim
theorem Wq.aU{c:dC}{J:bw}{Q:N->bG->Prop}(x:dh c Y s J c8 s'):Wq c J c8 s' Q JN->Wq c J Y s Q JN:=λ⟨a,y,r⟩=>⟨a,x.aU y,r⟩
theorem We.aU{c:dC}{J:bw}{E:Ex}{e:bb}(x:dh c Y s J c8 s'):We c J c8 s' E e JN->We c J Y s E e JN:=λ⟨ea,a,z,y,r⟩=>⟨ea,a,z,x.aU y,r⟩
theorem Sq.aU{c:dC}{J:bw}{Q:bw->N->bG->Prop}(x:dh c Y s J c8 s'):Sq c c8 s' Q JN->Sq c Y s Q JN:=λ⟨a,b,y,r⟩=>⟨a,b,x.aU y,r⟩
theorem Se.aU{c:dC}{J:bw}{E:oZ}{e:bb}(x:dh c Y s J c8 s'):Se c c8 s' E e JN->Se c Y s E e JN:=λ⟨ea,a,b,z,y,r⟩=>⟨ea,a,b,z,x.aU y,r⟩
theorem We.toS{c:dC}{J:bw}{E:oZ}{e:bb}:We c J Y s (λa U Y=>E a J Y) e s'->Se c Y s E e s':=λ⟨ea,b,z,y,r⟩=>⟨ea,J,b,z,y,r.cp λU U h=>h⟩
variable{p:Pos}
section
variable{c:dC} {J:bw} {E:Ex}
theorem W.j'{a:α}{Q:α->N->bG->Prop}(i:de c J Y s)(q:Q a Y s):W c J Y s (afZ a:Sem α) Q E:=bZ ⟨Y,.cL i,q⟩
theorem W.cp{t:Sem α}{Q Q':α->N->bG->Prop}{E':Ex}(h:W c J Y s t Q E)(d:∀a b s',dh c Y s J b s'->Q a b s'->Q' a b s')(f:∀e b,E e () b->E' e () b):W c J Y s t Q' E':=wpAny_mono h (λa s' ⟨b,x,q⟩=>⟨b,x,d _ _ _ x q⟩) (λe s' ⟨ea,b,z,x,q⟩=>⟨ea,b,z,x,q.cp f⟩)
theorem W.bJ{m:Sem α}{f:α->Sem β}{Q:β->N->bG->Prop}{R:α->N->bG->Prop}(h:W c J Y s m R E)(k:∀a b s',dh c Y s J b s'->R a b s'->W c J b s' (f a) Q E):W c J Y s (m>>=f) Q E:=wpAny_bind (wpAny_mono h (λa s' ⟨b,x,q⟩=>wpAny_mono (k a b s' x q) (λU U=>.aU x) λU U=>.aU x) λU U q=>q)
theorem W.bq{m:Sem α}{v:α}{f:α->Sem β}{Q:β->N->bG->Prop}(h:W c J Y s m (λa b U=>a=v/\b=Y) E)(k:∀s',dh c Y s J Y s'->W c J Y s' (f v) Q E):W c J Y s (m>>=f) Q E:=.bJ h λa b s' st e=>by obtain⟨rfl,rfl⟩:=e;exact k s' st
theorem W.bs{m:Sem α}{f:α->Sem β}{Q:β->N->bG->Prop}(h:W c J Y s m (λU b U=>b=Y) E)(k:∀v s',dh c Y s J Y s'->W c J Y s' (f v) Q E):W c J Y s (m>>=f) Q E:=.bJ h λa b s' st e=>by obtain rfl:=e;exact k a s' st
theorem W.fM{m:Sem α}{Q:α->N->bG->Prop}(h:W c J Y s m Q E):W c J Y s (jL L m) Q E:=eY h
theorem W.fk{t:Sem α}{Q:α->N->bG->Prop}(h:W c J Y s t Q E):W c J Y s (t.keep L) Q E:=Calls.wpAny_keep h
theorem W.yT{m:Sem bb}{Q:bb->N->bG->Prop}(h:W c J Y s m Q E):W c J Y s (acM L m) Q E:=λΓ p a=>by
 exact rr (Sem.wp_operate _ _ _ _ _ _ _ _)<|h Γ p a
theorem W.ki{f:Unit->Sem α}{Q:α->N->bG->Prop}(h:W c J Y s (f ()) Q E):W c J Y s (mz p>>=f) Q E:=db (λU U k=>NJ k) h
theorem W.N3{keep:List bb}{f:Unit->Sem α}{Q:α->N->bG->Prop}(h:W c J Y s (f ()) Q E):W c J Y s (release L keep>>=f) Q E:=wpAny_bind (λΓ p a=>by refine rr (E9 _ _ _ _ _ _ _ _) ?_;exact h)
theorem W.toS{t:Sem α}{Q:α->bw->N->bG->Prop}{E':oZ}(h:W c J Y s t (λa b s'=>Q a J b s') (λe U b=>E' e J b)):WS c Y s t Q E':=wpAny_mono h (λa s' ⟨b,x,q⟩=>⟨J,b,x,q⟩) (λe s' ⟨ea,b,z,x,q⟩=>⟨ea,J,b,z,x,q.cp λU U h=>h⟩)
end
section
variable{c:dC} {J:bw} {E:oZ}
theorem WS.j'{a:α}{Q:α->bw->N->bG->Prop}(i:de c J Y s)(q:Q a J Y s):WS c Y s (afZ a:Sem α) Q E:=bZ ⟨J,Y,.cL i,q⟩
theorem WS.cp{t:Sem α}{Q Q':α->bw->N->bG->Prop}{E':oZ}(h:WS c Y s t Q E)(d:∀a eP b s',dh c Y s eP b s'->Q a eP b s'->Q' a eP b s')(f:∀e eP b,E e eP b->E' e eP b):WS c Y s t Q' E':=wpAny_mono h (λa s' ⟨eP,b,x,q⟩=>⟨eP,b,x,d _ _ _ _ x q⟩) (λe s' ⟨ea,eP,b,z,x,q⟩=>⟨ea,eP,b,z,x,q.cp λe Y h=>f e eP Y h⟩)
theorem WS.bJ{m:Sem α}{f:α->Sem β}{Q:β->bw->N->bG->Prop}{R:α->bw->N->bG->Prop}(h:WS c Y s m R E)(k:∀a eP b s',dh c Y s eP b s'->R a eP b s'->WS c b s' (f a) Q E):WS c Y s (m>>=f) Q E:=wpAny_bind (wpAny_mono h (λa s' ⟨eP,b,x,q⟩=>wpAny_mono (k a eP b s' x q) (λU U=>.aU x) λU U=>.aU x) λU U q=>q)
theorem WS.fM{m:Sem α}{Q:α->bw->N->bG->Prop}(h:WS c Y s m Q E):WS c Y s (jL L m) Q E:=eY h
theorem WS.ki{f:Unit->Sem α}{Q:α->bw->N->bG->Prop}(h:WS c Y s (f ()) Q E):WS c Y s (mz p>>=f) Q E:=db (λU U k=>NJ k) h
end
structure Qt(s s':bG):Prop where
 fk:∀b o,s.heap.get? b=O o->s'.heap.get? b=O o
 m8:s'.gens=s.gens
 os:s'.os=s.os
theorem Qt.cL(s:bG):Qt s s:=⟨λU U e=>e,Z,Z⟩
theorem Qt.aU(x:Qt s s')(y:Qt s' JN):Qt s JN:=⟨λb o e=>y.fk b o<|x.fk b o e,y.m8.trans x.m8,y.os.trans x.os⟩
theorem Qt.m9(s:bG)(n:Nat):Qt s {s with toks:=n}:=⟨λU U e=>e,Z,Z⟩
theorem Qt.nf(s:bG)(o:Obj)(n:Nat):Qt s {s with heap:=s.heap.push o,toks:=n}:=⟨λb a e=>bM _ e,Z,Z⟩
theorem Qt.vF(q:Qt s s')(b:a8)(e:s'.heap.get? b=X):s.heap.get? b=X:=by
 cases h:s.heap.get? b with
 |none=>rfl
 |some o=>replace e:=(q.fk b o h)▸e;exact nq aP e ff
theorem Qt.ik(x:Qt s s'):IK s.heap s'.heap:=λa o e U=>x.fk a o e
theorem iO.qt(i:iO g A Y s)(q:Qt s s'):iO g A Y s':=by
 refine⟨λa k c=>?_,i.ie,λb o e=>q.fk b o<|i.fk b o e,i.cu,?_,q.m8.trans i.m8,i.Du⟩
 .have H:=i.gD a k c;exact cK (H.kZ) λo f U=>H.n7 q.ik ((q.fk a o f).trans f.symm) λd hd=>cK ((i.gD d _<|i.ie a k d c hd).kZ) λm j U=>(q.fk d m j).trans j.symm
 .refine i.frs λl p h=>bX l p λe r=>?_;exact sk (h e r) λa1 vs o es n t u v=>vy a1 vs o es n t (q.fk _ _ u) v
theorem de.qt{c:dC}{J:bw}(i:de c J Y s)(q:Qt s s'):de c J Y s':=by
 refine⟨i.toiO.qt q,?_,λx a g=>?_,i.iM,i.sx,i.yS⟩
 .refine i.tS λm k z=>jz k λo es ep h r=>bX m (kY o es ep (q.fk _ _ h) r) λj x v d e l=>?_;exact cK (z j x v d e l) λf a b=>bX f a<|b.cp q.ik
 .refine i.pJ g λo f h hd r=>fe o f (q.fk _ _ h) hd λj v d e=>?_;exact cK (r j v d e) λu a b=>bX u a<|b.cp q.ik
theorem Qt.tR(q:Qt s s')(fr:List a8)(own:a8->Prop):N1 fr own s.heap s'.heap:=dW q.vF q.ik λb o e U=>rP (λU=>q.fk b o e) o.slots<|q.fk b o e
theorem dh.qt{c:dC}{J:bw}(i:de c J Y s)(q:Qt s s'):dh c Y s J Y s':=⟨i.qt q,q.tR _ _,λb k h=>.inl ⟨k,h⟩,q.os⟩
theorem dh.tk{c:dC}{J:bw}(i:de c J Y s)(n:Nat):dh c Y s J Y {s with toks:=n}:=.qt i<|.m9 s n
theorem iO.gx(i:iO g A Y s)(h:s.heap.get? a=X):Y a=X:=by
 cases q:Y a with
 |none=>rfl
 |some k=>refine cK ((i.gD _ k q).kZ) λo e U=>?_;replace e:=h▸e;exact nq aP e ff
theorem iO.qr(i:iO g A Y s)(h:s.heap.get? a=X):g.iW.get? a=X:=by
 cases q:g.iW.get? a with
 |none=>rfl
 |some o=>replace h:=(i.fk a o q)▸h;exact nq aP h ff
theorem dZ(h:j9):h.get? h.objs.size=X:=d6<|bO _
theorem de.vE{c:dC}{J:bw}(i:de c J Y s):c.g.K.In s.heap:=i.Du.vE.keeps i.fk
theorem iO.vE(i:iO g A Y s):g.K.In s.heap:=i.Du.vE.keeps i.fk
theorem iO.yU(i:iO g A Y s):s.heap.NoLimit:=i.Du.N0.keeps i.fk
theorem iO.uu(i:iO g A Y s){b:a8}(a:b∈rS A):Y b=X/\g.iW.get? b=X/\∃o es n,s.heap.get? b=O o/\o.data=.dict es n:=by refine i.frs λl d h=>?_;unfold rS at a;rw [d]at a;refine cK (List.mem_filterMap.mp a) λe f a=>sk (h e f) λU vs o es n c j z=>?_;obtain⟨k,m,p⟩:=z;rw [a]at c;exact rr (aJ c) ⟨p,m,o,es,n,j,k⟩
theorem iO.QT{b:a8}{P:Prop}(i:iO g A Y s)(h:b∈rS A)(k:Y b=X->g.iW.get? b=X->∀o es n,s.heap.get? b=O o->o.data=.dict es n->P):P:=QJ (i.uu h) k
theorem iO.yV(i:iO g A Y s)(m:∀b o,g.iW.get? b=O o->s'.heap.get? b=O o)(p:∀a k,c8 a=O k->k.fU g.w s'.heap a) (q:∀a k d,c8 a=O k->k.tm=O d->c8 d=O (.fu a)) (new:∀b k,c8 b=O k->g.iW.get? b=X)(fr:∀vs∈rS A,(∃o es n,s'.heap.get? vs=O o/\o.data=.dict es n)/\c8 vs=X) (gens:s'.gens=s.gens):iO g A c8 s':=by
 refine⟨p,q,m,new,?_,gens.trans i.m8,i.Du⟩;refine i.frs λl c h=>bX l c λe f=>?_;refine sk (h e f) λa1 vs o es n j aO z=>m7 z λE r F=>?_;have t:vs∈rS A:=by
  unfold rS;exact rr c<|List.mem_filterMap.mpr<|bX e f j
 exact fw (fr vs t) λz u=>jz z λv x y xs C=>vy a1 vs v x y j xs ⟨C,r,u⟩
theorem N.or{b:a8}{k k':cP}{P:Prop}(h:(Y.aX a k) b=O k')(x:b=a->k=k'->P)(y:b≠a->Y b=O k'->P):P:=by
 by_cases e:b=a
 .clear y;subst e;rw [N.aM]at h;exact x Z<|aJ h
 .rw [N.da _ _ e]at h;exact y e h
theorem N.iM{b:a8}{k:cP}(h:Y a=X)(h':Y b=O k):b≠a:=λe=>ns h<|e▸h'
theorem Bv{w:fZ}{d:a8}{k:cP}(H:k.fU w h a)(e:k.tm=O d):(cP.fu a).fU w h d:=by
 induction k with
 |d8 C dx f=>refine rl (aJ e) ?_;exact xy H λU o t=>fE t λes ep b c U=>kY o es ep b c
 |fg C dx f g tb=>refine rl (aJ e) ?_;exact xy H λU o t=>fE t λes ep b c U=>kY o es ep b c
 |_=>exact no e
theorem iO.aX{k:cP}(i:iO g A Y s)(l:∀b o,g.iW.get? b=O o->s'.heap.get? b=O o)(gens:s'.gens=s.gens)(m:k.fU g.w s'.heap a)(r:∀b j,b≠a->Y b=O j->j.fU g.w s'.heap b)(f:∀d,k.tm=O d->d≠a/\Y d=O (.fu a)) (t:∀b,Y a≠O (.fu b)) (u:g.iW.get? a=X) (fr:∀vs∈rS A,vs≠a/\∃o es n,s'.heap.get? vs=O o/\o.data=.dict es n):iO g A (Y.aX a k) s':=
 i.yV l (λb k' h=>N.or h (λe q=>e▸q▸m)<|r b k')
  (λb k' d h hd=>N.or h (λe q=>by subst e q;exact(N.da _ _ (f d hd).1).trans (f d hd).2) λnb h=>have p:=i.ie b k' d h hd;(N.da _ _<|show d≠a fromλe=>t b<|e▸p).trans p)
  (λb k' h=>N.or h (λe U=>e▸u) λU h=>i.cu b k' h) (λvs c=>⟨(fr vs c).2,(N.da _ _ (fr vs c).1).trans (i.uu c).1⟩) gens
theorem iO.af'(i:iO g A Y s){vs:a8}(h:s.heap.get? a=X)(b:vs∈rS A):vs≠a:=λe=>by
 exact i.QT b λU U o es n c U=>ns h<|e▸c
theorem eM.oE(i:iO g A Y s){k:cP}(q:Qt s s')(c:s.heap.get? a=X)(l:k.fU g.w s'.heap a)(m:k.tm=X):eM g A Y s (Y.aX a k) s':=
 have j:=i.qt q
 ⟨j.aX j.fk Z l (λb n U h=>j.gD b n h) (λd hd=>ns m hd) (λb e=>ns (i.gx c) e) (i.qr c) λvs f=>⟨i.af' c f,(j.uu f).2.2⟩,q.tR _ _,λb k' h=>N.or h (λe U=>.inr<|e▸c) λU h=>.inl ⟨k',h⟩,q.os⟩
theorem eM.Bw(i:iO g A Y s){k k':cP}{t:Nat}(c:Y a=O k)(d:a8)(hd:d=a\/k.tm=O d)(j:f7 d s.heap h')(m:IK s.heap h'->k'.fU g.w h' a)(x:k'.tm=k.tm)(y:∀o,k≠.fu o):eM g A Y s (Y.aX a k') {s with heap:=h',toks:=t}:=by
 refine ka (hd.elim (λe=>⟨k,e▸c⟩) λe=>⟨_,i.ie a k d c e⟩:∃kd,Y d=O kd) λkd r=>cK ((i.gD d kd r).kZ) λod xs E=>have ik:IK s.heap h':=λb o e F=>(j.2 b λq=>E<|ss (q▸e) xs▸F).trans e;?_;have G:∀b f,b≠a->Y b=O f->f.fU g.w h' b:=λb f nb u=>by
  by_cases q:b=d
  .clear xs;subst q;exact rl (ss (i.ie a k b c<|hd.resolve_left nb) u)<|Bv (m ik)<|x.trans<|hd.resolve_left nb
  .exact(i.gD b f u).n7 ik (j.2 b q) λl v=>j.2 l λe=>hd.elim (λhd=>y b<|ss c<|hd▸(e▸i.ie b f l u v)) λhd=>nb<|cP.fu.inj<|ss (e▸i.ie b f l u v)<|i.ie a k d c hd
 have H:∃o,h'.get? d=O o:=hd.elim (λe=>cK (m ik).kZ λo h U=>⟨o,e▸h⟩) λe=>jz (Bv (m ik)<|x.trans e) λo U U h U=>⟨o,h⟩;have C:g.iW.get? d=X:=i.cu d kd r;refine⟨i.aX (λb o e=>(j.2 b λz=>ns C<|z▸e).trans<|i.fk b o e) Z (m ik) G (λl v=>?_) (λb e=>y b<|ss c e) (i.cu a k c) λvs I=>?_,dW (λb e=>?_) ik λb o e n=>?_,λb f h=>N.or h (λe U=>.inl ⟨k,e▸c⟩) λU h=>.inl ⟨f,h⟩,Z⟩
 .have p:=i.ie a k l c<|x.symm.trans v;exact⟨λe=>y a<|ss c<|e▸p,p⟩
 .exact i.QT I λaO aZ o es n ρ K=>⟨λe=>ns aO<|e▸c,o,es,n,(j.2 vs λe=>ns aO<|e▸r).trans ρ,K⟩
 .by_cases q:b=d
  .clear hd xs C;subst q;exact ka H λo M=>ns e M
  .exact(j.2 b q).symm.trans e
 .have:=(j.2 b λz=>n<|z▸⟨kd,r⟩).trans e;exact rP (λU=>this) o.slots this
theorem QU{d:a8}(a:f7 d h h')(n:∀o,h.get? d=O o->¬Fu o):IK h h':=λb o e i=>(a.2 b λz=>n o (z▸e) i).trans e
theorem L2{d:a8}{fr:List a8}(a:f7 d h h')(ik:IK h h')(al:∃o,h'.get? d=O o)(hd:own d):N1 fr own h h':=
 (dW (λb e=>by
  by_cases q:b=d
  .clear hd a;subst q;obtain⟨o,c⟩:=al;exact ns e c
  .exact(a.2 b q).symm.trans e) ik (λb o e n=>have:=(a.2 b λz=>n<|z▸hd).trans e;(rP (λU=>this) o.slots this)))
theorem iO.at{d:a8}{t:Nat}(i:iO g A Y s)(f:Y d=X)(j:g.iW.get? d=X)(a:f7 d s.heap h')(ik:IK s.heap h')(hd:d∈rS A->∃o es n,h'.get? d=O o/\o.data=.dict es n):iO g A Y {s with heap:=h',toks:=t}:=
 have l:∀{b k},Y b=O k->h'.get? b=s.heap.get? b:=λh=>a.2 _<|N.iM f h
 i.yV (λb o e=>(a.2 b λz=>ns j<|z▸e).trans<|i.fk b o e) (λb k h=>(i.gD b k h).n7 ik (l h) λd hd=>l<|i.ie b k d h hd) i.ie i.cu (λvs c=>⟨by
  by_cases q:vs=d
  .clear j f;subst q;exact hd c
  .exact i.QT c λU U o es n m p=>kY o es n ((a.2 vs q).trans m) p,(i.uu c).1⟩) Z
theorem eM.Ws(i:iO g A Y s)(a:Heap.SlotsOnly (rS A) s.heap h'):eM g A Y s Y {s with heap:=h'}:=by
 have l:∀b,(∃k,Y b=O k)->b∉rS A:=λb y c=>ka y λk m=>by have:=(i.uu c).1;replace this:=m▸this;exact nq aP this ff
 have ik:IK s.heap h':=λb o e p=>by
  refine(a.2.1 b λc=>?_).trans e;refine i.QT c λU U v es n f j=>have f:=e.symm.trans f;?_;obtain rfl:=aJ f;exact ur j p
 refine⟨i.yV (λb o e=>?_) (λb k h=>?_) i.ie i.cu (λvs r=>?_) Z,(dW (λb e=>(by
  cases q:s.heap.get? b with
  |none=>rfl
  |some o=>refine ka (a.2.2 b o q) λsl t=>?_;exact cM (e.symm.trans t)<|by simp)) ik (λb o e U=>⟨λn=>(a.2.1 b n).trans e,a.2.2 b o e⟩)),λb k h=>.inl ⟨k,h⟩,Z⟩
 .refine(a.2.1 b λc=>?_).trans<|i.fk b o e;have:=(i.uu c).2.1;replace e:=this.symm.trans e;exact nq aP e ff
 .exact(i.gD b k h).n7 ik (a.2.1 b<|l b ⟨k,h⟩) λd hd=>a.2.1 d<|l d ⟨_,i.ie b k d h hd⟩
 .exact i.QT r λu w o es n f j=>ka (a.2.2 _ o f) λsl e=>⟨kY _ es n e j,u⟩
theorem de.Bx{c:dC}{J:bw}(i:de c J Y s){P:a8->Prop}(l:∀a,P a->¬c.uo Y a/\a∉c.bc.cells.map (·.2)/\a∉rS c.A/\c.g.iW.get? a=X/\∀o,s.heap.get? a=O o->¬Fu o)(same:∀b o,¬P b->s.heap.get? b=O o->s'.heap.get? b=O o) (gens:s'.gens=s.gens) (os:s'.os=s.os):de c J Y s'/\IK s.heap s'.heap:=by
 have ik:IK s.heap s'.heap:=λb o e F=>by
  by_cases q:P b
  .exact cM F<|(l b q).2.2.2.2 o e
  .exact same b o q e
 have C:∀b k,Y b=O k->s'.heap.get? b=s.heap.get? b:=λb k h=>by
  exact cK ((i.gD b k h).kZ) λo p U=>(same b o ((λb k h q=>(l b q).1 (.inl ⟨k,h⟩):∀b k,Y b=O k->¬P b) b k h) p).trans p.symm
 refine⟨⟨i.toiO.yV (λb o e=>?_) (λb k h=>?_) i.ie i.cu (λvs aO=>?_) gens,?_,λx a E=>?_,i.iM,i.sx,i.yS⟩,ik⟩
 .refine same b o (λq=>?_)<|i.fk b o e;replace e:=((l b q).2.2.2.1)▸e;exact nq aP e ff
 .exact(i.gD b k h).n7 ik (C b k h) λd hd=>C d _<|i.ie b k d h hd
 .exact i.QT aO λt w o es n y G=>⟨kY o es n (same vs o (λq=>(l vs q).2.2.1 aO) y) G,t⟩
 .refine i.tS λm H z=>jz H λo es ep p r=>bX m (kY o es ep (same _ o (λq=>(l _ q).1<|.inr<|.inl Z) p) r) λj x v t w y=>?_;exact cK (z j x v t w y) λxs a b=>bX xs a<|b.cp ik
 .refine i.pJ E λo xs p hd r=>(fe o xs (same _ o (λq=>(l _ q).2.1 (dm (f:=(·.2)) E)) p) hd λj v t w=>?_);exact cK (r j v t w) λu a b=>bX u a<|b.cp ik
structure hW(c:dC):Prop where
 fn:c.bc.scope.kind=.function
 Du:c.bc.globals=gC
 eH:c.bc.builtins=nV
 L3:c.bp.Nodup
 cnd:(c.bc.cells.map (·.1)).Nodup
 aad:(c.bc.cells.map (·.2)).Nodup
 rj:∀x∈c.bp,(c.bc.kindOf x=O .local/\c.bc.cells.lookup x=X)\/((c.bc.kindOf x=O .cell\/c.bc.kindOf x=O .free)/\∃a,c.bc.cells.lookup x=O a)
 uw:∀x∈c.bp,(x==("__debug__":Str))=bk/\(x==("__classdict__":Str))=bk
 AH:∃aae outer vs,c.A.frames=O (aae::outer)/\aae.frame=O vs/\c.bc.frame=aae.frame
theorem eI{l:List (Str×α)}{x:Str}{a:α}(h:l.lookup x=O a):(x,a)∈l:=by
 induction l with
 |nil=>exact nq aP h ff
 |cons p r i=>
  obtain⟨y,b⟩:=p;rw [eS]at h;by_cases e:x=y
  .clear i;subst e;simp at h;exact rr h<|.head _
  .have:(x==y)=bk:=by simpa using e
   rw [this]at h;exact .tail _<|i h
variable{k:Nat}
section
variable{c:dC} {J:bw}
theorem aaf{x:Str}{v:V}{Q:bb->N->bG->Prop}{E:Ex}(ok:hW c)(I:de c J Y s)(f:c.bp[i]?=O x)(j:J[i]?=O (O v))(h:∀u,cY s.heap v u->Q u Y s):W c J Y s (eO (.Name x p) c.bc) Q E:=by
 refine fw (ok.uw x (aW f:x∈c.bp)) λhd q=>bV (ok.rj x (aW f:x∈c.bp)) (λg=>fw g λb d=>?_) λt=>xy t λb a d=>?_
 .exact I.tS λm w z=>cK (z i x v f j d) λk e r=>ZV (wpAny_loadName_local ok.fn b w e ⟨Y,.cL I,h k r⟩) hd
 .refine I.pJ (eI d) λo k l n z=>cK (z i v f j) λu g r=>?_;obtain rfl:=g;exact bV b (λb=>ZV (wpAny_loadName_cell ok.fn b d (bX o l n) ⟨Y,.cL I,h u r⟩) hd) λb=>ZV (wpAny_loadName_free ok.fn b d (bX o l n) ⟨Y,.cL I,h u r⟩ q) hd
theorem Wt{x:Str}{Q:bb->N->bG->Prop}{E:Ex}(ok:hW c)(I:de c J Y s)(e:ZU c.g.K gC x=O (O v))(a:c.bc.kindOf x=O .globalImplicit)(hd:(x==("__debug__":Str))=bk)(h:Q v Y s):W c J Y s (eO (.Name x p) c.bc) Q E:=cK (I.toiO.Du.Bt) λmg b z=>V1 ok.fn a (loadGlobal_global (env:=c.bc) (mg:=mg) (rr (ok.Du)<|b.keeps I.fk) (z x _ e) ⟨Y,.cL I,h⟩) hd
theorem Kj{x:Str}{Q:bb->N->bG->Prop}{E:Ex}(ok:hW c)(I:de c J Y s)(e:ZU c.g.K gC x=O X)(a:wI x=O v)(b:x≠"__name__")(d:c.bc.kindOf x=O .globalImplicit)(hd:(x==("__debug__":Str))=bk)(h:Q v Y s):W c J Y s (eO (.Name x p) c.bc) Q E:=cK (I.toiO.Du.Bt) λmg f z=>cK (I.toiO.Du.eH) λmb i j=>V1 ok.fn d (loadGlobal_builtin (env:=c.bc) (mg:=mg) (mb:=mb) (rr (ok.Du)<|f.keeps I.fk) (z x _ e) (rr (ok.eH)<|i.keeps I.fk) ((j x b).trans a) ⟨Y,.cL I,h⟩) hd
theorem qg{f:α->β}{l:List α}(n:(l.map f).Nodup){p q:α}(h:p∈l)(i:q∈l)(e:f p=f q):p=q:=by
 induction l with
 |nil=>cases h
 |cons a l j=>
  replace n:=List.nodup_cons.mp n;refine bV (mc h) (λb=>?_) λc=>?_<;>refine bV (mc i) (λd=>?_) λg=>?_
  .exact b.trans d.symm
  .exact cM (rl b<|rr e<|dm (f:=f) g) n.1
  .exact cM (rl d<|rl e<|dm (f:=f) c) n.1
  .exact j n.2 c g
theorem By{J:bw}{u:au}{w:V}{P:Prop}(h:(J.set j u)[k]?=O (O w))(x:k=j->u=O w->P)(y:k≠j->J[k]?=O (O w)->P):P:=by
 by_cases e:k=j
 .clear y;subst e;have a:=gl h;rw [fD]at a;exact x Z<|ss (eK a) h
 .rw [i9<|lF e]at h;exact y e h
theorem hW.QV(ok:hW c){x:Str}(h:c.bp[j]?=O x)(h':c.bp[k]?=O x):k=j:=gs h' λa1 b=>gs h λd a=>(tN ok.L3).mp<|b.trans a.symm
theorem dh.nam{x:Str}{v:Option bb}{u:au}{m:Str->Option bb}{tk:Nat}(ok:hW c)(i:de c J Y s)(p:c.bp[j]?=O x)(E:∀w,u=O w->∃y,v=O y/\cY s.heap w y)(F:c.bc.cells.lookup x=X)(G:∀(i:Nat) y w,c.bp[i]?=O y->i≠j->J[i]?=O (O w)->c.bc.cells.lookup y=X->∃g,m y=O g/\cY s.heap w g)(C:h'.Ns c.bc.locals (λy=>if y=x then v else m y)) (n:f7 c.bc.locals s.heap h'):dh c Y s (J.set j u) Y {s with heap:=h',toks:=tk}:=by
 refine iT (id C) λt H I aO ρ U=>?_;have ik:IK s.heap h':=QU n λo e=>by
  exact i.tS λaB K U=>iT K λt es ep A hd U=>rl (ss A e)<|ur hd
 exact⟨⟨i.toiO.at i.iM.1 i.sx n ik λU=>kY t H I aO ρ,bX _ C λk y w l d vs=>By d (λe q=>cK (E w q) λz M r=>bX z ((bI<|ss (e▸l) p).trans M)<|r.cp ik) λe d=>cK (G k y w l e d vs) λg a b=>bX g ((bu<|show y≠x fromλz=>e<|ok.QV p<|z▸l).trans a)<|b.cp ik,λy a xs=>i.pJ xs λo g A hd r=>(fe o g ((n.2 a ((i.iM.2 a (dm (f:=(·.2)) xs)).2)).trans A) hd λk w l d=>By d (λe q=>ns F<|ly ok.cnd<|ss (e▸l) p▸xs) λe d=>cK (r k w l d) λaZ a b=>bX aZ a<|b.cp ik),i.iM,i.sx,i.yS⟩,L2 n ik ⟨t,aO⟩<|.inr<|.inl Z,λb k h=>.inl ⟨k,h⟩,Z⟩
theorem dh.uq{x:Str}{u:V}{m:Str->Option bb}{tk:Nat}(ok:hW c)(i:de c J Y s)(h:c.bp[j]?=O x)(b:cY s.heap u v)(d:c.bc.cells.lookup x=X)(f:∀(i:Nat) y w,c.bp[i]?=O y->J[i]?=O (O w)->c.bc.cells.lookup y=X->∃a,m y=O a/\cY s.heap w a)(g:h'.Ns c.bc.locals (λy=>if y=x then O v else m y)) (l:f7 c.bc.locals s.heap h'):dh c Y s (J.set j<|O u) Y {s with heap:=h',toks:=tk}:=.nam ok i h (λw e=>bX v Z<|aJ e▸b) d (λk y w n U=>f k y w n) g l
theorem dh.N2{x:Str}{u:V}{tk:Nat}(ok:hW c)(i:de c J Y s)(A:c.bp[j]?=O x)(ρ:cY s.heap u v)(l:(x,a)∈c.bc.cells)(z:a∈c.Ki)(K:h'.IsCell a (O v)) (g:f7 a s.heap h'):dh c Y s (J.set j<|O u) Y {s with heap:=h',toks:=tk}:=by
 have xs:=i.iM.2 a (dm (f:=(·.2)) l);refine cK K λo F hd=>i.pJ l λaE T C G vs=>?_;clear vs;have ik:IK s.heap h':=QU g λo e=>by
  clear l g;exact rl (ss C e)<|HE G
 refine⟨⟨i.toiO.at xs.1 (i.yS a z).1 g ik λM=>?_,?_,λy b t=>?_,i.iM,i.sx,i.yS⟩,L2 g ik ⟨o,F⟩<|.inr<|.inr z,λb k h=>.inl ⟨k,h⟩,Z⟩
 .refine i.QT M λW aG H es n aZ aO=>?_;clear z;clear l g;obtain rfl:=ss C aZ;replace aO:=G.symm.trans aO;exact nq gz aO ff
 .exact i.tS λm aB t=>bX m (aB.sameBut g<|lF xs.2) λk y w p d I=>By d (λe q=>ns I<|ly ok.cnd<|ss A (e▸p)▸l) λe d=>cK (t k y w p d I) λE a b=>bX E a<|b.cp ik
 .by_cases e:y=x
  .clear xs z C;clear g;induction e
   obtain rfl:b=a:=ss (ly ok.cnd t)<|ly ok.cnd l;exact fe o (O v) F hd λk w p d=>By d (λe q=>bX v Z<|aJ q▸ρ.cp ik) λe U=>cM (ok.QV A p) e
  .have nb:b≠a:=λq=>e (aH (·.1)<|qg ok.aad t l q);refine i.pJ t λH P Q R r=>fe H P ((g.2 b nb).trans Q) R λk w p d=>By d (λq U=>cM (ss (q▸p) A) e) λU d=>?_;exact cK (r k w p d) λE a b=>bX E a<|b.cp ik
def Wu(c:dC)(x:Str):Prop:=(c.bc.kindOf x=O .local/\c.bc.cells.lookup x=X)\/(c.bc.kindOf x=O .cell/\∃a,c.bc.cells.lookup x=O a/\a∈c.Ki)
theorem Fx{x:Str}{u:V}{Q:Unit->bw->N->bG->Prop}{E:oZ}(ok:hW c)(i:de c J Y s)(f:c.bp[j]?=O x)(h:Wu c x)(g:cY s.heap u v)(q:∀s',Q () (J.set j<|O u) Y s'):WS c Y s (yI c.bc x v) Q E:=bV h (λz=>fw z λd b=>i.tS λm k e=>JP<|xp d k (λh' l h=>⟨_,_,.uq ok i f g b e l h,q _⟩)<|rr (ok.fn) Z) λn=>Bi n λd a b e=>i.pJ (eI b) λo w p hd r=>JP<|wpAny_storeName_cell ok.fn d b (bX o p hd) λh' t h=>⟨_,_,.N2 ok i f g (eI b) e t h,q _⟩
theorem yW{e:a8}{tb:Option a8}(h:Y e=O (.fg C dx at_ cx tb))(i:de c J Y s): (∃(L:Array bb) (sl:Array (Option bb)),s.heap.get? e=O ⟨.ref C,O dx,.fields L,sl⟩/\L.size=6/\L[2]?=O cx/\L[1]?=O (HB tb))/\nP s.heap dx at_:=i.gD e _ h
variable{E:Ex}
theorem Fy{e:a8}{tb:Option a8}{f:bb->Sem α}{Q:α->N->bG->Prop}(h:Y e=O (.fg C dx at_ cx tb))(i:de c J Y s)(k:W c J Y s (f<|HB tb) Q E):W c J Y s (field (.ref e) 1>>=f) Q E:=fw (yW h i) λz U=>e9 z λL sl a d g b=>wpAny_bind<|mI a Z b k
theorem aag{T:a8}{f:bb->Sem α}{Q:α->N->bG->Prop}(h:Y T=O .Kh)(i:de c J Y s)(k:∀v,W c J Y s (f v) Q E):W c J Y s (field (.ref T) 3>>=f) Q E:=e9 (i.gD T _ h) λo ts a d hd b=>wpAny_bind<|mI a hd (Array.getElem?_eq_some_iff.mpr ⟨b,Z⟩)<|k _
theorem adl{T:a8}{Q:Unit->N->bG->Prop}(h:Y T=O .Kh)(i:de c J Y s)(q:∀s',Q () Y s'):W c J Y s (setField (.ref T) 3 v) Q E:=by
 refine e9 (i.gD T _ h) λo ts f k hd g=>have j:=Obj.data_mapFields hd (·.setIfInBounds 3 v);?_;have st:dh c Y s J (Y.aX T .Kh) {s with heap:=s.heap.update T (kx (·.setIfInBounds 3 v)),toks:=s.toks}:=
  i.lI (.Bw i.toiO h T (.inl Z) (gF ..) (λU=>gk _ _ (eV _ f<|Obj.isFreed_of_fields j) (by obtain⟨a,b,d,e⟩:=o;induction d<;>exact k) j<|by simpa using g) Z λo e=>by exact nq Internal.cP.ctorIdx e ff)
 rw [N.yR Y h]at st;exact yJ f hd g ⟨Y,st,q _⟩
theorem aga{e T:a8}{tb:Option a8}{Q:Unit->N->bG->Prop}(h:Y e=O (.fg C dx at_ cx tb))(i:de c J Y s)(q:∀s',Q () (Y.aX e<|.fg C dx at_ cx<|O T) s'):W c J Y s (setField (.ref e) 1<|.ref T) Q E:=by
 refine fw (yW h i) λz ns=>e9 z λL sl a d f k=>have g:=eV (kx (·.setIfInBounds 1<|.ref T)) a (by rfl);?_;have n:dx≠e:=by
  clear g h q;rintro rfl;refine iT ns λl es ep b j U=>have b:=a.symm.trans b;?_;obtain rfl:=aJ b;exact nq gz j ff
 refine yJ a Z (by lia) ⟨_,i.lI (eM.Bw (k':=.fg C dx at_ cx<|O T) i.toiO h e (.inl Z) (gF ..) (λik=>⟨gk (L.setIfInBounds 1<|.ref T) sl g ?_ ?_ ?_,ns.wQ ik<|gf _ _<|lF n⟩) Z λo e=>by exact nq Internal.cP.ctorIdx e ff),q _⟩
 .simpa using d
 .refine rr (kl dc) ?_;exact f
 .refine rr (vp<|by lia) ?_;rfl
theorem n9{e:a8}{fr:Option a8}{Q:Unit->N->bG->Prop}(h:Wo e Y)(i:de c J Y s)(q:∀s',Q () Y s'):W c J Y s (setFlight (.ref e) fr) Q E:=by
 refine uj h λC dx b d tb h a=>Fy h i ?_;induction tb with
 |none=>exact W.j' i<|q _
 |some T=>exact adl (a T Z) i q
theorem QW{Q:bb->N->bG->Prop}(ok:hW c)(i:de c J Y s)(q:∀v s',Q v Y s'):W c J Y s (sa c.bc) Q E:=by
 refine iT (ok.AH) λb d vs a f j=>?_;have e:sa c.bc=sa b:=by unfold sa;exact rr j Z
 refine rr e<|i.frs λl k h=>?_;obtain rfl:=aJ<|a▸k;have ff:s.heap.FunFrames (⟨#[],{}⟩:j9) (b::d):=by
  have:∀l:List Env,(∀e∈l,e.scope.kind≠.module/\∃vs o es n,e.frame=O vs/\s.heap.get? vs=O o/\o.data=.dict es n/\c.g.iW.get? vs=X/\Y vs=X)->s.heap.FunFrames (⟨#[],{}⟩:j9) l:=by
   intro l;induction l with
   |nil=>exactλU=>trivial
   |cons x r m=>
    intro h;exact sk (h x<|.head _) λa1 vs o es n p t z=>fw z λu U=>dW a1 (gk vs o p Z t (λL q=>by replace q:=u.symm.trans q;exact nq gz q ff))<|m λy w=>h y<|.tail _ w
  exact this _ h
 refine wpAny_frameOf_fun a ff f λh' A=>⟨Y,i.lI<|.Ws i.toiO ?_,q _ _⟩;unfold rS;exact rr a A
theorem N4{a1 a2 a3 a4 a5:bb}{pl:List bb}{f:bb->Sem α}{Q:α->N->bG->Prop}(h:IsPlace pl)(i:de c J Y s)(k:∀T s',Y T=X->de c J (Y.aX T .Kh) s'->W c J (Y.aX T .Kh) s' (f<|.ref T) Q E):W c J Y s (t9 a1 a2 a3 a4 a5 pl>>=f) Q E:=by refine .bJ (R:=λv a s'=>W c J a s' (f v) Q E) ?_ λU U U U q=>q;unfold t9 newFields;refine iR ?_<|h.sizeOk5 _ _ _ _ _;refine(λst:dh c Y s J (Y.aX s.heap.objs.size .Kh) _=>⟨_,st,k _ _ (i.gx<|dZ _) st.cm⟩)<|i.lI<|.oE i.toiO (.nf s _ s.toks) (dZ _) ?_ Z;exact gk _ _ (cJ _ Z) Z Z (by simp only [g6,aY,gP,List.length_nil];lia)
theorem adm{e T:a8}{tb:Option a8}(h:Y e=O (.fg C dx at_ cx tb))(d:∀T,tb=O T->Y T=O .Kh)(a:Y T=X): (Y.aX T .Kh) e=O (.fg C dx at_ cx tb)/\Lv e Y ((Y.aX T .Kh).aX e<|.fg C dx at_ cx<|O T):=
 have ne:e≠T:=λz=>iF _<|h.symm.trans<|(aH Y z).trans a
 ⟨(N.da _ _ ne).trans h,sq C dx at_ cx tb (O T) h ⟨N.aM ..,d,λg f=>rl (aJ f)<|(N.da _ _ ne.symm).trans<|N.aM ..⟩,
  λb k nb c=>(N.da _ _ nb).trans<|(N.da _ _ λz=>iF _<|c.symm.trans<|(aH Y z).trans a).trans c⟩
def Tbd(e:a8)(Y:N):Prop:=∃C dx at_ cx T,Y e=O (.fg C dx at_ cx<|O T)
theorem tn{e:a8}{Q:Unit->N->bG->Prop}(ok:hW c)(h:Wo e Y)(i:de c J Y s)(q:∀b s',Lv e Y b->Tbd e b->Q () b s'):W c J Y s (noteFrame (.ref e) c.bc) Q E:=by
 refine uj h λC dx d f tb h a=>iT ok.AH λn o vs p g j=>?_;unfold noteFrame;refine rr j<|rr g<|Fy h i ?_;have r:∀{s:bG},de c J Y s->W c J Y s (do setField (.ref e) 1 (<-t9 (HB tb) (<-sa c.bc) .none (rawInt vs) .none (<-entryPlaceOf vs (HB tb !=.none)))) Q E:=λi=>
  .bs (QW ok i λv s'=>rfl) λv s st=>wpAny_bind (wpAny_entryPlaceOf λu k=>N4 k st.cm λT s' m i=>fw (adm h a m) λh' l=>
   aga h' i λs'=>q _ s' l<|AF C dx d f T<|N.aM ..)
 induction tb with
 |none=>exact r i
 |some T=>
  exact aag (a T Z) i λv=>iteInduction (motive:=λt=>W c J Y s t Q E) (λU=>W.j' i<|q Y _ (Wo.lv<|uk C dx d f _ h a)<|AF C dx d f T h) λU=>.bs (adl (a T Z) i λU=>rfl) λU s₂ st=>r st.cm
theorem QX{e:a8}{Q:Unit->N->bG->Prop}(ok:hW c)(h:Wo e Y)(i:de c J Y s)(q:∀a s',Lv e Y a->Q () a s'):W c J Y s (leaving c.bc<|.ref e) Q E:=W.bJ (R:=λv a s'=>Lv e Y a) (tn ok h i λa s' l U=>l) λU a s' st l=>n9 l.fly st.cm λs'=>q a s' l
end
set_option backward.match.sparseCases true
structure pT(A:kr)(hd:Option a8)(n:Nat):Prop where
 AI:A.depth+n<=900
 AJ:A.units+10*n<=9000
 gp:A.handled=hd.map .ref
variable{hd:Option a8}
theorem pT.lt(r:pT A hd n):A.depth<recursionLimit:=by have:=r.AI;show _<1000;lia
theorem pT.QY(r:pT A hd n)(env:Env)(h:m+1<=n):pT (A.deeper env) hd m:=⟨by have:=r.AI;show A.depth+1+m<=900;lia,by have:=r.AJ;show A.units+3+10*m<=9000;lia,r.gp⟩
theorem pT.Fz(r:pT A hd n):A.units+100<ll:=by have:=r.AJ;show _<9900;lia
noncomputable def xC:V->bb
 |.S a=>.ref a
 |.fK n=>.type n
 |.eH n=>.builtin n
 |_=>.none
noncomputable def FA:V->Bool
 |.S _|.fK _|.eH _=>D
 |_=>bk
theorem Wv{f:V}(r:cY h f v)(i:FA f=D):v=xC f:=by
 revert r i;cases f with
 |S a=>exactλr U=>fG r
 |fK a=>exactλr U=>vD r
 |eH a=>exactλr U=>Wk r
 |_=>exactλU i=>nq bP i ff
def Kp(g:Gd)(f:bb):Prop:=∀h,g.K.In h->∃k,(k=Keeper.frame\/k=Keeper.machine)/\vX g.M h (keeperOf f) k
theorem mL(x:String):Kp g (.builtin x):=λh U=>bX .machine (.inr Z)<|oX rfl
theorem AK(x:String):Kp g (.type x):=λh U=>bX .machine (.inr Z)<|oX rfl
theorem Ww{f:bb}(a:A8 g.K f=D):Kp g f:=λh aG=>looks_keep a aG
set_option genInjectivity false in
structure mM where
 g:Gd
 hd:Option a8
 n:Nat
inductive Cq(g:Gd)(A:kr)(Y:N)(s:bG)(Q:aj)(v:bb)(s':bG):Prop where
 |mk (c8:N) (u:V) (x:eM g A Y s c8 s') (r:cY s'.heap u v) (q:Q u c8)
inductive Cx(g:Gd)(A:kr)(Y:N)(s:bG)(E:Ex)(e:bb)(s':bG):Prop where
 |mk (ea:a8) (c8:N) (z:e=.ref ea) (x:eM g A Y s c8 s') (q:Cl E ea () c8)
def Cr(g:Gd)(A:kr)(Y:N)(s:bG)(Q:aj)(E:Ex)(r:Fb)(s':bG):Prop:=match r with
 |.ok (.ret v)=>Cq g A Y s Q v s'
 |.ok _=>False
 |.error e=>Cx g A Y s E e s'
inductive Vq(Q:aj)(v:bb)(Y:N)(s:bG):Prop where
 |mk (u:V) (r:cY s.heap u v) (q:Q u Y)
inductive Lq(Q:aw->N->Prop)(v:List bb)(Y:N)(s:bG):Prop where
 |mk (u:aw) (r:eX s.heap u v) (q:Q u Y)
def adn(g:Gd)(A:kr)(Y:N)(s:bG)(t:Sem bb)(Q:aj)(E:Ex):Prop:=ee g.M A t (Cq g A Y s Q) (Cx g A Y s E) s
def bE(Γ:mM)(f:V)(args:aw)(Y:N)(Q:aj)(E:Ex):Prop:=FA f=D/\Kp Γ.g (xC f)/\∀(A:kr) (s:bG) (L:List bb),iO Γ.g A Y s->pT A Γ.hd Γ.n->eX s.heap args L->adn Γ.g A Y s (call (xC f) L) Q E
def sy(Γ:mM)(f:V)(args:aw)(Y:N)(Q:aj)(E:Ex):Prop:=FA f=D/\Kp Γ.g (xC f)/\∀(A:kr) (s:bG) (L:List bb),iO Γ.g A Y s->pT A Γ.hd Γ.n->eX s.heap args L->JC Γ.g.M A (.call (xC f) ⟨L,[]⟩) (Cr Γ.g A Y s Q E) s
variable{Γ:mM} {args:aw} {Q:aj}
theorem sy.spec{f:V}{E:Ex}(h:sy Γ f args Y Q E):bE Γ f args Y Q E:=(dW h.1 h.2.1 (λA s L i r e=>A9 (mZ (h.2.2 A s L i r e) λr s' x=>(by
 induction r with
 |error e=>exact x
 |ok f=>induction f<;>exact x))))
theorem W.jA{c:dC}{J:bw}{f:V}{E:Ex}(h:bE Γ f args Y Q E)(b:Γ.g=c.g)(d:pT c.A Γ.hd Γ.n)(i:de c J Y s)(j:eX s.heap args L):
 W c J Y s (ac4 (xC f) L) (Vq Q) E:=by
 obtain⟨g,hd,n⟩:=Γ;dsimp only at b;subst b;exact wpAny_mono (h.2.2 c.A s L i.toiO d j) (λv s' ⟨a,u,x,r,q⟩=>⟨a,i.lI x,u,r,q⟩) λe s' ⟨ea,a,z,x,q⟩=>⟨ea,a,z,i.lI x,q⟩
def VE(c:dC)(J:bw)(Y:N)(t:Sem bb)(Q:aj)(E:Ex):Prop:=∀s,de c J Y s->W c J Y s t (Vq Q) E
def VL(c:dC)(J:bw)(Y:N)(t:Sem (List bb))(Q:aw->N->Prop)(E:Ex):Prop:=∀s,de c J Y s->W c J Y s t (Lq Q) E
def VT(c:dC)(J:bw)(Y:N)(t:Sem Bool)(Q:ag)(E:Ex):Prop:=∀s,de c J Y s->W c J Y s t (λv c8 s'=>Q v c8) E
set_option genInjectivity false in
inductive VF where
 |eR|Ea|mN|j7 (v:V)
def QZ(h:j9):VF->ZW->Prop
 |.eR,f=>f=.next
 |.Ea,f=>f=.brk
 |.mN,f=>f=.cont
 |.j7 v,f=>∃u,f=.ret u/\cY h v u
inductive Fq(Q:VF->bw->N->Prop)(f:ZW)(J:bw)(Y:N)(s:bG):Prop where
 |mk (u:VF) (r:QZ s.heap u f) (q:Q u J Y)
def VS(c:dC)(J:bw)(Y:N)(t:Sem ZW)(Q:VF->bw->N->Prop)(E:oZ):Prop:=∀s,de c J Y s->WS c Y s t (Fq Q) E
theorem QZ.cp(k:IK h h'){x:VF}{f:ZW}(r:QZ h x f):QZ h' x f:=by
 induction x with
 |j7 v=>refine cK r λu e r=>?_;exact bX u e<|r.cp k
 |_=>exact r
variable{Q':aj} {pos:Pos}
section
variable{c:dC} {J:bw} {E:Ex}
theorem VE.cp{t:Sem bb}{E':Ex}(h:VE c J Y t Q E)(b:∀v a,Q v a->Q' v a)(d:∀e a,E e () a->E' e () a):VE c J Y t Q' E':=λs i=>(h s i).cp (λv a s' U ⟨u,r,q⟩=>⟨u,r,b _ _ q⟩) d
theorem VL.cp{t:Sem (List bb)}{Q Q':aw->N->Prop}{E':Ex}(h:VL c J Y t Q E)(b:∀v a,Q v a->Q' v a)(d:∀e a,E e () a->E' e () a):VL c J Y t Q' E':=λs i=>(h s i).cp (λv a s' U ⟨u,r,q⟩=>⟨u,r,b _ _ q⟩) d
theorem VT.cp{t:Sem Bool}{Q Q':ag}{E':Ex}(h:VT c J Y t Q E)(b:∀v a,Q v a->Q' v a)(d:∀e a,E e () a->E' e () a):VT c J Y t Q' E':=λs i=>(h s i).cp (λv a s' U q=>b _ _ q) d
theorem VS.cp{t:Sem ZW}{Q Q':VF->bw->N->Prop}{E E':oZ}(h:VS c J Y t Q E)(b:∀v eP a,Q v eP a->Q' v eP a)(d:∀e eP a,E e eP a->E' e eP a):VS c J Y t Q' E':=λs i=>(h s i).cp (λv eP a s' U ⟨u,r,q⟩=>⟨u,r,b _ _ _ q⟩) d
theorem VL.jr{Q:aw->N->Prop}(q:Q [] Y):VL c J Y (mA []) Q E:=λs i=>W.j' i ⟨[],iA,q⟩
theorem VL.gu{x:Sem bb}{rest:List (Bool×Sem bb)}{Q:aw->N->Prop}(h:VE c J Y x (λv a=>VL c J a (mA rest) (λL=>Q<|v::L) E) E):VL c J Y (mA<|(bk,x)::rest) Q E:=λs i=>by
 show W c J Y s (do let v<-x;let d<-(jg [v]:Sem (List bb));return d++(<-jL d (mA rest))) _ E;refine W.bJ (h s i) λv a s' st b=>?_;obtain⟨u,r,q⟩:=b;show W c J a s' (do let y<-jL [v] (mA rest);jg ([v]++y)) _ E;refine W.bJ (W.fM<|q s' st.cm) λL j k e b=>?_;obtain⟨us,f,g⟩:=b;exact W.j' e.cm ⟨u::us,fQ (r.cp e.ik) f,g⟩
theorem Eb{f:bb}{ts:List (Bool×Sem bb)}{Q:aw->N->Prop}(i:de c J Y s)(e:ts.any (·.1)=bk)(h:VL c J Y (mA ts) Q E):W c J Y s (evalArgs f D ts []) (λa d s'=>a.kw=[]/\Lq Q a.pos d s') E:=by
 have k:∀ts:List (Bool×Sem bb),VL c J Y (mA ts) Q E->W c J Y s (mA ts>>=λL=>jL (L++[])<|jg (⟨L,[]⟩:Args)) (λa d s'=>a.kw=[]/\Lq Q a.pos d s') E:=λts h=>
  W.bJ (h s i) λL d s' st ⟨us,r,q⟩=>W.fM<|W.j' st.cm ⟨Z,us,r,q⟩
 induction ts with
 |nil=>exact k [] h
 |cons p r=>
  obtain⟨b,x⟩:=p;have g:b=bk:=by simp at e;exact e.1
  clear e;subst g;exact k _ h
theorem Ec{f:V}{f':bb}{fst:aw}{first:List bb}{ts:List (Bool×Sem bb)}(i:de c J Y s)(d:Γ.g=c.g)(e:pT c.A Γ.hd Γ.n)(m:cY s.heap f f'\/f'=xC f)(p:eX s.heap fst first)(j:ts.any (·.1)=bk)(h:VL c J Y (mA ts) (λL b=>bE Γ f (fst++L) b Q E) E):W c J Y s (callWith pos f' first ts []) (Vq Q) E:=by
 refine W.bJ (W.fM<|Eb i j h) λa b s' st ⟨u,us,v,q⟩=>?_;obtain⟨L,z⟩:=a;clear h;refine rr u ?_;obtain rfl:f'=xC f:=m.elim (λr=>Wv r q.1) id;refine W.ki ?_;have go:=W.jA (L:=first++L) q d e st.cm ((p.cp st.ik).oL v);have l:∀{t:Sem bb} {s':bG} {b:N},W c J b s' t (Vq Q) E->W c J b s' (t>>=λr=>jL [r] JQ>>=λU=>jg r) (Vq Q) E:=
  λj=>W.bJ j λr w xs x e=>wpAny_bind<|eY<|wpAny_point<|bZ ⟨w,.cL x.cm,e⟩
 refine cK (q.2.1 s'.heap<|d▸st.cm.vE) λk y vs=>?_;have o:vX c.M s'.heap (keeperOf<|xC f) k:=by
  obtain⟨g,hd,n⟩:=Γ;dsimp only at d vs;subst d;exact vs
 refine lb o ?_;rw [(by refine rr j ?_;rfl:(ts.any (·.1)||([]:List (Option Str×Sem bb)).any (·.1.isNone))=bk)];clear vs o e q m
 rcases y with rfl|rfl
 .show ee _ _ (if ts.length+2*([]:List (Option Str×Sem bb)).length>30 then(do let r<-ac4 (xC f) (first++L) [];jL [r] JQ;jg r)else(do let r<-callMarked plainCall (xC f) (first++L) [];jL [r] JQ;jg r)) _ _ _;split
  .exact l go
  .exact l<|W.fk go
 .exact l go
end
structure Q0(K:nH)(f:a8)(qual:Str)(params:zE)(body:List lp)(scope:Scope)(ds:aw)(fd:V2)(yE:bb):Prop where
 at_:∃oc od osl,K.lookup f=O ⟨oc,od,.func fd,osl⟩
 fd_:∃name dV kV doc pm an ct,fd=fnX name qual params body scope [] dV kV doc pm an yE ct
 code:codeIn K yE qual=D
 tv:match ds with
  |[]=>fd.defaults=.none
  |_=>∃T oc od n sl,∃L:List bb,fd.defaults=.ref T/\K.lookup T=O ⟨oc,od,.seq L.toArray n,sl⟩/\∀h:j9,K.In h->eX h ds L
noncomputable def Bz(f:a8)(qual:Str)(scope:Scope)(yE:bb)(vs:a8):Env:={scope:=scope,locals:=vs,globals:=gC,cells:=fy (vs+1) scope.names [],qual:=qual++".<locals>.",func:=O f,code:=yE,frame:=O vs,builtins:=nV}
def Aj(g:Gd)(A:kr)(f:a8)(qual:Str)(scope:Scope)(yE:bb)(names:List Str)(vs:a8):dC:=⟨g,A.deeper<|Bz f qual scope yE vs,Bz f qual scope yE vs,names,(fy (vs+1) scope.names []).map (·.2)⟩
structure aah(scope:Scope)(ps ls:List Str):Prop where
 fn:scope.kind=.function
 co:scope.isCoroutine=bk
 gen:scope.isGenerator=bk
 par:(ps.all λy=>scope.names.lookup y==O .local||scope.names.lookup y==O .cell)=D
 nd:((fy 0 scope.names []).map (·.1)).Nodup
 cc:((fy 0 scope.names []).all λp=>scope.names.lookup p.1==O .cell)=D
 nb:(ps++ls).Nodup
 rj:((ps++ls).all λy=>scope.names.lookup y==O .local||(scope.names.lookup y==O .cell&&((fy 0 scope.names []).lookup y).isSome))=D
 uw:((ps++ls).all λy=>!(y==("__debug__":Str))&&!(y==("__classdict__":Str)))=D
variable{kindOf:Str->Option gn}
theorem Kk{x:Str}:∀(b:List (Str×bb)) (m:Str->Option bb),(b.map (·.1)).Nodup->b.lookup x=O v->kindOf x=O .local->bindL kindOf b m x=O v:=by
 intro l;induction l with
 |nil=>
  intro U U h U;exact nq aP h ff
 |cons f r i=>
  obtain⟨n,u⟩:=f;intro m a h d;rw [eL,qb]at a;rw [eS]at h;by_cases e:x=n
  .subst e;simp at h;refine rr h ?_;have s:∀(r:List (Str×bb)) (m:Str->Option bb),x∉r.map (·.1)->bindL kindOf r m x=m x:=by
    intro r;induction r with
    |nil=>intro m _;rfl
    |cons p r i=>
     obtain⟨g,j⟩:=p;intro m c;simp only [eL,xq,not_or]at c;refine bL (i _ c.2) ?_;split<;>simp [c.1]
   refine bL (s r _ a.1)<|rr (bI d) ?_;simp
  .have:(x==n)=bk:=by simpa using e
   replace h:=this▸h;exact i _ a.2 h d
theorem Kl{x:Str}:∀(b:List (Str×bb)) (m:Str->Option bb),(b.map (·.1)).Nodup->b.lookup x=O v->kindOf x≠O .local->bindC kindOf b m x=O v:=by
 intro l;induction l with
 |nil=>
  intro U U h U;exact nq aP h ff
 |cons f r i=>
  obtain⟨n,u⟩:=f;intro m a h d;rw [eL,qb]at a;rw [eS]at h;by_cases e:x=n
  .subst e;simp at h;refine rr h ?_;have s:∀(r:List (Str×bb)) (m:Str->Option bb),x∉r.map (·.1)->bindC kindOf r m x=m x:=by
    intro r;induction r with
    |nil=>intro m _;rfl
    |cons p r i=>
     obtain⟨g,j⟩:=p;intro m c;simp only [eL,xq,not_or]at c;refine bL (i _ c.2) ?_;split<;>simp [c.1]
   refine bL (s r _ a.1)<|rr (bu d) ?_;simp
  .have:(x==n)=bk:=by simpa using e
   replace h:=this▸h;exact i _ a.2 h d
theorem FC:∀{l:List (Str×α)} {x:Str} {a:α},(l.map (·.1)).Nodup->(x,a)∈l->l.lookup x=O a:=by
 intro c;induction c with
 |nil=>
  intro U U U h;cases h
 |cons d r i=>
  obtain⟨y,b⟩:=d;intro x a n h;rw [eL,qb]at n;refine bL (eS) ?_
  rcases mc h with e|e
  .clear h;clear n;refine fw (qZ e) λz g=>rr z<|rr g ?_;simp
  .have:x≠y:=by rintro rfl;exact n.1 (dm (f:=(·.1)) e)
   have:(x==y)=bk:=by simpa using this
   exact rr this<|i n.2 e
theorem zK{bs:List (Str×bb)}(n:(bs.map (·.1)).Nodup){x:Str}(h:(bs.map (·.1))[i]?=O x)(a:(bs.map (·.2))[i]?=O v):bs.lookup x=O v:=by
 rw [bz]at h a;cases e:bs[i]? with
 |none=>replace h:=e▸h;exact nq aP h ff
 |some p=>
  rw [e]at h a;simp at h a;subst h a;exact FC n<|aW e
theorem HF{ps ls:List Str}(c:ps.length=args.length){x:Str}{v:V}(b:(ps++ls)[i]?=O x)(a:(args.map O++bg ls.length X)[i]?=O (O v)):ps[i]?=O x/\args[i]?=O v:=by
 by_cases h:i<args.length
 .replace b:=(fX<|rr c h).symm.trans b;replace a:=(bz)▸(fX<|cI h (aT ..).symm)▸a;refine⟨b,?_⟩;cases e:args[i]? with
  |none=>replace a:=e▸a;exact nq aP a ff
  |some w=>replace a:=e▸a;simpa using a
 .rw [eN (by simpa using gS h),kM]at a;split at a<;>simp at a
variable{qual:Str} {scope:Scope} {yE:bb} {s₁:bG}
theorem N5{f:a8}{bs:List (Str×bb)}{ls:List Str}(i:iO g A Y s) (c:aah scope (bs.map (·.1)) ls) (C:eX s.heap args (bs.map (·.2)))(x:InCallC s s.heap.objs.size (bindL (Bz f qual scope yE s.heap.objs.size).kindOf bs λU=>X) (fy (s.heap.objs.size+1) scope.names []) (bindC (Bz f qual scope yE s.heap.objs.size).kindOf bs λU=>X) s₁):
 de (Aj g A f qual scope yE (bs.map (·.1)++ls) s.heap.objs.size) (args.map O++bg ls.length X) Y s₁/\hW (Aj g A f qual scope yE (bs.map (·.1)++ls) s.heap.objs.size):=by
 have keep:=x.toInCall.keep;have ik:IK s.heap s₁.heap:=λa o e U=>keep a o e;have u:(fy (s.heap.objs.size+1) scope.names []).map (·.1)=(fy 0 scope.names []).map (·.1):=cellsFrom_names scope.names _ 0 [] [] Z;have aG:(bs.all λy=>scope.names.lookup y.1==O .local||scope.names.lookup y.1==O .cell)=D:=by
  have:=c.par;replace this:=(ub).symm.trans this;exact this
 have σ:=kindsX aG;have nb:(bs.map (·.1)).Nodup:=(List.nodup_append.mp c.nb).1;have aZ:(bs.map (·.1)).length=args.length:=by refine rl (C.ez) ?_;simp
 have aB:∀y a,(fy (s.heap.objs.size+1) scope.names []).lookup y=O a->scope.names.lookup y=O .cell:=λy a h=>by
  have aO:y∈(fy 0 scope.names []).map (·.1):=u▸dm (f:=(·.1)) (eI h);clear h ik x;refine vB aO λm r=>?_;obtain⟨y',P⟩:=m;have:=la c.cc _ r;simpa using this
 refine i.frs λl hl hfr=>have Q:(A.deeper<|Bz f qual scope yE s.heap.objs.size).frames=O (Bz f qual scope yE s.heap.objs.size::l):=vq hl;⟨⟨⟨λa k h=>?_,i.ie,λb o e=>keep b o<|i.fk b o e,i.cu,bX _ Q λe E=>?_,?_,i.Du⟩,bX _ x.toInCall.ns λj y v p F hc=>?_,λy a hm=>?_,⟨i.gx<|dZ _,λa w=>?_⟩,i.qr<|dZ _,λa w=>⟨?_,w⟩⟩,⟨c.fn,Z,Z,c.nb,?_,?_,λy p=>?_,λy p=>?_,jX _ _ _ Q Z Z⟩⟩
 .have H:=i.gD a k h;exact cK (H.kZ) λo t U=>H.n7 ik ((keep a o t).trans t.symm) λd hd=>cK ((i.gD d _<|i.ie a k d h hd).kZ) λo' R U=>(keep d o' R).trans R.symm
 .clear ik
  rcases mc E with rfl|E
  .exact iT (x.toInCall.ns) λo es ep t hd U=>vy (by show scope.kind≠_;refine rr (c.fn) ?_;exact dc) _ o es ep Z t ⟨hd,i.qr<|dZ _,i.gx<|dZ _⟩
  .exact sk (hfr e E) λa1 vs o es n a2 a3 m=>m7 m λa4 a5 a6=>vy a1 vs o es n a2 (keep _ _ a3) ⟨a4,a5,a6⟩
 .clear keep;clear ik;exact j6 (x.done) λh' tk m U=>rr m i.m8
 .refine fw (HF aZ p F) λG I=>cK (C.at I) λxs ρ K=>have aE:=zK nb G ρ;(bX xs (Kk bs _ nb aE ?_)<|K.cp ik);clear keep;clear p ik x
  rcases σ (s.heap.objs.size+1) (y,xs) (eI aE)with q|⟨_,q⟩
  .exact q
  .replace q:=(show(fy (s.heap.objs.size+1) scope.names []).lookup y=X from hc)▸q;exact nq bP q ff
 .have T:(fy (s.heap.objs.size+1) scope.names []).lookup y=O a:=ly (u▸c.nd) hm;refine cK (x.cell y a T) λo t hd=>fe o _ t hd λj v p F=>?_;refine fw (HF aZ p F) λG I=>cK (C.at I) λxs ρ K=>bX xs (Kl bs _ nb (zK nb G ρ) ?_)<|K.cp ik;intro z;have M:scope.names.lookup y=O .local:=z;replace M:=(aB y a T).symm.trans M;cases M
 .clear ik keep;refine vB w λm r=>?_;obtain⟨y,b⟩:=m;have:=x.above y b r;exact⟨i.gx<|d6<|dH this,mC this⟩
 .clear ik keep;refine vB w λm r=>?_;obtain⟨y,b⟩:=m;exact i.qr<|d6<|dH<|x.above y b r
 .exact rr u c.nd
 .refine ri (q5)<|ri (zF) ?_;exact x.apart
 .have h:=la c.rj y p;simp only [hX,eT,beq_iff_eq]at h;clear ik keep x;clear p
  rcases h with h|⟨h,h'⟩
  .refine .inl ⟨h,?_⟩;show(fy (s.heap.objs.size+1) scope.names []).lookup y=X;cases q:(fy (s.heap.objs.size+1) scope.names []).lookup y with
   |none=>rfl
   |some a=>replace h:=(aB y a q).symm.trans h;cases h
  .refine .inr ⟨.inl h,?_⟩;show∃a,(fy (s.heap.objs.size+1) scope.names []).lookup y=O a;refine ka (Option.isSome_iff_exists.mp h') λa0 W=>?_;have aO:y∈(fy (s.heap.objs.size+1) scope.names []).map (·.1):=by refine rr u ?_;exact dm (f:=(·.1))<|eI W
   clear h' W;clear h;refine vB aO λm r=>?_;obtain⟨y',P⟩:=m;exact⟨P,ly (u▸c.nd) r⟩
 .simpa using(la c.uw y p)
theorem g8{f:a8}{names:List Str}{eP:bw}(i:iO g A Y s)(keep:∀b o,s.heap.get? b=O o->s₁.heap.get? b=O o) (os:s₁.os=s.os) (m:∀y b,(y,b)∈fy (s.heap.objs.size+1) scope.names []->s.heap.objs.size<b)(x:dh (Aj g A f qual scope yE names s.heap.objs.size) Y s₁ eP c8 s'):eM g A Y s c8 s':=by
 refine i.frs λl c U=>?_;have JR:∀b,s₁.heap.get? b=X->s.heap.get? b=X:=λb e=>by
  cases q:s.heap.get? b with
  |none=>rfl
  |some o=>replace e:=(keep b o q).symm.trans e;exact nq aP e ff
 refine⟨⟨x.cm.gD,x.cm.ie,x.cm.fk,x.cm.cu,?_,x.cm.m8,i.Du⟩,dW (λb e=>JR b<|x.tR.1 b e) (λa o e p=>x.tR.2.1 a o (keep a o e) p) λb o e n=>?_,λb k h=>?_,x.os.trans os⟩
 .refine x.cm.frs λr j h=>?_;have:r=Bz f qual scope yE s.heap.objs.size::l:=by
   have:=vq (env:=Bz f qual scope yE s.heap.objs.size) c;exact aJ<|j.symm.trans this
  clear j;subst this;exact bX l c λe t=>h e<|.tail _ t
 .have lt:=fN e;have no:¬(Aj g A f qual scope yE names s.heap.objs.size).uo Y b:=by
   rintro(q|q|q)
   .exact n q
   .exact cM (q▸lt)<|iG _
   .clear n;clear e;refine mm q λz u v=>?_;obtain⟨y,b'⟩:=z;obtain rfl:=v;exact cM (mD lt<|m y b' u)<|iG _
  refine fw (x.tR.2.2 b o (keep b o e) no) λw xs=>⟨λC=>w λd=>C ?_,xs⟩;have:rS (Aj g A f qual scope yE names s.heap.objs.size).A=s.heap.objs.size::rS A:=by
   unfold rS;refine rr (vq c)<|rr c ?_;rfl
  replace d:=this▸d;clear e n
  rcases mc d with q|q
  .exact cM (q▸lt)<|iG _
  .exact q
 .rcases x.Fw b k h with q|q
  .exact .inl q
  .exact .inr<|JR b q
noncomputable def aai:VF->V
 |.j7 v=>v
 |_=>.bR
variable{body:List lp} {ds:aw} {fd:V2} {args':aw}
theorem sy.Wx{f:a8}{params:zE}{ps ls:List Str}{E:Ex} (k:Q0 g.K f qual params body scope ds fd yE) (xs:Kp g (.ref f)) (b:aah scope ps ls)(o:∀L s,eX s.heap args L->g.K.In s.heap->∃bs,BindsTo s fd ⟨L,[]⟩ bs/\bs.map (·.1)=ps/\eX s.heap args' (bs.map (·.2)))(h:∀A vs,pT (A.deeper<|Bz f qual scope yE vs) hd n->hW (Aj g A f qual scope yE (ps++ls) vs)->VS (Aj g A f qual scope yE (ps++ls) vs) (args'.map O++bg ls.length X) Y (Ay body<|Bz f qual scope yE vs) (λfl eP a=>Q (aai fl) a) (λe eP a=>E e () a)):sy ⟨g,hd,n+1⟩ (.S f) args Y Q E:=(dW Z xs (λA s L i r e=>by
 refine hV (o L s e i.vE) λbs C aO F=>xA (k.at_) λP od R G=>n4 (k.fd_) λname aE T W aG an σ c=>?_;clear o;subst aO;have H:(bs.all λy=>scope.names.lookup y.1==O .local||scope.names.lookup y.1==O .cell)=D:=by
  have:=b.par;replace this:=(ub).symm.trans this;exact this
 refine codeAny_call_function (body:=body) r.lt (i.vE _ _ G) Z (rr c b.co) (rr c b.gen) (rr c Z) (rr c<|codeRec_of i.vE k.code)<|C _ _ _ _ ?_;refine rr c<|wpAny_newFunctionEnv_cells b.fn (λx I=>kindsX H _ x I) λρ p s₁ x=>have M:ρ=Bz f qual scope yE s.heap.objs.size:=p;?_;clear p;subst M;have keep:=x.toInCall.keep;refine⟨i.yU.keeps keep,codeAny_func ?_⟩;refine fw (N5 i b F x) λinv ok=>have t:∀{eP a s'},dh (Aj g A f qual scope yE (bs.map (·.1)++ls) s.heap.objs.size) Y s₁ eP a s'->eM g A Y s a s':=λy=>g8 i keep (by(refine j6 (x.done) λh' tk m U=>?_;refine rr m ?_);rfl:s₁.os=s.os) x.above y;?_;refine wpAny_mono (h A s.heap.objs.size (r.QY _<|bO _) ok s₁ inv) (λfl s' ⟨eP,a,y,u,d,q⟩=>?_) λev s' ⟨ea,eP,a,z,y,q⟩=>?_
 .refine⟨a,aai u,t y,?_,q⟩;clear keep x;clear q;induction u with
  |j7 v=>(refine cK d λw m rw=>?_;refine rr m ?_);exact rw
  |eR=>refine rr d ?_;exact oD
  |Ea=>refine rr d ?_;exact oD
  |mN=>refine rr d ?_;exact oD
 .clear keep x;exact rr z<|wpAny_mono (QX (E:=λU U U=>False) (Q:=λU j U=>Lv ea a j) ok q.1 y.cm λj aZ l=>l) (λU aZ ⟨j,aB,l⟩=>⟨ea,j,Z,t<|y.aU aB,(q.lv l).cp λU U h=>h⟩) λU U ⟨_,_,_,_,q⟩=>q.now.elim))
set_option backward.match.sparseCases false
set_option genInjectivity false in
inductive CE where
 |dR (i:Nat)
 |dT (v:V)
 |fh (op:lZ) (l r:CE)
 |jb (e:CE)
 |dN (op:qc) (l r:CE)
 |pU (o1 o2:qc) (l m r:CE)
 |pK (op:BoolOp) (es:List CE)
 |mh (e:CE)
 |cA (t a b:CE)
 |bK (e:CE) (i:Nat)
 |cW (e i:CE)
 |eC (e:CE) (lo hi:Option CE)
 |jA (f:CE) (args:List CE)
 |cH (o:CE) (i:Nat) (args:List CE)
 |aF (es:List CE)
 |bD (es:List CE)
 |cQ (ks:aw) (L:List CE)
 |iB (elt:CE) (t:aq) (iter:CE) (ifs:List CE) (ux:List (Option Nat))
set_option genInjectivity false in
inductive CT where
 |dR (i:Nat)
 |bD (is:aq)
 |bK (e:CE) (i:Nat)
 |cW (e i:CE)
set_option genInjectivity false in
inductive CS where
 |bY (t:CT) (e:CE)
 |dw (e:CE)
 |j7 (e:Option CE)
 |cA (t:CE) (a b:List CS)
 |nh (t:CE) (body:List CS)
 |HG (t:CT) (it:CE) (body:List CS)
 |BA (i j:Nat) (it:CE) (body:List CS)
 |Km
 |mN
 |pV (e:CE)
 |Ed (body:List CS) (C:a8) (x:Nat) (hb:List CS)
abbrev av:=List CS
noncomputable def ni:ak->KK->au
 |[],_=>X
 |(k,v)::r,x=>if k=x then O v else ni r x
noncomputable def lS:ak->KK->V->ak
 |[],x,v=>[(x,v)]
 |(k,u)::r,x,v=>if k=x then(k,v)::r else(k,u)::lS r x v
noncomputable def Wy:V->V->ai
 |.aL a,.aL b=>O<|decide (a=b)
 |.aQ a,.aQ b=>O<|decide (a=b)
 |.du a,.du b=>O<|decide (a=b)
 |.bR,.bR=>O D
 |.bR,.aL _=>O bk
 |.bR,.aQ _=>O bk
 |.aL _,.bR=>O bk
 |.aQ _,.bR=>O bk
 |.aL _,.aQ _=>O bk
 |.aQ _,.aL _=>O bk
 |_,_=>X
noncomputable def xD:aw->aw->ai
 |x::B,y::ys=>match Wy x y,xD B ys with
  |some p,O q=>O<|p&&q
  |_,_=>X
 |_,_=>O D
noncomputable def xE(a:V):aw->ai
 |[]=>O bk
 |x::B=>match Wy x a,xE a B with
  |some p,O q=>O<|p||q
  |_,_=>X
noncomputable def oN:List (a8×aq):=[(46,[0,1,2]),(95,[3,4]),(107,[3,4]),(234,[5,4]),(424,[14,15]),(504,[16,14,15,17]),(560,[7,8,9,10,11,12,13,18,16,14,15,17,19,20,21,22,23,24,25]),(627,[26]),(741,[27,26])]
def uy(C:a8)(i:Nat):Bool:=match oN.lookup C with
 |some l=>l.contains i
 |none=>bk
noncomputable def lT(C:a8):Bool:=C==95||C==107
def uz(C:a8)(i:Nat):Bool:=uy C i&&!lT C
def xF(C:a8)(i:Nat):Bool:=uy C i&&lT C
noncomputable def HH:List (a8×List (Nat×a8)):=[(234,[(41,131),(42,139),(58,146),(44,153),(55,160),(43,167),(63,203),(67,210),(68,224),(64,231)]),(424,[(70,393),(60,400),(47,407),(48,414),(49,421)]),(504,[(32,466),(62,473),(50,487),(61,494),(29,501)]),(627,[(28,617),(5,624)]),(741,[(57,652),(53,659),(33,666),(54,673),(56,680),(66,688),(65,695),(34,702),(13,710),(31,717),(30,724),(35,731),(36,738)])]
def uA(C:a8)(i:Nat):Option a8:=(HH.lookup C).bind (·.lookup i)
noncomputable def L4(C:a8)(i:Nat):Option a8:=if C=351/\i=39 then O 271 else X
def Kn(C aO:a8):Bool:=lT C&&C==aO
noncomputable def L5:cP:=cP.cQ [(KK.s [110],V.aL<|10),(KK.s [116],V.aL<|9),(KK.s [114],V.aL<|13),(KK.s [102],V.aL<|12),(KK.s [118],V.aL<|11),(KK.s [97],V.aL<|7),(KK.s [98],V.aL<|8)]
noncomputable def FD:cP:=cP.cQ [(KK.s [124,124],V.aL<|1),(KK.s [38,38],V.aL<|2),(KK.s [61,61],V.aL<|3),(KK.s [33,61],V.aL<|3),(KK.s [60],V.aL<|3),(KK.s [60,61],V.aL<|3),(KK.s [62],V.aL<|3),(KK.s [62,61],V.aL<|3),(KK.s [43],V.aL<|4),(KK.s [45],V.aL<|4),(KK.s [42],V.aL<|5),(KK.s [47],V.aL<|5),(KK.s [37],V.aL<|5)]
noncomputable def FE:cP:=cP.cQ [(KK.s [108,101,110],V.aL<|1),(KK.s [105,116,101,109],V.aL<|2),(KK.s [112,117,115,104],V.aL<|2),(KK.s [104,101,97,100],V.aL<|1),(KK.s [114,101,115,116],V.aL<|1),(KK.s [108,97,115,116],V.aL<|1),(KK.s [98,97,99,107],V.aL<|1),(KK.s [116,101,120,116],V.aL<|1),(KK.s [110,117,109,98,101,114],V.aL<|1),(KK.s [99,117,116],V.aL<|3),(KK.s [103,108,117,101],V.aL<|2)]
noncomputable def Ko:cP:=cP.aF [V.aQ [36,101,110,100],V.aQ [101,114,114,111,114],V.aQ [36,117,110,100,101,102,105,110,101,100]]
def aaj:List (a8×cP):=[(22,L5),(564,FD),(565,FE),(746,Ko)]
def xG(a:a8):Option cP:=aaj.lookup a
noncomputable def agb:List (String×V):=[
 ("ACCEPT",V.aL<|1048576),
 ("ActionError",V.S 95),
 ("BARRED",V.aL<|-1048576),
 ("Comb",V.S 424),
 ("Cursor",V.S 234),
 ("FIGURES",V.aQ [48,49,50,51,52,53,54,55,56,57]),
 ("FIRST_NAMES",V.ph 746),
 ("FUNCTIONS",V.ph 565),
 ("HEX_SIGNS",V.aQ [48,49,50,51,52,53,54,55,56,57,97,98,99,100,101,102,65,66,67,68,69,70]),
 ("JUMPS",V.bD [V.aQ [106,117,109,112],V.aQ [117,110,108,101,115,115],V.aQ [119,104,101,110]]),
 ("LEAVING",V.bD [V.aQ [89,89,69,82,82,79,82],V.aQ [89,89,65,66,79,82,84],V.aQ [89,89,65,67,67,69,80,84]]),
 ("LEVELS",V.ph 564),
 ("LineReader",V.S 741),
 ("LineWriter",V.S 627),
 ("MOST_DEPTH",V.aL<|2),
 ("MOST_FIGURES_lines",V.aL<|160),
 ("MOST_FIGURES_source",V.aL<|4000),
 ("NAME_SIGNS",V.aQ [97,98,99,100,101,102,103,104,105,106,107,108,109,110,111,112,113,114,115,116,117,118,119,120,121,122,65,66,67,68,69,70,71,72,73,74,75,76,77,78,79,80,81,82,83,84,85,86,87,88,89,90,95,48,49,50,51,52,53,54,55,56,57]),
 ("OCTAL_SIGNS",V.aQ [48,49,50,51,52,53,54,55]),
 ("PARSER_HEAD",V.aQ [103,114,97,109,109,97,114,109,105,108,108,32,112,97,114,115,101,114,32,49]),
 ("PLAIN_ESCAPES",V.ph 22),
 ("PackedRows",V.S 504),
 ("PackedTables",V.S 560),
 ("Position",V.S 46),
 ("TableError",V.S 107),
 ("Tables",V.S 351),
 ("ToolError",V.S 82),
 ("UNDEFINED",V.aL<|2),
 ("WORDS",V.bD [V.aQ [121,121,101,114,114,111,107],V.aQ [121,121,99,108,101,97,114,105,110],V.aQ [89,89,69,82,82,79,82],V.aQ [89,89,65,66,79,82,84],V.aQ [89,89,65,67,67,69,80,84]]),
 ("_law_actions_off",V.S 846),
 ("_law_code",V.S 834),
 ("_law_draw",V.S 813),
 ("_law_ends_turned",V.S 905),
 ("_law_fine",V.S 874),
 ("_law_gotos_off",V.S 853),
 ("_law_is_refused",V.S 879),
 ("_law_line_items",V.S 886),
 ("_law_made_line",V.S 893),
 ("_law_numbers_turned",V.S 917),
 ("_law_off",V.S 860),
 ("_law_parser",V.S 839),
 ("_law_pen",V.S 806),
 ("_law_pick",V.S 820),
 ("_law_read_back",V.S 898),
 ("_law_rules",V.S 827),
 ("_law_texts_off",V.S 867),
 ("_law_words_turned",V.S 910),
 ("add_rows",V.S 753),
 ("check_code",V.S 593),
 ("escaped",V.S 257),
 ("escaped_sign",V.S 252),
 ("goals_behind",V.S 574),
 ("hex_escape",V.S 245),
 ("is_pair",V.S 588),
 ("look_up",V.S 440),
 ("need_actions",V.S 782),
 ("need_code",V.S 796),
 ("need_gotos",V.S 789),
 ("owners_of",V.S 367),
 ("pack_rows",V.S 433),
 ("packed_rows",V.S 515),
 ("packing_order",V.S 372),
 ("position_of",V.S 57),
 ("read_frame",V.S 775),
 ("read_parser",V.S 801),
 ("read_rows",V.S 761),
 ("row_key",V.S 360),
 ("show_item",V.S 598),
 ("taken_and_put",V.S 581),
 ("write_parser",V.S 768),
 ("Exception",V.fK "Exception"),
 ("abs",V.eH "abs"),
 ("chr",V.eH "chr"),
 ("dict",V.fK "dict"),
 ("enumerate",V.fK "enumerate"),
 ("int",V.fK "int"),
 ("isinstance",V.eH "isinstance"),
 ("len",V.eH "len"),
 ("list",V.fK "list"),
 ("max",V.eH "max"),
 ("min",V.eH "min"),
 ("ord",V.eH "ord"),
 ("range",V.fK "range"),
 ("sorted",V.eH "sorted"),
 ("str",V.fK "str"),
 ("sum",V.eH "sum"),
 ("tuple",V.fK "tuple")]
noncomputable def aak:aw->Option ar
 |[]=>O []
 |.aL n::r=>(aak r).map (n::·)
 |_=>X
noncomputable def wR:aw->Option (List<|ar)
 |[]=>O []
 |.bD B::r=>(aak B).bind λk=>(wR r).map (k::·)
 |_=>X
noncomputable def mi:List (ae×V)->ae->au
 |[],_=>X
 |(k,v)::r,x=>if k=x then O v else mi r x
def dIn(kv:ak)(a:V):ai:=match a with
 |.bD B=>match kv with
  |[]=>(wR B).map λU=>bk
  |_=>X
 |a=>(toK a).map λk=>(ni kv k).isSome
noncomputable def occ(x l:aq):Bool:=!(Builtin.Str.occurrences (tx l) (tx x) 0 l.length 1).isEmpty
noncomputable def mO(B:List α)(k:Int):Option α:=if 0<=k then B[k.toNat]? else if 0<=k+B.length then B[(k+B.length).toNat]? else X
noncomputable def wm(n:Nat)(k:Int):Nat:=if 0<=k then min k.toNat n else(k+n).toNat
def hU(B:List α)(lo hi:ao):List α:=(B.take (match hi with|some k=>wm B.length k|none=>B.length)).drop (match lo with|some k=>wm B.length k|none=>0)
inductive Wz(x y:a8)(Y:N)(Q:aj):Prop where
 |mk {B ys:aw} (h1:Y x=O (.aF B)) (h2:Y y=O (.aF ys)) (z:B.length+ys.length<=cE) (q:∀r,Y r=X->Q (.S r) (Y.aX r<|.aF<|B++ys))
inductive WB(x:a8)(n:Int)(Y:N)(Q:aj):Prop where
 |mk {B:aw} (h1:Y x=O (.aF B)) (h0:0<=n) (hn:n<=100000) (z:B.length<=1) (q:∀r,Y r=X->Q (.S r) (Y.aX r<|.aF (bg n.toNat B).flatten))
def Q1(op:lZ)(x y:Int)(Q:V->Prop):Prop:=match op with
 |.Add=>Q<|.aL<|x+y
 |.Sub=>Q<|.aL<|x-y
 |.Mult=>IntMulOk x y/\Q (.aL<|x*y)
 |.FloorDiv=>y≠0/\Ab x y=bk/\Q (.aL<|x.fdiv y)
 |.Mod=>y≠0/\Q (.aL<|x.fmod y)
 |.Pow=>0<=y/\(iq x:Int)*y<=2^27/\Q (.aL<|x^y.toNat)
 |.RShift=>0<=y/\Q (.aL<|x.fdiv<|2^y.toNat)
 |.BitAnd=>Q<|.aL<|Ba x y
 |_=>False
def Q2(op:lZ)(P:Prop):Prop:=match op with|.Add=>P|_=>False
def Q3(op:lZ)(P:Prop):Prop:=match op with|.Mult=>P|_=>False
def aal(op:lZ)(a b:V)(Y:N)(Q:aj):Prop:=match a with
 |.aL x=>match b with
  |.aL y=>Q1 op x y λv=>Q v Y
  |_=>False
 |.aQ x=>match b with
  |.aQ y=>Q2 op<|x.length+y.length<=cE/\Q (.aQ<|x++y) Y
  |.aL n=>Q3 op<|0<=n/\n<=10000/\x.length<=10/\Q (.aQ (bg n.toNat x).flatten) Y
  |_=>False
 |.S x=>match b with
  |.S y=>Q2 op<|Wz x y Y Q
  |.aL n=>Q3 op<|WB x n Y Q
  |_=>False
 |_=>False
@[irreducible]def Q4(x y:a8)(Y:N):ai:=match Y x,Y y with
 |some (.aF B),O (.aF ys)=>if B.length=ys.length then xD B ys else O bk
 |some (.cQ kv),O (.cQ [])=>O kv.isEmpty
 |_,_=>X
@[irreducible]def eqG(x y:a8)(Y:N):ai:=match Y x,xG y with
 |some (.aF B),O (.aF ys)=>if B.length=ys.length then xD B ys else O bk
 |_,_=>X
def eqV(a b:V)(Y:N):ai:=
 match a,b with
 |.S x,.S y=>Q4 x y Y
 |.S x,.ph y=>eqG x y Y
 |a,b=>Wy a b
@[irreducible]def BB(a:V)(y:a8)(Y:N):ai:=match Y y with
 |some (.aF B)=>xE a B
 |some (.cQ kv)=>dIn kv a
 |some (.sv kv)=>match a with
  |.bD B=>(wR B).map λk=>(mi kv k).isSome
  |_=>X
 |_=>X
def inV(a b:V)(Y:N):ai:=
 match b with
 |.aQ l=>match a with
  |.aQ x=>O<|occ x l
  |_=>X
 |.bD B=>xE a B
 |.S y=>BB a y Y
 |.ph y=>match xG y with
  |some (.aF B)=>xE a B
  |some (.cQ kv)=>(toK a).map λk=>(ni kv k).isSome
  |_=>X
 |_=>X
noncomputable def BC:V->ai
 |.bR=>O D
 |.du _|.aL _|.aQ _|.S _|.bD _=>O bk
 |_=>X
noncomputable def Q5(f:Int->Int->Bool)(a b:V):ai:=match a,b with
 |.aL x,.aL y=>O<|f x y
 |_,_=>X
def yX(op:qc)(a b:V)(Y:N):ai:=
 match op with
 |.Eq=>eqV a b Y
 |.NotEq=>(eqV a b Y).map (!·)
 |.In=>inV a b Y
 |.NotIn=>(inV a b Y).map (!·)
 |.Is=>match b with|.bR=>BC a|_=>X
 |.IsNot=>match b with|.bR=>(BC a).map (!·)|_=>X
 |.Lt=>Q5 (λx y=>decide (x<y)) a b
 |.LtE=>Q5 (λx y=>decide (x<=y)) a b
 |.Gt=>Q5 (λx y=>decide (y<x)) a b
 |.GtE=>Q5 (λx y=>decide (y<=x)) a b
def gX(o:Option α)(Q:α->Prop):Prop:=match o with
 |some x=>Q x
 |none=>False
inductive uB(x:a8)(i:Nat)(Y:N)(Q:V->Prop):Prop where
 |i {C dx:a8} {a:At} {v:V} (h:Y x=O (.d8 C dx a)) (hi:uz C i=D) (hl:a.lookup i=O v) (q:Q v)
 |x {C dx:a8} {a:At} {cx:bb} {tb:Option a8} {v:V} (h:Y x=O (.fg C dx a cx tb)) (hi:xF C i=D) (hl:a.lookup i=O v) (q:Q v)
def Q6(a:V)(i:Nat)(Y:N)(Q:V->Prop):Prop:=match a with
 |.S x=>uB x i Y Q
 |_=>False
inductive Q7(x:a8)(k:V)(Y:N)(Q:V->Prop):Prop where
 |l {B:aw} {n:Int} {v:V} (h:Y x=O (.aF B)) (e:k=.aL n) (hk:mO B n=O v) (q:Q v)
 |d {kv:ak} {n:KK} {v:V} (h:Y x=O (.cQ kv)) (e:toK k=O n) (hk:ni kv n=O v) (q:Q v)
 |t {kv:List (ae×V)} {ks:aw} {n:ae} {v:V} (h:Y x=O (.sv kv)) (e:k=.bD ks) (hn:wR ks=O n) (hk:mi kv n=O v) (q:Q v)
def WC(a i:V)(Y:N)(Q:V->Prop):Prop:=match a with
 |.S x=>Q7 x i Y Q
 |.bD B=>match i with
  |.aL k=>gX (mO B k) Q
  |_=>False
 |.aQ l=>match i with
  |.aL k=>gX (mO l k) λd=>Q<|.aQ [d]
  |_=>False
 |.ph x=>match xG x with
  |some (.cQ kv)=>match i with
   |.aQ k=>gX (ni kv<|.s k) Q
   |_=>False
  |_=>False
 |_=>False
noncomputable def BD:V->Option ao
 |.bR=>O X
 |.aL k=>O<|O k
 |_=>X
def Bas(g:Gd)(y:a8)(B:aw):Prop:=∀h:j9,(∀b o,g.iW.get? b=O o->h.get? b=O o)->∃L:List bb,h.IsList y (iZ L)/\eX h B L/\L.length<=cE
inductive slR(g:Gd)(y:a8)(l h:ao)(Y:N)(Q:aj):Prop where
 |l {B:aw} (hx:Y y=O (.aF B)) (q:∀r,Y r=X->Q (.S r) (Y.aX r<|.aF<|hU B l h))
 |b {B:aw} (hx:Y y=X) (hb:Bas g y B) (q:∀r,Y r=X->Q (.S r) (Y.aX r<|.aF<|hU B l h))
def slP(g:Gd)(a lo hi:V)(Y:N)(Q:aj):Prop:=
 match BD lo,BD hi with
 |some l,O h=>match a with
  |.aQ x=>Q (.aQ<|hU x l h) Y
  |.S y=>slR g y l h Y Q
  |_=>False
 |_,_=>False
@[irreducible]def tZ(x:a8)(i:Nat)(Y:N):Option (V×aw):=match Y x with
 |some (.d8 C _ at_)=>match uA C i,at_.lookup i with
  |some f,X=>O (.S f,[.S x])
  |_,_=>X
 |some (.aF _)=>if i=37 then O (.eH "list.append",[.S x])else if i=51 then O (.eH "list.pop",[.S x])else if i=52 then O (.eH "list.extend",[.S x])else X
 |none=>(L4 x i).map λf=>(.S f,[])
 |_=>X
def Kq(a:V)(i:Nat)(Y:N):Option (V×aw):=match a with
 |.S x=>tZ x i Y
 |.fK n=>if n="Exception"/\i=39 then O (.eH "Exception.__init__",[])else X
 |.aQ _=>if i=6 then O (.eH "str.join",[a])else if i=38 then O (.eH "str.split",[a])else X
 |_=>X
inductive qs(x:a8)(i:Nat)(v:V)(Y:N)(Q:N->Prop):Prop where
 |i {C dx:a8} {a:At} (h:Y x=O (.d8 C dx a)) (hi:uz C i=D) (z:a.length<=1000) (q:Q (Y.aX x<|.d8 C dx<|a.iV i v))
 |x {C dx:a8} {a:At} {cx:bb} {tb:Option a8} (h:Y x=O (.fg C dx a cx tb)) (hi:xF C i=D) (z:a.length<=1000) (q:Q (Y.aX x<|.fg C dx (a.iV i v) cx tb))
 |n {C:a8} (h:Y x=O (.Ai C)) (hi:xF C i=D) (q:∀dx,Y dx=X->dx≠x->Q ((Y.aX dx<|.fu x).aX x<|.fg C dx [(i,v)] .none X))
def BE(a:V)(i:Nat)(v:V)(Y:N)(Q:N->Prop):Prop:=match a with
 |.S x=>qs x i v Y Q
 |_=>False
inductive nj(x:a8)(k v:V)(Y:N)(Q:N->Prop):Prop where
 |l {B:aw} {n:Int} (h:Y x=O (.aF B)) (e:k=.aL n) (h0:0<=n) (hn:n<B.length) (q:Q (Y.aX x<|.aF<|B.set n.toNat v))
 |o {ks:aw} {n:ae} (h:Y x=O (.cQ [])) (e:k=.bD ks) (hn:wR ks=O n) (q:Q (Y.aX x<|.sv [(n,v)]))
 |t {kv:List (ae×V)} {ks:aw} {n:ae} (h:Y x=O (.sv kv)) (z:kv.length<=1000) (e:k=.bD ks) (hn:wR ks=O n) (no:mi kv n=X) (q:Q (Y.aX x<|.sv<|kv++[(n,v)]))
 |d {kv:ak} {n:KK} (h:Y x=O (.cQ kv)) (z:kv.length<=1000) (hn:toK k=O n) (q:Q (Y.aX x<|.cQ<|lS kv n v))
def BF(a i v:V)(Y:N)(Q:N->Prop):Prop:=match a with
 |.S x=>nj x i v Y Q
 |_=>False
@[irreducible]noncomputable def yY(x:a8)(Y:N):Option aw:=match Y x with
 |some (.aF B)=>O B
 |_=>X
def g0(hd:Option a8)(a:V)(Y:N):Option aw:=match hd,a with
 |_,.wk lo hi=>O<|(dk (hi-lo).toNat).map λ(k:Nat)=>V.aL<|lo+(k:Int)
 |none,.S x=>yY x Y
 |none,.bD B=>O B
 |none,.aQ l=>O<|l.map λd=>.aQ [d]
 |_,_=>X
def BG(hd:Option a8)(a:V)(Y:N):Option aw:=match hd,a with
 |none,.S x=>yY x Y
 |_,_=>X
def FF(hd:Option a8)(Y:N):Prop:=∀ea,hd=O ea->∃C dx at_ tb,Y ea=O (.fg C dx at_ .none tb)
def k9(hd:Option a8)(a:V)(B:aw)(Y:N):Prop:=(match a with
 |.S x=>Y x=O (.aF B)
 |_=>True)/\FF hd Y
noncomputable def nk(J:bw)(i:Nat):au:=(J[i]?).join
noncomputable def pj:aq->aw->bw->bw
 |i::is,v::L,J=>pj is L<|J.set i<|O v
 |_,_,J=>J
def agc(t:aq)(x:V)(J:bw)(Q:bw->Prop):Prop:=match t with
 |[i]=>Q<|J.set i<|O x
 |_=>False
inductive wz(hd:Option a8)(xs:V->N->aj->(N->Prop)->Prop)(Q:aj)(it:V)(Y:N):Prop where
 |mk {B:aw} (e:g0 hd it Y=O B) (I:Nat->aw->N->Prop) (h0:I 0 [] Y)
  (ht:∀k x acc Y,B[k]?=O x->I k acc Y->k9 hd it B Y/\xs x Y (λv Y=>I (k+1) (acc++[v]) Y) (I (k+1) acc))
  (he:∀acc Y,I B.length acc Y->k9 hd it B Y/\∀r,Y r=X->Q (.S r) (Y.aX r<|.aF acc))
section
abbrev kO(Q:α->N->Prop)(Y:N)(v:α):Prop:=Q v Y
abbrev ado(op:lZ)(a:V)(Q:aj)(b:V)(Y:N):Prop:=aal op a b Y Q
abbrev agd(op:lZ)(R:N->aj->Prop)(Q:aj)(a:V)(Y:N):Prop:=R Y<|ado op a Q
abbrev age(Q:aj)(a:V)(Y:N):Prop:=match a with
 |.aL x=>Q (.aL<|-x) Y
 |_=>False
abbrev kBo(Q:aj)(b:Bool)(Y:N):Prop:=Q (.du b) Y
abbrev YE(op:qc)(a:V)(Q:ag)(b:V)(Y:N):Prop:=gX (yX op a b Y)<|kO Q Y
abbrev adp(op:qc)(R:N->aj->Prop)(Q:ag)(a:V)(Y:N):Prop:=R Y<|YE op a Q
abbrev agf(o:qc)(b:V)(R:N->aj->Prop)(Q:ag)(q:Bool)(Y:N):Prop:=bif q then R Y (YE o b Q)else Q bk Y
abbrev agg(o o':qc)(a:V)(R:N->aj->Prop)(Q:ag)(b:V)(Y:N):Prop:=gX (yX o a b Y)<|kO (agf o' b R Q) Y
abbrev kCh(o o':qc)(M R:N->aj->Prop)(Q:ag)(a:V)(Y:N):Prop:=M Y<|agg o o' a R Q
abbrev agh(Q:aj)(a:V)(Y:N):Prop:=match a with
 |.du x=>Q (.du !x) Y
 |_=>False
abbrev kIf(A xs:N->α->Prop)(Q:α)(q:Bool)(Y:N):Prop:=bif q then A Y Q else xs Y Q
abbrev kAt(i:Nat)(Q:aj)(a:V)(Y:N):Prop:=Q6 a i Y<|kO Q Y
abbrev adq(a:V)(Q:aj)(k:V)(Y:N):Prop:=WC a k Y<|kO Q Y
abbrev agi(R:N->aj->Prop)(Q:aj)(a:V)(Y:N):Prop:=R Y<|adq a Q
abbrev agj(g:Gd)(a l:V)(Q:aj)(h:V)(Y:N):Prop:=slP g a l h Y Q
abbrev agk(g:Gd)(a:V)(H:N->aj->Prop)(Q:aj)(l:V)(Y:N):Prop:=H Y<|agj g a l Q
abbrev kSl(g:Gd)(vs H:N->aj->Prop)(Q:aj)(a:V)(Y:N):Prop:=vs Y<|agk g a H Q
abbrev Q8(Γ:mM)(f:V)(Q:aj)(E:Ex)(L:aw)(Y:N):Prop:=bE Γ f L Y Q E
abbrev YF(Γ:mM)(vs:N->(aw->N->Prop)->Prop)(Q:aj)(E:Ex)(f:V)(Y:N):Prop:=vs Y<|Q8 Γ f Q E
abbrev agl(Γ:mM)(p:V×aw)(Q:aj)(E:Ex)(L:aw)(Y:N):Prop:=bE Γ p.1 (p.2++L) Y Q E
abbrev agm(Γ:mM)(vs:N->(aw->N->Prop)->Prop)(Q:aj)(E:Ex)(Y:N)(p:V×aw):Prop:=vs Y<|agl Γ p Q E
abbrev kMc(Γ:mM)(i:Nat)(vs:N->(aw->N->Prop)->Prop)(Q:aj)(E:Ex)(a:V)(Y:N):Prop:=gX (Kq a i Y)<|agm Γ vs Q E Y
abbrev kLi(Q:aj)(L:aw)(Y:N):Prop:=∀r,Y r=X->Q (.S r) (Y.aX r<|.aF L)
abbrev kTu(Q:aj)(L:aw)(Y:N):Prop:=Q (.bD L) Y
abbrev kDi(ks:aw)(Q:aj)(us:aw)(Y:N):Prop:=∀r,Y r=X->Q (.S r) (Y.aX r<|.cQ<|(ks.filterMap toK).zip us)
abbrev kCi(R:N->α->Prop)(K:α)(ρ:N->Prop)(q:Bool)(Y:N):Prop:=bif q then R Y K else ρ Y
abbrev cB(t:aq)(J:bw)(I:bw->N->ag->Prop)(F:bw->N->aj->Prop)(x:V)(Y:N)(K:aj)(ρ:N->Prop):Prop:=agc t x J λJ=>I J Y<|kCi (F J) K ρ
abbrev ads(v:V)(Q:aw->N->Prop)(L:aw)(Y:N):Prop:=Q (v::L) Y
abbrev kLs(R:N->(aw->N->Prop)->Prop)(Q:aw->N->Prop)(v:V)(Y:N):Prop:=R Y<|ads v Q
abbrev kB(op:BoolOp)(es:List CE)(R:N->aj->Prop)(Q:aj)(v:V)(Y:N):Prop:=match es with
 |[]=>Q v Y
 |_=>match v with
  |.du b=>bif (op==.And)==b then R Y Q else Q (.du b) Y
  |_=>False
abbrev kTn(Q:ag)(b:Bool)(Y:N):Prop:=Q (!b) Y
abbrev kTb(Q:ag)(v:V)(Y:N):Prop:=match v with
 |.du b=>Q b Y
 |_=>False
abbrev kA(op:BoolOp)(R:N->ag->Prop)(Q:ag)(b:Bool)(Y:N):Prop:=bif (op==.And)==b then R Y Q else Q b Y
abbrev kI(R:N->ag->Prop)(Q:ag)(b:Bool)(Y:N):Prop:=bif b then R Y Q else Q bk Y
end
mutual
noncomputable def rU(Γ:mM)(E:Ex):CE->bw->N->aj->Prop
 |.dR i,J,Y,Q=>gX (nk J i)<|kO Q Y
 |.dT v,J,Y,Q=>Q v Y
 |.fh op l r,J,Y,Q=>rU Γ E l J Y<|agd op (rU Γ E r J) Q
 |.jb e,J,Y,Q=>rU Γ E e J Y<|age Q
 |.dN op l r,J,Y,Q=>rU Γ E l J Y<|adp op (rU Γ E r J)<|kBo Q
 |.pU o1 o2 l m r,J,Y,Q=>rU Γ E l J Y<|kCh o1 o2 (rU Γ E m J) (rU Γ E r J)<|kBo Q
 |.pK op es,J,Y,Q=>vcB Γ E op es J Y Q
 |.mh e,J,Y,Q=>rU Γ E e J Y<|agh Q
 |.cA t a b,J,Y,Q=>Q9 Γ E t J Y<|kIf (rU Γ E a J) (rU Γ E b J) Q
 |.bK e i,J,Y,Q=>rU Γ E e J Y<|kAt i Q
 |.cW e i,J,Y,Q=>rU Γ E e J Y<|agi (rU Γ E i J) Q
 |.eC e lo hi,J,Y,Q=>rU Γ E e J Y<|kSl Γ.g (vcO Γ E lo J) (vcO Γ E hi J) Q
 |.jA f args,J,Y,Q=>rU Γ E f J Y<|YF Γ (Ra Γ E args J) Q E
 |.cH o i args,J,Y,Q=>rU Γ E o J Y<|kMc Γ i (Ra Γ E args J) Q E
 |.aF es,J,Y,Q=>Ra Γ E es J Y<|kLi Q
 |.bD es,J,Y,Q=>Ra Γ E es J Y<|kTu Q
 |.cQ ks L,J,Y,Q=>Ra Γ E L J Y<|kDi ks Q
 |.iB elt t iter ifs ux,J,Y,Q=>rU Γ E iter J Y<|wz Γ.hd (cB t (ux.map λo=>o.bind<|nk J) (vcI Γ E ifs)<|rU Γ E elt) Q
noncomputable def vcO(Γ:mM)(E:Ex):Option CE->bw->N->aj->Prop
 |none,J,Y,Q=>Q .bR Y
 |some e,J,Y,Q=>rU Γ E e J Y Q
noncomputable def Ra(Γ:mM)(E:Ex):List CE->bw->N->(aw->N->Prop)->Prop
 |[],J,Y,Q=>Q [] Y
 |e::es,J,Y,Q=>rU Γ E e J Y<|kLs (Ra Γ E es J) Q
noncomputable def vcB(Γ:mM)(E:Ex)(op:BoolOp):List CE->bw->N->aj->Prop
 |[],J,Y,Q=>False
 |e::es,J,Y,Q=>rU Γ E e J Y<|kB op es (vcB Γ E op es J) Q
noncomputable def Q9(Γ:mM)(E:Ex):CE->bw->N->ag->Prop
 |.mh e,J,Y,Q=>Q9 Γ E e J Y<|kTn Q
 |.pK op es,J,Y,Q=>vcA Γ E op es J Y Q
 |.cA t a b,J,Y,Q=>Q9 Γ E t J Y<|kIf (Q9 Γ E a J) (Q9 Γ E b J) Q
 |.dN op l r,J,Y,Q=>rU Γ E l J Y<|adp op (rU Γ E r J) Q
 |.pU o1 o2 l m r,J,Y,Q=>rU Γ E l J Y<|kCh o1 o2 (rU Γ E m J) (rU Γ E r J) Q
 |.jA f args,J,Y,Q=>rU Γ E f J Y<|YF Γ (Ra Γ E args J) (kTb Q) E
 |.cH o i args,J,Y,Q=>rU Γ E o J Y<|kMc Γ i (Ra Γ E args J) (kTb Q) E
 |.dR i,J,Y,Q=>gX (nk J i)<|kO (kTb Q) Y
 |_,J,Y,Q=>False
noncomputable def vcA(Γ:mM)(E:Ex)(op:BoolOp):List CE->bw->N->ag->Prop
 |[],J,Y,Q=>Q (op==.And) Y
 |e::es,J,Y,Q=>Q9 Γ E e J Y<|kA op (vcA Γ E op es J) Q
noncomputable def vcI(Γ:mM)(E:Ex):List CE->bw->N->ag->Prop
 |[],J,Y,Q=>Q D Y
 |e::es,J,Y,Q=>Q9 Γ E e J Y<|kI (vcI Γ E es J) Q
end
abbrev kE(E:oZ)(J:bw)(a:a8)(_:Unit)(Y:N):Prop:=E a J Y
abbrev kU(E:Ex)(a:a8)(_:bw)(Y:N):Prop:=E a () Y
abbrev kGa(i:Nat)(x:V)(R:N->Prop)(o:V)(Y:N):Prop:=BE o i x Y R
abbrev agn(o x:V)(R:N->Prop)(k:V)(Y:N):Prop:=BF o k x Y R
abbrev kGs(I:N->aj->Prop)(x:V)(R:N->Prop)(o:V)(Y:N):Prop:=I Y<|agn o x R
def vcG(Γ:mM)(E:oZ)(t:CT)(x:V)(J:bw)(Y:N)(Q:bw->N->Prop):Prop:=match t with
 |.dR i=>Q (J.set i<|O x) Y
 |.bD is=>match x with
  |.bD B=>Γ.hd=X/\B.length=is.length/\Q (pj is B J) Y
  |_=>False
 |.bK e i=>rU Γ (kE E J) e J Y<|kGa i x<|Q J
 |.cW e i=>rU Γ (kE E J) e J Y<|kGs (rU Γ (kE E J) i J) x<|Q J
inductive Rc(hd:Option a8)(E:a8->N->Prop)(a:a8)(Y:N):Prop where
 |mk {C dx:a8} {at_:At} (h:Y a=O (.fg C dx at_ .none X)) (hC:lT C=D) (hP:FF hd Y) (ne:∀ea,hd=O ea->a≠ea) (q:∀c8,Lv a (Y.aX a<|.fg C dx at_ (match hd with|some ea=>.ref ea|none=>.none) X) c8->E a c8)
def Kr(hd:Option a8)(E:a8->N->Prop)(v:V)(Y:N):Prop:=match v with
 |.S a=>Rc hd E a Y
 |_=>False
def Ks(Q:VF->bw->N->Prop)(I:bw->N->Prop)(fl:VF)(J:bw)(Y:N):Prop:=match fl with
 |.eR|.mN=>I J Y
 |.Ea=>Q .eR J Y
 |.j7 v=>Q (.j7 v) J Y
inductive Rf(o:Option aw)(aE:aw->N->Prop)(xs:Nat->V->bw->N->(VF->bw->N->Prop)->Prop)(Q:VF->bw->N->Prop)(J:bw)(Y:N):Prop where
 |mk {B:aw} (e:o=O B) (I:Nat->bw->N->Prop) (h0:I 0 J Y)
  (ht:∀k x J Y,B[k]?=O x->I k J Y->aE B Y/\xs k x J Y (Ks Q<|I<|k+1))
  (he:∀J Y,I B.length J Y->aE B Y/\Q .eR J Y)
@[irreducible]def t4(hd:Option a8)(xs:V->bw->N->(VF->bw->N->Prop)->Prop)(Q:VF->bw->N->Prop)(J:bw)(a:V)(Y:N):Prop:=Rf (g0 hd a Y) (k9 hd a) (λU=>xs) Q J Y
@[irreducible]def Ee(hd:Option a8)(xs:Nat->V->bw->N->(VF->bw->N->Prop)->Prop)(Q:VF->bw->N->Prop)(J:bw)(a:V)(Y:N):Prop:=Rf (BG hd a Y) (k9 hd a) xs Q J Y
abbrev kWb(xs:bw->N->(VF->bw->N->Prop)->Prop)(Q:VF->bw->N->Prop)(ρ:bw->N->Prop)(J:bw)(b:Bool)(Y:N):Prop:=bif b then xs J Y (Ks Q ρ)else Q .eR J Y
inductive FG(T:bw->N->ag->Prop)(xs:bw->N->(VF->bw->N->Prop)->Prop)(Q:VF->bw->N->Prop)(J:bw)(Y:N):Prop where
 |mk (I:Nat->bw->N->Prop) (h0:∃n,I n J Y) (ht:∀n J Y,I n J Y->T J Y (kWb xs Q (λJ Y=>∃m,m<n/\I m J Y) J))
abbrev kAs(Γ:mM)(E:oZ)(t:CT)(J:bw)(R:bw->N->Prop)(v:V)(Y:N):Prop:=vcG Γ E t v J Y R
abbrev kCn(R:N->Prop)(_:α)(Y:N):Prop:=R Y
abbrev kRe(Q:VF->bw->N->Prop)(J:bw)(v:V)(Y:N):Prop:=Q (.j7 v) J Y
abbrev yZ(Q:aj)(fl:VF)(_:bw)(Y:N):Prop:=Q (aai fl) Y
abbrev kEr(E:oZ)(J:bw)(a:a8)(Y:N):Prop:=E a J Y
abbrev kRa(hd:Option a8)(E:oZ)(J:bw)(v:V)(Y:N):Prop:=Kr hd (kEr E J) v Y
abbrev kWt(Γ:mM)(E:oZ)(t:CE)(J:bw)(Y:N)(T:ag):Prop:=Q9 Γ (kE E J) t J Y T
abbrev kF(R:bw->N->(VF->bw->N->Prop)->Prop)(K:VF->bw->N->Prop)(J:bw)(Y:N):Prop:=R J Y K
abbrev fB(Γ:mM)(E:oZ)(t:CT)(R:bw->N->(VF->bw->N->Prop)->Prop)(x:V)(J:bw)(Y:N)(K:VF->bw->N->Prop):Prop:=vcG Γ E t x J Y<|kF R K
abbrev eB(i j:Nat)(R:bw->N->(VF->bw->N->Prop)->Prop)(k:Nat)(x:V)(J:bw)(Y:N)(K:VF->bw->N->Prop):Prop:=R ((J.set i<|O<|.aL k).set j<|O x) Y K
abbrev kSq(R:bw->N->(VF->bw->N->Prop)->Prop)(Q:VF->bw->N->Prop)(fl:VF)(J:bw)(Y:N):Prop:=match fl with
 |.eR=>R J Y Q
 |fl=>Q fl J Y
mutual
noncomputable def vcS:mM->oZ->CS->bw->N->(VF->bw->N->Prop)->Prop
 |Γ,E,.bY t e,J,Y,Q=>rU Γ (kE E J) e J Y<|kAs Γ E t J<|Q .eR
 |Γ,E,.dw e,J,Y,Q=>rU Γ (kE E J) e J Y<|kCn<|Q .eR J
 |Γ,E,.j7 e,J,Y,Q=>vcO Γ (kE E J) e J Y<|kRe Q J
 |Γ,E,.cA t a b,J,Y,Q=>Q9 Γ (kE E J) t J Y<|kIf (iy Γ E a J) (iy Γ E b J) Q
 |Γ,E,.nh t body,J,Y,Q=>FG (kWt Γ E t) (iy Γ E body) Q J Y
 |Γ,E,.HG t it body,J,Y,Q=>rU Γ (kE E J) it J Y<|t4 Γ.hd (fB Γ E t<|iy Γ E body) Q J
 |Γ,E,.BA i j it body,J,Y,Q=>rU Γ (kE E J) it J Y<|Ee Γ.hd (eB i j<|iy Γ E body) Q J
 |Γ,E,.Km,J,Y,Q=>Q .eR J Y
 |Γ,E,.mN,J,Y,Q=>Q .mN J Y
 |Γ,E,.pV e,J,Y,Q=>rU Γ (kE E J) e J Y<|kRa Γ.hd E J
 |Γ,E,.Ed body C x hb,J,Y,Q=>Γ.hd=X/\iy Γ (λea J Y=>∃C' dx at_ cx tb,Y ea=O (.fg C' dx at_ cx tb)/\Kn C' C=D/\
  iy ⟨Γ.g,O ea,Γ.n⟩ (λe J Y=>E e (J.set x X) Y) hb (J.set x<|O<|.S ea) Y λfl J Y=>Q fl (J.set x X) Y) body J Y Q
noncomputable def iy:mM->oZ->av->bw->N->(VF->bw->N->Prop)->Prop
 |Γ,E,[],J,Y,Q=>Q .eR J Y
 |Γ,E,s::r,J,Y,Q=>vcS Γ E s J Y<|kSq (iy Γ E r) Q
end
def BH:List (Str×V):=agb.map λp=>(qT p.1,p.2)
noncomputable def FH(scope sc:Scope):Scope:={scope with names:=scope.names.map λ(n,k)=>if(k==.free&&sc.kind==.function&&sc.names.lookup n==O .cell)then(n,.cell)else(n,k)}
noncomputable def y4:Expr->Bool
 |.ListComp ..|.SetComp ..|.DictComp ..=>D
 |_=>bk
noncomputable def uC(p:Str×gn):Bool:=p.2==.local||p.2==.free||p.2==.cell
def jB(scope:Scope):List Str:=(scope.names.filter uC).map (·.1)
def xH(scope:Scope)(ns:List Str):List (Option Nat):=(scope.names.filter uC).map λp=>if p.2==.free then O (ns.idxOf p.1)else X
noncomputable def FI(scope sc:Scope)(ns:List Str)(x:Str):Bool:=
 scope.kind==.function&&decide (scope.names.map (·.1)).Nodup&&(scope.names.lookup x==O .local||scope.names.lookup x==O .cell)&&
  scope.names.all λp=>!(p.1==("__debug__":Str))&&!(p.1==("__classdict__":Str))&&(p.2 !=.free||(ns.contains p.1&&(sc.names.lookup p.1==O .cell||sc.names.lookup p.1==O .free)))
def YG:Expr->Expr->Bool
 |.Tuple ..,.Tuple L _ _=>L.all (foldedForSure 8)||!L.all (af0 8)
 |.Tuple ..,v=>!y4 v
 |_,_=>D
noncomputable def uD:Expr->Bool
 |.Call (.Name ..) [] [] _=>bk
 |_=>D
noncomputable def mH:Expr->Bool
 |.Set ..=>D
 |_=>bk
noncomputable def vG:Expr->Bool
 |.Slice ..=>D
 |_=>bk
noncomputable def gY:Expr->Bool
 |.Starred ..=>D
 |_=>bk
noncomputable def Rg:Const->au
 |.none=>O .bR
 |.bool b=>O<|.du b
 |.int i=>O<|.aL i
 |.str s=>if s.length<=1000 then O (.aQ s.cps.toList)else X
 |_=>X
noncomputable def BJ(sc:Scope)(x:Str):Bool:=sc.names.lookup x==O .local||sc.names.lookup x==O .cell
noncomputable def asc(b:Bool)(x:Option α):Option α:=if b then x else X
noncomputable def jC(e:Expr):Option {x:Str×Pos//e=.Name x.1 x.2}:=match e with|.Name a b=>O ⟨(a,b),Z⟩|_=>X
noncomputable def adt(e:Expr):Option {x:Const×Nat×Pos//e=.Constant x.1 x.2.1 x.2.2}:=match e with|.Constant a b c=>O ⟨(a,b,c),Z⟩|_=>X
noncomputable def adu(e:Expr):Option {x:Expr×lZ×Expr×Pos//e=.BinOp x.1 x.2.1 x.2.2.1 x.2.2.2}:=match e with|.BinOp a b c d=>O ⟨(a,b,c,d),Z⟩|_=>X
noncomputable def aUn(e:Expr):Option {x:UnaryOp×Expr×Pos//e=.UnaryOp x.1 x.2.1 x.2.2}:=match e with|.UnaryOp a b c=>O ⟨(a,b,c),Z⟩|_=>X
noncomputable def WD(e:Expr):Option {x:Expr×List qc×List Expr×Pos//e=.Compare x.1 x.2.1 x.2.2.1 x.2.2.2}:=match e with|.Compare a b c d=>O ⟨(a,b,c,d),Z⟩|_=>X
noncomputable def adv(e:Expr):Option {x:BoolOp×List Expr×Pos//e=.BoolOp x.1 x.2.1 x.2.2}:=match e with|.BoolOp a b c=>O ⟨(a,b,c),Z⟩|_=>X
noncomputable def aIf(e:Expr):Option {x:Expr×Expr×Expr×Pos//e=.IfExp x.1 x.2.1 x.2.2.1 x.2.2.2}:=match e with|.IfExp a b c d=>O ⟨(a,b,c,d),Z⟩|_=>X
noncomputable def zL(e:Expr):Option {x:Expr×Str×Pos//e=.Attribute x.1 x.2.1 x.2.2}:=match e with|.Attribute a b c=>O ⟨(a,b,c),Z⟩|_=>X
noncomputable def wU(e:Expr):Option {x:Expr×Expr×Pos//e=.Subscript x.1 x.2.1 x.2.2}:=match e with|.Subscript a b c=>O ⟨(a,b,c),Z⟩|_=>X
noncomputable def aSl(e:Expr):Option {x:Option Expr×Option Expr×Pos//e=.Slice x.1 x.2.1 X x.2.2}:=match e with|.Slice a b X c=>O ⟨(a,b,c),Z⟩|_=>X
noncomputable def vH(e:Expr):Option {x:Expr×List Expr×Pos//e=.Call x.1 x.2.1 [] x.2.2}:=match e with|.Call a b [] c=>O ⟨(a,b,c),Z⟩|_=>X
noncomputable def YH(e:Expr):Option {x:List Expr×Pos//e=.List x.1 x.2}:=match e with|.List a b=>O ⟨(a,b),Z⟩|_=>X
noncomputable def y9(e:Expr):Option {x:List Expr×Nat×Pos//e=.Tuple x.1 x.2.1 x.2.2}:=match e with|.Tuple a b c=>O ⟨(a,b,c),Z⟩|_=>X
noncomputable def adw(e:Expr):Option {x:List (Option Expr)×List Expr×Pos//e=.Dict x.1 x.2.1 x.2.2}:=match e with|.Dict a b c=>O ⟨(a,b,c),Z⟩|_=>X
noncomputable def aLc(e:Expr):Option {x:Expr×List NK×Scope×Pos//e=.ListComp x.1 x.2.1 x.2.2.1 x.2.2.2}:=match e with|.ListComp a b c d=>O ⟨(a,b,c,d),Z⟩|_=>X
noncomputable def a1(l:List α):Option {x:α//l=[x]}:=match l with|[x]=>O ⟨x,Z⟩|_=>X
noncomputable def aC(l:List α):Option {x:α×List α//l=x.1::x.2}:=match l with|a::r=>O ⟨(a,r),Z⟩|_=>X
noncomputable def aS(o:Option α):Option {x:α//o=O x}:=match o with|some x=>O ⟨x,Z⟩|none=>X
noncomputable def cdV:V->Nat×Int×aq×String×aa
 |.bR=>(0,0,[],"",[])
 |.du b=>(1,bif b then 1 else 0,[],"",[])
 |.aL i=>(2,i,[],"",[])
 |.aQ l=>(3,0,l,"",[])
 |.S a=>(4,0,[a],"",[])
 |.ph a=>(5,0,[a],"",[])
 |.fK n=>(6,0,[],n,[])
 |.eH n=>(7,0,[],n,[])
 |.bD B=>(8,0,[],"",B.map λ|.aQ l=>l|_=>[])
 |.wk _ _=>(9,0,[],"",[])
noncomputable def dcV:Nat×Int×aq×String×aa->V
 |(0,_)=>.bR
 |(1,i,_)=>.du<|i==1
 |(2,i,_)=>.aL i
 |(3,_,l,_)=>.aQ l
 |(4,_,l,_)=>.S<|l.headD 0
 |(5,_,l,_)=>.ph<|l.headD 0
 |(6,_,_,n,_)=>.fK n
 |(7,_,_,n,_)=>.eH n
 |(_,_,_,_,l)=>.bD<|l.map .aQ
noncomputable def oV:V->Bool
 |.bD B=>B.all λ|.aQ U=>D|_=>bk
 |.wk _ _=>bk
 |_=>D
def sV(a b:V):Bool:=oV a&&(oV b&&cdV a==cdV b)
def sO(a:au)(b:V):Bool:=a.any λa=>sV a b
abbrev Dk:=Str×Nat×Pos
noncomputable def kC(k:Dk):Expr:=.Constant (.str k.1) k.2.1 k.2.2
def adx(o:Option Expr):Option {x:Dk//o=O (kC x)}:=match o with|some (.Constant (.str a) b c)=>O ⟨(a,b,c),Z⟩|_=>X
noncomputable def sVs:aw->List (Option Expr)->Bool
 |[],l=>l.isEmpty
 |v::r,l=>(aC l).any λx=>(adx x.1.1).any (λk=>sV v<|.aQ k.1.1.cps.toList)&&sVs r x.1.2
mutual
noncomputable def s6:CE->Expr->Scope->List Str->Bool
 |.dR i,e,sc,ns=>(jC e).any λx=>ns[i]?==O x.1.1
 |.dT v,e,sc,ns=>(adt e).any (λx=>sO (Rg x.1.1) v)||(jC e).any λx=>sc.names.lookup x.1.1==O .globalImplicit&&(!(x.1.1==("__debug__":Str))&&sO (BH.lookup x.1.1) v)
 |.fh op l r,e,sc,ns=>(adu e).any λx=>decide (x.1.2.1=op)&&(s6 l x.1.1 sc ns&&s6 r x.1.2.2.1 sc ns)
 |.jb a,e,sc,ns=>(aUn e).any λx=>decide (x.1.1=.USub)&&s6 a x.1.2.1 sc ns
 |.mh a,e,sc,ns=>(aUn e).any λx=>decide (x.1.1=.Not)&&s6 a x.1.2.1 sc ns
 |.dN op l r,e,sc,ns=>(WD e).any λx=>decide (x.1.2.1=[op])&&(a1 x.1.2.2.1).any λy=>!mH y.1&&(s6 l x.1.1 sc ns&&s6 r y.1 sc ns)
 |.pU o1 o2 l m r,e,sc,ns=>(WD e).any λx=>decide (x.1.2.1=[o1,o2])&&(aC x.1.2.2.1).any λz=>(a1 z.1.2).any λy=>!mH y.1&&(s6 l x.1.1 sc ns&&(s6 m z.1.1 sc ns&&s6 r y.1 sc ns))
 |.pK op es,e,sc,ns=>(adv e).any λx=>decide (x.1.1=op)&&VU es x.1.2.1 sc ns
 |.cA t a b,e,sc,ns=>(aIf e).any λx=>s6 t x.1.1 sc ns&&(s6 a x.1.2.1 sc ns&&s6 b x.1.2.2.1 sc ns)
 |.bK a i,e,sc,ns=>(zL e).any λx=>uD x.1.1&&(nm i==x.1.2.1&&s6 a x.1.1 sc ns)
 |.eC a lo hi,e,sc,ns=>(wU e).any λx=>(aSl x.1.2.1).any λy=>s6 a x.1.1 sc ns&&(ckO lo y.1.1 sc ns&&ckO hi y.1.2.1 sc ns)
 |.cW a i,e,sc,ns=>(wU e).any λx=>!vG x.1.2.1&&(s6 a x.1.1 sc ns&&s6 i x.1.2.1 sc ns)
 |.cH o i as,e,sc,ns=>(vH e).any λx=>(zL x.1.1).any λy=>uD y.1.1&&(nm i==y.1.2.1&&(decide (x.1.2.1.length<30)&&(y.1.2.2.endLine==x.1.2.2.line&&(x.1.2.1.all (!gY ·)&&(s6 o y.1.1 sc ns&&VU as x.1.2.1 sc ns)))))
 |.jA f as,e,sc,ns=>(vH e).any λx=>(zL x.1.1).isNone&&(x.1.2.1.all (!gY ·)&&(s6 f x.1.1 sc ns&&VU as x.1.2.1 sc ns))
 |.aF es,e,sc,ns=>(YH e).any λx=>x.1.1.all (!gY ·)&&(decide (x.1.1.length<=1000)&&VU es x.1.1 sc ns)
 |.bD es,e,sc,ns=>(y9 e).any λx=>x.1.1.all (!gY ·)&&(decide (x.1.1.length<=1000)&&VU es x.1.1 sc ns)
 |.cQ ks L,e,sc,ns=>(adw e).any λx=>sVs ks x.1.1&&(x.1.1.length==x.1.2.1.length&&((ks.length==0||ks.length==3)&&(decide (ks.filterMap toK).Nodup&&VU L x.1.2.1 sc ns)))
 |.iB elt t iter ifs ux,e,sc,ns=>(aLc e).any λx=>(a1 x.1.2.1).any λy=>(jC y.1.target).any λz=>y.1.is_async==0&&(!mH y.1.iter&&(FI x.1.2.2.1 sc ns z.1.1&&(t==[(jB x.1.2.2.1).idxOf z.1.1]&&(ux==xH x.1.2.2.1 ns&&
  (s6 iter y.1.iter sc ns&&(s6 elt x.1.1 (FH x.1.2.2.1 sc) (jB x.1.2.2.1)&&VU ifs y.1.ifs (FH x.1.2.2.1 sc) (jB x.1.2.2.1)))))))
noncomputable def VU:List CE->List Expr->Scope->List Str->Bool
 |[],es,_,_=>es.isEmpty
 |c::cs,es,sc,ns=>(aC es).any λx=>s6 c x.1.1 sc ns&&VU cs x.1.2 sc ns
noncomputable def ckO:Option CE->Option Expr->Scope->List Str->Bool
 |none,o,_,_=>o.isNone
 |some c,o,sc,ns=>(aS o).any λx=>s6 c x.1 sc ns
end
noncomputable def zM(sc:Scope)(ns:List Str):List Expr->Option aq
 |[]=>O []
 |e::r=>(jC e).bind λx=>asc (ns.contains x.1.1&&BJ sc x.1.1) ((zM sc ns r).map (ns.idxOf x.1.1::·))
def YI:CT->Expr->Scope->List Str->Bool
 |.dR i,t,sc,ns=>(jC t).any λx=>ns[i]?==O x.1.1&&(ns.contains x.1.1&&BJ sc x.1.1)
 |.bD is,t,sc,ns=>(y9 t).any λx=>zM sc ns x.1.1==O is&&(decide is.Nodup&&decide (is.length<=20))
 |.bK o i,t,sc,ns=>(zL t).any λx=>nm i==x.1.2.1&&s6 o x.1.1 sc ns
 |.cW o i,t,sc,ns=>(wU t).any λx=>!vG x.1.2.1&&(s6 o x.1.1 sc ns&&s6 i x.1.2.1 sc ns)
noncomputable def ady(e:lp):Option {x:Expr×Pos//e=.Expr x.1 x.2}:=match e with|.Expr a b=>O ⟨(a,b),Z⟩|_=>X
noncomputable def YJ(e:lp):Option {x:Pos//e=.Pass x}:=match e with|.Pass a=>O ⟨a,Z⟩|_=>X
noncomputable def YL(e:lp):Option {x:Pos//e=.Continue x}:=match e with|.Continue a=>O ⟨a,Z⟩|_=>X
noncomputable def adz(e:lp):Option {x:Option Expr×Pos//e=.Return x.1 x.2}:=match e with|.Return a b=>O ⟨(a,b),Z⟩|_=>X
noncomputable def adA(e:lp):Option {x:Expr×Expr×Pos//e=.Assign [x.1] x.2.1 x.2.2}:=match e with|.Assign [a] b c=>O ⟨(a,b,c),Z⟩|_=>X
noncomputable def sIf(e:lp):Option {x:Expr×List lp×List lp×Pos//e=.If x.1 x.2.1 x.2.2.1 x.2.2.2}:=match e with|.If a b c d=>O ⟨(a,b,c,d),Z⟩|_=>X
noncomputable def adB(e:lp):Option {x:Expr×List lp×Pos//e=.While x.1 x.2.1 [] x.2.2}:=match e with|.While a b [] c=>O ⟨(a,b,c),Z⟩|_=>X
noncomputable def WE(e:lp):Option {x:Expr×Expr×List lp×Pos//e=.For x.1 x.2.1 x.2.2.1 [] x.2.2.2}:=match e with|.For a b c [] d=>O ⟨(a,b,c,d),Z⟩|_=>X
noncomputable def adC(e:lp):Option {x:Expr×Pos//e=.Raise (O x.1) X x.2}:=match e with|.Raise (O a) X b=>O ⟨(a,b),Z⟩|_=>X
noncomputable def adD(e:lp):Option {x:List lp×ExceptHandler×Pos//e=.Try x.1 [x.2.1] [] [] x.2.2}:=match e with|.Try a [b] [] [] c=>O ⟨(a,b,c),Z⟩|_=>X
noncomputable def adE(e:ExceptHandler):Option {x:Expr×Str×List lp×Pos//e=.ExceptHandler (O x.1) (O x.2.1) x.2.2.1 x.2.2.2}:=match e with|.ExceptHandler (O a) (O b) c d=>O ⟨(a,b,c,d),Z⟩|_=>X
mutual
noncomputable def cS:CS->lp->Scope->List Str->Bool
 |.dw c,s,sc,ns=>(ady s).any λx=>!y4 x.1.1&&s6 c x.1.1 sc ns
 |.Km,s,_,_=>(YJ s).isSome
 |.mN,s,_,_=>(YL s).isSome
 |.j7 o,s,sc,ns=>(adz s).any λx=>ckO o x.1.1 sc ns
 |.bY t c,s,sc,ns=>(adA s).any λx=>(!y4 x.1.2.1||((aLc x.1.2.1).isSome&&(jC x.1.1).isSome))&&(YG x.1.1 x.1.2.1&&(YI t x.1.1 sc ns&&s6 c x.1.2.1 sc ns))
 |.cA t a b,s,sc,ns=>(sIf s).any λx=>s6 t x.1.1 sc ns&&(N6 a x.1.2.1 sc ns&&N6 b x.1.2.2.1 sc ns)
 |.nh t a,s,sc,ns=>(adB s).any λx=>s6 t x.1.1 sc ns&&N6 a x.1.2.1 sc ns
 |.BA i j c b,s,sc,ns=>(WE s).any λx=>(y9 x.1.1).any λy=>(vH x.1.2.1).any λz=>(jC z.1.1).any λw=>(a1 z.1.2.1).any λe=>w.1.1==("enumerate":Str)&&(zM sc ns y.1.1==O [i,j]&&
  (y.1.1.all (λe=>(jC e).isSome)&&(!ns.contains w.1.1&&(sc.names.lookup w.1.1==O .globalImplicit&&(!gY e.1&&(s6 c e.1 sc ns&&N6 b x.1.2.2.1 sc ns))))))
 |.HG t c b,s,sc,ns=>(WE s).any λx=>!mH x.1.2.1&&((jC x.1.1).isSome&&(YI t x.1.1 sc ns&&(s6 c x.1.2.1 sc ns&&N6 b x.1.2.2.1 sc ns)))
 |.pV c,s,sc,ns=>(adC s).any λx=>s6 c x.1.1 sc ns
 |.Ed b C i hb,s,sc,ns=>(adD s).any λx=>(adE x.1.2.1).any λy=>(jC y.1.1).any λz=>ns[i]?==O y.1.2.1&&(sc.names.lookup y.1.2.1==O .local&&(!ns.contains z.1.1&&(sc.names.lookup z.1.1==O .globalImplicit&&(!(z.1.1==("__debug__":Str))&&
  (sO (BH.lookup z.1.1) (.S C)&&(!y.1.2.2.1.isEmpty&&(N6 b x.1.1 sc ns&&N6 hb y.1.2.2.1 sc ns)))))))
noncomputable def N6:av->List lp->Scope->List Str->Bool
 |[],s,_,_=>s.isEmpty
 |c::r,s,sc,ns=>(aC s).any λx=>cS c x.1.1 sc ns&&N6 r x.1.2 sc ns
end
theorem Rh{o:Option α}{f:α->Bool}(h:o.any f=D):∃a,f a=D:=by
 induction o with
 |none=>exact nq bP h ff
 |some a=>exact⟨a,h⟩
@[elab_as_elim]theorem vw{g:β->α}(e:α)(o:Option {x:β//e=g x}){f:{x:β//e=g x}->Bool}{P:α->Prop}(h:o.any f=D)(k:∀x (z:e=g x),f ⟨x,z⟩=D->P (g x)):P e:=ka (Rh h) λa q=>a.2.symm▸k a.1 a.2 q
theorem ey{α:Type}{o:Option α}{f:α->Bool}{P:Prop}(h:o.any f=D)(k:∀a,f a=D->P):P:=ka (Rh h) λa h=>k a h
theorem xI{o:Option α}{P:Prop}(h:o.isSome=D)(k:α->P):P:=match o,h with|some a,_=>k a
theorem nt{a:Bool}(h:(!a)=D):a=bk:=by induction a<;>first|rfl|exact nq bP h ff
theorem L6:∀{B:aw},(B.all λ|.aQ U=>D|_=>bk)=D->(B.map λ|.aQ l=>l|_=>[]).map V.aQ=B
 |[],_=>rfl
 |.aQ l::r,h=>aH (V.aQ l::·)<|L6 h
theorem YM{v:V}(h:oV v=D):dcV (cdV v)=v:=by
 cases v with
 |du b=>induction b<;>rfl
 |bD B=>exact aH V.bD<|L6 h
 |wk a b=>exact nq bP h ff
 |_=>rfl
theorem YN{a b:V}(h:sV a b=D):a=b:=by have c:=an (an h).2;exact rl (YM (an h).1)<|rl (YM c.1)<|rr (cR c.2) Z
theorem Ri{a:au}{b:V}(h:sO a b=D):a=O b:=by
 induction a with
 |none=>exact nq bP h ff
 |some a=>exact rr (YN h) Z
section
open SeqAt
variable{q:Bool} {y:a8} {ys:aw} {ad:a8} {op:qc} {on:qc}
section
variable{c:dC} {J:bw} {E:Ex}
noncomputable def evv:bb->bb->Bool
 |.int a _,.int b _=>a==b
 |.str a _,.str b _=>a==b
 |.none,.none=>D
 |.bool a,.bool b=>a==b
 |_,_=>bk
structure Rq(A:kr)(s:bG)(x y:bb)(q:Bool):Prop where
 a:RcAt A s x y q
 n:RcNeAt A s x y (!q)
 e:EqAt A s x y q
 v:evv x y=q
theorem aam(i j:aq):(tx i==tx j)=decide (i=j):=by refine bL (aaa _ _) ?_;exact Bool.beq_eq_decide_eq ..
def oP(o:ai)(P:Bool->Prop):Prop:=match o with
 |some q=>P q
 |none=>True
theorem adF{a b:V}{x y:bb}(r:cY h a x)(rb:cY h b y):oP (Wy a b) (Rq A s x y):=by
 cases a with
 |bR=>
  refine rnn r ?_;cases b with
  |bR=>exact rnn rb ⟨.none_none,.none_none,.same _,Z⟩
  |aL j=>exact Ah rb λu=>⟨.none_int _ _,.none_int _ _,.none_int _ _,Z⟩
  |aQ j=>exact D' rb λu=>⟨.none_str _ _,.none_str _ _,.none_str _ _,Z⟩
  |_=>trivial
 |du i=>
  refine rr (su r) ?_;cases b with
  |du j=>exact rr (su rb) ⟨.bool_bool _ _,.bool_bool _ _,.bool_bool _ _,Z⟩
  |_=>trivial
 |aL i=>
  refine Ah r λt=>?_;cases b with
  |bR=>exact rnn rb ⟨.int_none _ _,.int_none _ _,.int_none _ _,Z⟩
  |aL j=>exact Ah rb λu=>⟨.int_int _ _ _ _,.int_int _ _ _ _,.int_int _ _ _ _,Z⟩
  |aQ j=>exact D' rb λu=>⟨.int_str _ _ _ _,.int_str _ _ _ _,.int_str _ _ _ _,Z⟩
  |_=>trivial
 |aQ i=>
  refine D' r λt=>?_;cases b with
  |bR=>exact rnn rb ⟨.str_none _ _,.str_none _ _,.str_none _ _,Z⟩
  |aL j=>exact Ah rb λu=>⟨.str_int _ _ _ _,.str_int _ _ _ _,.str_int _ _ _ _,Z⟩
  |aQ j=>
   refine D' rb λu=>?_;show Rq A s _ _ (decide (i=j));exact rl (aam _ _) ⟨.str_str _ _ _ _,.str_str _ _ _ _,.str_str _ _ _ _,Z⟩
  |_=>trivial
 |_=>trivial
theorem Rj{a b:V}{x y:bb}(c:Wy a b=O q)(r:cY h a x)(rb:cY h b y):Rq A s x y q:=(c▸adF r rb:oP (O q) _)
theorem L7{o1 o2:ai}{f:Bool->Bool->Bool}(h:(match o1,o2 with|some p,O q=>O (f p q)|_,_=>X)=O q):∃p r,o1=O p/\o2=O r/\f p r=q:=by
 induction o1 with
 |none=>induction o2<;>exact nq aP h ff
 |some p=>
  induction o2 with
  |none=>exact nq aP h ff
  |some r=>exact fe p r Z Z<|aJ h
theorem WG:∀{ys:aw} {q:Bool},xD B ys=O q->B.length=ys.length->∃e:Nat->Bool,(∀j a b,B[j]?=O a->ys[j]?=O b->Wy a b=O (e j))/\(dk B.length).all e=q:=by
 induction B with
 |nil=>
  intro ys q h c;induction ys with
  |nil=>exact bX (λU=>D) (λU U U h=>nq aP h ff)<|aJ h
  |cons=>cases c
 |cons x B i=>
  intro ys q h c;induction ys with
  |nil=>cases c
  |cons y ys=>
   refine fE (L7 (f:=(·&&·)) h) λp r k l e=>cK (i l<|eQ c) λf m n=>bX (λj=>Nat.casesOn j p f) (λj a b d g=>?_) ((aH (List.all · _) List.range_succ_eq_map).trans ?_)
   rotate_left
   .show(p&&(lG Nat.succ<|dk B.length).all _)=q;exact(aH (p&&·)<|(ub (f:=Nat.succ)).trans n).trans e
   induction j with
   |zero=>exact aJ d▸aJ g▸k
   |succ j=>exact m j a b d g
theorem L8{a:V}{x:bb}(d:cY h a x):∀{L:List bb} {q:Bool},xE a B=O q->eX h B L->(∀y∈L,EqAt A s y x<|evv y x)/\L.any (evv · x)=q:=by
 induction B with
 |nil=>exactλh r=>rln r ⟨λU c=>(nomatch c),aJ h⟩
 |cons b B i=>
  intro L q h r;exact n6 r λv L r1 g=>fE (L7 (f:=(·||·)) h) λp z j k e=>fw (i k g) λl m=>have R:=Rj (A:=A) (s:=s) j r1 d;⟨λy c=>(mc c).elim (λe=>rr e<|rr R.v R.e)<|l y,(congr (aH or R.v) m).trans e⟩
theorem WH(h:Y a=O (.aF B))(i:iO c.g c.A Y s):∃L n,s.heap.get? a=O {cls:=.type "list",data:=.seq (iZ L) n}/\eX s.heap B L/\L.length<=cE:=i.gD a _ h
theorem gI(e:h.get? a=O {cls:=.type "list",data:=.seq (iZ L) n}):h.IsList a L.toArray:=lR _ e Z n Z
theorem qu:cE<2^62:=dc
structure Cm(c:dC)(s:bG)(op on:qc)(x y:bb)(q:Bool):Prop where
 t:∀(Q:bb->bG->Prop) E,(∀n,Q (.bool q) {s with toks:=n})->ee c.M c.A (sY op x y) Q E s
 n:∀(Q:bb->bG->Prop) E,(∀n,Q (.bool !q) {s with toks:=n})->ee c.M c.A (sY on x y) Q E s
theorem Cm.eq{x y:bb}(a:RcAt c.A s x y q)(n:RcNeAt c.A s x y (!q)):Cm c s .Eq .NotEq x y q:=⟨λU U z=>cmp_ofEq<|a _ _ _ _<|z s.toks,λU U z=>cmp_ofNotEq<|n _ _ _ _<|z s.toks⟩
theorem Rk(e:L[j]?=O v)(h:j<L.toArray.size):L.toArray[j]=v:=(List.getElem?_eq_some_iff.mp e).2
theorem HI{x:a8}{us:List bb}(d:s.heap.IsList x L.toArray)(f:s.heap.IsList y us.toArray)(r1:eX s.heap B L)(r:eX s.heap ys us)(g:c.A.units<Dh)(a:(if B.length=ys.length then xD B ys else O bk)=O q):Cm c s .Eq .NotEq (.ref x) (.ref y) q:=by
 have l:L.toArray.size=B.length:=r1.ez;have i:us.toArray.size=ys.length:=r.ez;by_cases h:B.length=ys.length
 .replace a:=(bI h)▸a;refine cK (WG a h) λe z k=>have b:L.toArray.size=us.toArray.size:=l.trans<|h.trans i.symm;?_;have o:∀j (m:j<L.toArray.size) (n:j<us.toArray.size),EqAt c.A.in1 s L.toArray[j] us.toArray[j] (e j):=λj m n=>by
   have p:=aV<|l▸m;have t:=aV<|i▸n;refine cK (r1.at p) λv xs C=>cK (r.at t) λu aO E=>rr (Rk xs m)<|rr (Rk aO n) ?_;exact(Rj (z j _ _ p t) C E).e
  replace k:=l▸k;have a1:=RcAt.lists d f b g o;have w:=RcNeAt.lists d f b g o;rw [k]at a1 w;exact .eq a1 w
 .replace a:=(bu h)▸a;refine rl (aJ a)<|have b:(L.toArray.size !=us.toArray.size)=D:=bne_iff_ne.mpr (by refine rr l<|rr i ?_;exact h);?_;exact .eq (RcAt.lists_lengths d f b g)<|RcNeAt.lists_lengths d f b g
theorem Rl{x:a8}{kv:ak}(j:(cP.cQ kv).fU c.g.w s.heap x)(l:(cP.cQ []).fU c.g.w s.heap y)(b:c.A.units<Dh):Cm c s .Eq .NotEq (.ref x) (.ref y) kv.isEmpty:=by
 refine gU j λk d r1 m n=>gU l λo f t xs i=>?_;clear m;obtain rfl:o=[]:=t;have a:k.length=([]:List (KK×bb)).length->KeqHits c.A.in1 s ([]:List (KK×bb)) k D:=λh=>by
  clear d r1;exact rr (List.length_eq_zero_iff.mp h) .nil
 have e:(k.length==([]:List (KK×bb)).length&&D)=kv.isEmpty:=by
  clear d a;induction kv with
  |nil=>obtain rfl:k=[]:=r1;rfl
  |cons p r=>(refine j6 r1 λu q v U=>?_;refine rr v ?_);rfl
 exact rl e ⟨λU U z=>keq_eq n i d f b a<|z s.toks,λU U z=>keq_ne n i d f b a<|z s.toks⟩
def Ef(g:Gd):Prop:=∀a k,xG a=O k->∀h:j9,g.K.In h->k.fU g.w h a
theorem WI{x:a8}(i:de c J Y s)(a:c.A.units<Dh)(h:Q4 x y Y=O q):Cm c s .Eq .NotEq (.ref x) (.ref y) q:=by
 delta Q4 at h;cases h1:Y x with
 |none=>replace h:=h1▸h;exact no h
 |some k=>
  have H:=i.gD _ _ h1;replace h:=h1▸h;clear h1;cases h2:Y y with
  |none=>replace h:=h2▸h;induction k<;>exact no h
  |some m=>
   have b:=i.gD _ _ h2;replace h:=h2▸h;clear h2;induction k with
   |aF B=>
    induction m with
    |aF d=>
     exact fE H λL n e r1 z=>fE b λus m f r g=>HI (gI e) (gI f) r1 r a h
    |_=>exact no h
   |cQ kv=>
    induction m with
    |cQ d=>
     induction d with
     |nil=>refine rl (aJ h) ?_;exact Rl H b a
     |cons=>exact no h
    |_=>exact no h
   |_=>exact no h
theorem Rm{x:a8}(i:de c J Y s)(a:Ef c.g)(b:c.A.units<Dh)(h:eqG x y Y=O q):Cm c s .Eq .NotEq (.ref x) (.ref y) q:=by
 delta eqG at h;cases h1:Y x with
 |none=>replace h:=h1▸h;exact no h
 |some k=>
  cases h2:xG y with
  |none=>replace h:=h2▸h1▸h;induction k<;>exact no h
  |some m=>
   replace h:=h2▸h1▸h;have H:=a _ _ h2 _ i.vE;clear h2;induction k with
   |aF B=>
    induction m with
    |aF f=>
     exact i.zJ h1 λL n e r1 z=>fE H λus m d r j=>HI (gI e) (gI d) r1 r b h
    |_=>exact no h
   |_=>exact no h
theorem HJ{a b:V}{x y:bb}(i:de c J Y s)(k:Ef c.g)(f:c.A.units<Dh)(d:eqV a b Y=O q)(e:cY s.heap a x)(rb:cY s.heap b y):Cm c s .Eq .NotEq x y q:=by
 have j:Wy a b=O q->Cm c s .Eq .NotEq x y q:=λh=>have r:=Rj (A:=c.A) (s:=s) h e rb;.eq r.a r.n;cases a with
 |S m=>
  clear j;refine rr (fG e) ?_;clear e;cases b with
  |S l=>refine rr (fG rb) ?_;exact WI i f d
  |ph l=>refine rr (Bo rb) ?_;exact Rm i k f d
  |_=>exact no d
 |_=>exact j d
theorem BK{a:V}{k:KK}{x:bb}{w:fZ}(e:toK a=O k)(r:cY h a x):(Bs w).is k x=D:=by
 cases a<;>cases e
 .refine Ah r λt=>?_;simp [Bs,KK.is,Ax]
 .refine D' r λt=>?_;simp [Bs,KK.is,xk]
theorem lr.FJ:∀{kv:ak} {kvs:List (KK×bb)} (k:KK),lr h kv kvs->match ni kv k with|some v=>∃u,JD kvs k=O u/\cY h v u|none=>JD kvs k=X:=by
 intro l;induction l with
 |nil=>
  intro U k r;exact rr r Z
 |cons a kv i=>
  obtain⟨k',v⟩:=a;intro U k r;refine fE r λu q z r1 b=>rr z<|have i:=i k b;?_;by_cases e:k'=k
  .clear i;subst e;exact rr (show ni ((k',v)::kv) k'=O v from bI Z)<|bX u (aH (qP Prod.snd)<|JE<|aN Z) r1
  .refine rr (show ni ((k',v)::kv) k=ni kv k from bu e) ?_;have:JD ((k',u)::q) k=JD q k:=by
    unfold JD;exact rr (JF<|by simpa using e) Z
   exact rr this i
theorem lr.xJ{kv:ak}{kvs:List (KK×bb)}(k:KK)(r:lr h kv kvs):(JD kvs k).isSome=(ni kv k).isSome:=by
 have:=r.FJ k;cases e':ni kv k with
 |some v=>replace this:=e'▸this;exact cK this λu e U=>rr e Z
 |none=>replace this:=e'▸this;exact rr this Z
theorem lr.ez:∀{kv:ak} {kvs:List (KK×bb)},lr h kv kvs->kvs.length=kv.length:=by
 intro l;induction l with
 |nil=>
  intro U r;exact rr (show _=[]from r) Z
 |cons a kv i=>
  obtain⟨k,v⟩:=a;intro U r;exact fE r λu q e U b=>rr e (aH (·+1)<|i b)
theorem Rn{w:fZ}:∀{B:aw} {k:ar} {L:List bb},aak B=O k->eX h B L->ItemsAre (ik w) k L:=by
 intro l;induction l with
 |nil=>
  intro U U e r;exact rr (fP r)<|rl (aJ e) .nil
 |cons x B i=>
  intro k L e r;refine n6 r λv q a b=>?_;clear r;cases x with
  |aL n=>
   exact Fs e λk' c=>Ah a λt=>.cons (by simp [ik,intKind,Ax])<|i c b
  |_=>exact nq aP e ff
theorem Ro{w:fZ}:∀{B:aw} {k:ae} {L:List bb},wR B=O k->eX h B L->rg w h k L:=by
 intro l;induction l with
 |nil=>
  intro U U e r;exact rr (fP r)<|rl (aJ e) .jr
 |cons x B i=>
  intro k L e r;refine n6 r λv q a b=>?_;clear r;cases x with
  |bD y=>
   refine cK (Option.bind_eq_some_iff.mp e) λp d c=>?_;clear e;refine Fs c λk' f=>?_;clear c;exact Wm a λs us g rl z=>rO g λo j m n hd=>.gu (mF o _ n j m hd<|Rn d rl)<|i f b
  |_=>exact nq aP e ff
theorem AL{w:fZ}{k:ae}(e:wR B=O k)(r:cY h (.bD B) v):∃a,v=.ref a/\tY w h k a:=Wm r λb us c rl z=>rO c λo d f n hd=>yP b Z o _ n d f ⟨hd,Ro e rl⟩
theorem Eg{w:fZ}(d:h.DictOf (Bs w) a []):h.DictOfH (Kf w) a []:=by
 refine l5 d λo es ep e b hd f z=>?_;obtain⟨c,n⟩:=z;refine ja o es ep e b hd ?_ ⟨λx b=>by simp at b,kN⟩;have:=c;clear hd f c;induction es with
 |mk l=>induction l with
  |nil=>rfl
  |cons x l=>cases this
theorem oM.xJ(k:ae):∀{kv:List (ae×V)} {B:List (ae×a8×bb)},oM h kv B->(atKey B k).isSome=(mi kv k).isSome:=by
 intro l;induction l with
 |nil=>
  intro U r;exact rr r Z
 |cons a r i=>
  obtain⟨x,v⟩:=a;intro U q;obtain⟨b,u,q,rfl,_,q⟩:=q;have:=i q
  skip
  by_cases h:x=k
  .exact rr (show mi ((x,v)::r) k=O v from bI h)<|aH wJ<|aH (qP _)<|JE (p:=λy:ae×a8×bb=>decide (y.1=k))<|aN h
  .exact rr (show mi ((x,v)::r) k=mi r k from bu h)<|(aH wJ<|aH (qP _)<|JF (p:=λy:ae×a8×bb=>decide (y.1=k)) λz=>h<|aI z).trans this
theorem Eh{a:V}{x:bb}(e:s.heap.IsList ad L.toArray)(r:eX s.heap B L)(b:xE a B=O q)(g:cY s.heap a x):Cm c s .In .NotIn x (.ref ad) q:=by refine fw (L8 (A:=c.A.in1) (s:=s) g b r) λd f=>?_;rw [<-VB]at f;clear b;subst f;exact⟨λQ E z=>in_listAt (evv · x) e (λy h=>d y<|List.mem_toArray.mp h)<|z s.toks,λQ E z=>notIn_listAt (evv · x) e (λy h=>d y<|List.mem_toArray.mp h)<|z s.toks⟩
theorem aan{a:V}{x:bb}(e:s.heap.IsTuple ad L.toArray)(r:eX s.heap B L)(b:xE a B=O q)(g:cY s.heap a x):Cm c s .In .NotIn x (.ref ad) q:=by refine fw (L8 (A:=c.A.in1) (s:=s) g b r) λd f=>?_;rw [<-VB]at f;clear b;subst f;exact⟨λQ E z=>in_tupleAt (evv · x) e (λy h=>d y<|List.mem_toArray.mp h)<|z s.toks,λQ E z=>notIn_tupleAt (evv · x) e (λy h=>d y<|List.mem_toArray.mp h)<|z s.toks⟩
theorem Ei{a:V}{x:bb}{kv:ak}(H:(cP.cQ kv).fU c.g.w s.heap ad)(h:((toK a).map λk=>(ni kv k).isSome)=O q)(b:cY s.heap a x):Cm c s .In .NotIn x (.ref ad) q:=by refine iz λP k0=>gU H λkvs d r z ns=>om h λk f e=>k0 ?_;rw [<-lr.xJ k r]at e;clear h k0;subst e;exact⟨λQ E z=>wpAny_in_of (BK f b) ns d.mapOf<|z _,λQ E z=>wpAny_notIn_of (BK f b) ns d.mapOf<|z _⟩
theorem uE(h:c.A.units+100<ll):c.A.in1.units+1<ll:=cw (show c.A.units+2<=c.A.units+100 from eZ (aK rfl) _) h
theorem L9{ks:aw}{x:bb}{k:ae}{B:List (ae×a8×bb)}(h:c.A.units+100<ll)(d:s.heap.DictOfH (Kf c.g.w) ad B)(ns:(ad==lP)=bk)(a:wR ks=O k)(r:cY s.heap (.bD ks) x):Cm c s .In .NotIn x (.ref ad) (atKey B k).isSome:=cK (AL (w:=c.g.w) a r) λe b tt=>rr b ⟨λQ E z=>wpAny_in_heap (uE h) tt ns d<|z _,λQ E z=>wpAny_notIn_heap (uE h) tt ns d<|z _⟩
theorem aao{kv:ak}{a:V}(h:dIn kv a=O q):((toK a).map λk=>(ni kv k).isSome)=O q\/∃B,a=.bD B/\kv=[]/\((wR B).map λU=>bk)=O q:=by
 cases a with
 |bD B=>
  induction kv with
  |nil=>exact .inr<|fW B Z Z h
  |cons=>exact no h
 |_=>exact .inl h
theorem aap{a:V}{x:bb}(i:de c J Y s)(g:c.A.units+100<ll)(h:BB a ad Y=O q)(b:cY s.heap a x):Cm c s .In .NotIn x (.ref ad) q:=by
 delta BB at h;cases hl:Y ad with
 |none=>replace h:=hl▸h;exact no h
 |some k=>
  replace h:=hl▸h;have H:=i.gD _ _ hl;clear hl;induction k with
  |aF B=>
   exact iz λP k0=>fE H λL n e r z=>k0<|Eh (gI e) r h b
  |cQ kv=>
   rcases aao h with h|⟨B,rfl,rfl,h⟩
   .exact Ei H h b
   .refine iz λP k0=>om h λk f j=>?_;obtain rfl:=j;refine gU H λkvs d r z ns=>k0 ?_;clear h;clear h k0;obtain rfl:=r;exact L9 g (Eg d) ns f b
  |sv kv=>
   cases a with
   |bD B=>
    refine iz λP k0=>om h λk f e=>hV H λB d r ns=>k0<|have e:=(oM.xJ k r)▸e;?_;clear h;clear k0;subst e;exact L9 g d ns f b
   |_=>exact no h
  |_=>exact no h
theorem HK{a b:V}{x y:bb}(i:de c J Y s)(j:Ef c.g)(m:c.A.units+100<ll)(h:inV a b Y=O q)(d:cY s.heap a x)(rb:cY s.heap b y):Cm c s .In .NotIn x y q:=by
 cases b with
 |aQ l=>
  refine D' rb λt=>?_;cases a with
  |aQ p=>
   exact D' d λu=>rl (aJ h) ⟨λQ E z=>in_str<|z s.toks,λQ E z=>notIn_str<|z s.toks⟩
  |_=>exact no h
 |bD B=>
  exact Wm rb λf L o r z=>aan o r h d
 |S f=>
  exact rr (fG rb)<|aap i m h d
 |ph f=>
  refine rr (Bo rb) ?_;delta inV at h;dsimp only at h;clear rb;cases hl:xG f with
  |none=>replace h:=hl▸h;exact no h
  |some k=>
   replace h:=hl▸h;have H:=j _ _ hl _ i.vE;clear hl;induction k with
   |aF B=>
    exact fE H λL n e r z=>Eh (gI e) r h d
   |cQ kv=>exact Ei H h d
   |_=>exact no h
 |_=>exact no h
theorem HL{x:bb}(h:plainIs x .none=D)(e:x≠.none):Cm c s .Is .IsNot x .none bk:=⟨λU U z=>wpAny_is_other h e<|z s.toks,λU U z=>wpAny_isNot_other h e<|z s.toks⟩
theorem BL{a:V}{x:bb}(d:BC a=O q)(r:cY s.heap a x):Cm c s .Is .IsNot x .none q:=by
 cases a with
 |bR=>refine rr (qp r) ?_;exact rl (aJ d) ⟨λQ E z=>wpAny_is_self Z<|z s.toks,λQ E z=>wpAny_isNot_self Z<|z s.toks⟩
 |du b=>refine rr (su r) ?_;exact rl (aJ d)<|HL Z λh=>nq f9 h ff
 |aL b=>refine Ah r λt=>?_;exact rl (aJ d)<|HL Z λh=>nq f9 h ff
 |aQ b=>refine D' r λt=>?_;exact rl (aJ d)<|HL Z λh=>nq f9 h ff
 |S b=>refine rr (fG r) ?_;exact rl (aJ d)<|HL Z λh=>nq f9 h ff
 |bD b=>(refine j6 (xB r) λf L e U=>?_;refine rr e ?_);exact rl (aJ d)<|HL Z λh=>nq f9 h ff
 |_=>exact no d
theorem L'{f:Int->Int->Bool}{a b:V}{x y:bb}(e:Q5 f a b=O q)(r:cY s.heap a x)(rb:cY s.heap b y):∃m n t u,x=.int m t/\y=.int n u/\f m n=q:=by
 cases a with
 |aL m=>
  cases b with
  |aL n=>
   obtain⟨t,rfl⟩:=rh r;obtain⟨u,rfl⟩:=rh rb;exact qo _ _ t u Z Z<|aJ e
  |_=>exact no e
 |_=>exact no e
theorem Rp{o:ai}(h:o.map (!·)=O q):o=O !q:=by
 induction o with
 |none=>exact no h
 |some p=>induction p<;>induction q<;>first|rfl|exact nq bP (aJ h) ff
theorem Cm.sw{x y:bb}(h:Cm c s op on x y !q):Cm c s on op x y q:=⟨λQ E z=>h.n Q E<|rr (Bool.not_not _) z,h.t⟩
theorem Cm.w{x y:bb}{Q:bb->N->bG->Prop}(h:Cm c s op on x y q)(i:de c J Y s)(q:∀s',dh c Y s J Y s'->Q (.bool q) Y s'):W c J Y s (sY op x y) Q E:=h.t _ _ λn=>⟨Y,.tk i n,q _<|.tk i n⟩
theorem Ej{a b:V}{x y:bb}{Q:bb->N->bG->Prop}(i:de c J Y s)(j:Ef c.g)(k:c.A.units+100<ll)(d:yX op a b Y=O q)(r:cY s.heap a x)(rb:cY s.heap b y)(h:∀s',dh c Y s J Y s'->Q (.bool q) Y s'):W c J Y s (sY op x y) Q E:=by
 have l:c.A.units<Dh:=cw (d7 ..) k;induction op with
 |Eq=>exact(HJ i j l d r rb).w i h
 |NotEq=>exact(HJ i j l (Rp d) r rb).sw.w i h
 |In=>exact(HK i j k d r rb).w i h
 |NotIn=>exact(HK i j k (Rp d) r rb).sw.w i h
 |Is=>
  cases b with
  |bR=>obtain rfl:=qp rb;exact(BL d r).w i h
  |_=>exact no d
 |IsNot=>
  cases b with
  |bR=>obtain rfl:=qp rb;exact(BL (Rp d) r).sw.w i h
  |_=>exact no d
 |Lt=>(refine kh (L' d r rb) λm n t u z e f=>?_;obtain rfl:=z;obtain rfl:=e;obtain rfl:=f);exact lt_int ⟨Y,.cL i,h s<|.cL i⟩
 |LtE=>(refine kh (L' d r rb) λm n t u z e f=>?_;obtain rfl:=z;obtain rfl:=e;obtain rfl:=f);exact le_int ⟨Y,.cL i,h s<|.cL i⟩
 |Gt=>(refine kh (L' d r rb) λm n t u z e f=>?_;obtain rfl:=z;obtain rfl:=e;obtain rfl:=f);exact gt_int ⟨Y,.cL i,h s<|.cL i⟩
 |GtE=>(refine kh (L' d r rb) λm n t u z e f=>?_;obtain rfl:=z;obtain rfl:=e;obtain rfl:=f);exact ge_int ⟨Y,.cL i,h s<|.cL i⟩
end
end
variable{q:Bool} {y:a8} {ys:aw} {ad:a8} {op:qc} {on:qc}
section
open SeqAt
variable{eh:N}
section
variable{c:dC} {J:bw} {E:Ex}
theorem dh.vI(i:de c J Y s)(r:eX s.heap B L)(z:L.length<=cE):
 Y s.heap.objs.size=X/\dh c Y s J (Y.aX s.heap.objs.size<|.aF B) {s with heap:=s.heap.push {cls:=.type "list",data:=.seq L.toArray},toks:=n}:=by
 refine⟨i.gx<|dZ _,i.lI<|.oE i.toiO (.nf s _ n) (dZ _) (fe L 0 (cJ _ Z) (r.cp ?_) z) Z⟩;exact(Qt.nf s _ n).ik
theorem dh.Rr(i:de c J Y s)(st:dh c Y s J eh s₁)(r:eX s₁.heap B L)(z:L.length<=cE):
 eh s₁.heap.objs.size=X/\dh c Y s J (eh.aX s₁.heap.objs.size<|.aF B) {s₁ with heap:=s₁.heap.push {cls:=.type "list",data:=.seq L.toArray},toks:=n}:=fw (dh.vI (n:=n) st.cm r z) λh q=>⟨h,st.aU q⟩
theorem t5(r:eX h B L):∀n:Nat,eX h (bg n B).flatten (bg n L).flatten:=by
 intro l;induction l with
 |zero=>
  rfl
 |succ n i=>
  refine ?_;exact r.oL<|i
theorem uF(B:Array α):∀(n:Nat) (a:Array α),afP (λx b=>x++b) a (bg n B)=a++(bg n B.toList).flatten.toArray:=by
 intro l;induction l with
 |zero=>
  intro a;rfl
 |succ n i=>
  intro a;refine bL (i _)<|rr (sb) ?_;apply ac5;simp
theorem Ku(n:Nat):afP (λx a=>x++a) #[] (bg (if L.toArray.isEmpty=D then 0 else n) L.toArray)=(bg n L).flatten.toArray:=by
 refine bL (uF _ _ _) ?_;induction L with
 |nil=>simp
 |cons v L=>simp
theorem WJ{l:aq}{n:Int}(h:0<=n):(Txt.mul (tx l) n)=tx (bg n.toNat l).flatten:=by
 by_cases a:n<1
 .have:n=0:=by lia
  exact rr this Z
 .refine bL (bu a) ?_;have e:(⟨(bg n.toNat (tx l).cps).foldl (·++·) #[]⟩:Str)=tx (bg n.toNat l).flatten:=by
   refine rr (uF _ _ _) ?_;simp
  split
  .rename_i q;simp only [hX,beq_iff_eq]at q
   rcases q with q|q
   .refine rr q ?_;simp
   .have:l=[]:=by simpa using q
    refine rr this ?_;simp [tx]
  .exact e
theorem WL{op:lZ}{m n:Int}{t u:Tok}(i:de c J Y s)(h:Q1 op m n λv=>Q v Y):W c J Y s (JS op (.int m t)<|.int n u) (Vq Q) E:=by
 induction op with
 |Add=>exact add_int ⟨Y,.tk i _,_,gW,h⟩
 |Sub=>exact sub_int ⟨Y,.tk i _,_,gW,h⟩
 |Mult=>exact mul_int ⟨Y,.tk i _,_,gW,h.2⟩ h.1
 |FloorDiv=>exact floordiv_int h.1 ⟨Y,.tk i _,_,gW,h.2.2⟩<|.inl h.2.1
 |Mod=>exact mod_int h.1 ⟨Y,.tk i _,_,gW,h.2⟩
 |Pow=>exact pow_int h.1 h.2.1 ⟨Y,.tk i _,_,gW,h.2.2⟩
 |RShift=>exact rshift_int h.1 ⟨Y,.tk i _,_,gW,h.2⟩
 |BitAnd=>exact and_int ⟨Y,.tk i _,_,gW,h⟩
 |_=>exact h.elim
theorem Rt{op:lZ}{P:Prop}(h:Q2 op P):op=.Add/\P:=by induction op<;>first|exact⟨rfl,h⟩|exact h.elim
theorem Ru{op:lZ}{P:Prop}(h:Q3 op P):op=.Mult/\P:=by induction op<;>first|exact⟨rfl,h⟩|exact h.elim
theorem Ma(l:List α)(k:Nat):(bg k l).flatten.length=k*l.length:=by simp
theorem Mb{K M:Nat}(h:k<=K)(h':m<=M)(z:gh (K*M) 10000000=D):k*m<=cE:=aD (Fc h h')<|aD (aK z) dc
theorem toNat_le{n:Int}{K:Nat}(h:n<=K):n.toNat<=K:=Int.toNat_le.mpr h
theorem Rv{l:aq}{n:Int}{t u:Tok}(i:de c J Y s)(b:0<=n)(h:n<=10000)(a:l.length<=10)(q:Q (.aQ (bg n.toNat l).flatten) Y):W c J Y s (JS .Mult (.str (tx l) t)<|.int n u) (Vq Q) E:=by
 refine SB.mul (dW (by simp;lia) (λg d=>?_) λg d=>?_) λt' k=>⟨Y,.tk i k,.aQ _,?_,q⟩
 .refine rr (vC _) ?_;have:10<=(2^63-1)/n:=(Int.le_ediv_iff_mul_le<|Ka ‹_›).mpr (by lia);lia
 .have:=Mb a (toNat_le (K:=10000) h) Z;exact bj<|Nat.not_lt.mpr this
 .exact rr (WJ b)<|qq (rr (Ma _ _)<|Mb (toNat_le (K:=10000) h) a Z:((bg n.toNat l).flatten).length<=cE)
theorem WM{x:a8}(i:de c J Y s)(h:Wz x y Y Q):W c J Y s (JS .Add (.ref x)<|.ref y) (Vq Q) E:=by
 induction h with|mk e g a q=>
 refine i.zJ e λL n b r1 z=>i.zJ g λus m d r j=>have a:=(r.ez)▸(r1.ez)▸a;?_;refine fw (dh.vI (n:=s.toks) i (r1.oL r)<|rr (aY) a) λf st=>concat_meets (bX _ b Z) (bX _ d Z) noFill_list_add seq_list_add PySem.F.slot_list_add PySem.F.entry_list_add (PySem.F.args_list_add_2 _ _) (list_addW x y L.toArray us.toArray n m X X #[] #[] a)<|dW b d ?_;exact rr (List.append_toArray _ _) ⟨_,st,_,jk,q _ f⟩
theorem WN{x:a8}{n:Int}{u:Tok}(i:de c J Y s)(h:WB x n Y Q):W c J Y s (JS .Mult (.ref x)<|.int n u) (Vq Q) E:=by
 induction h with|mk e j g a q=>
 refine i.zJ e λL m b r1 z=>have a:=(r1.ez)▸a;?_;have d:=toNat_le (K:=100000) g;have k:L.toArray.size*n.toNat<=100000:=Fc a d;refine fw (dh.vI (n:=s.toks) i (t5 r1 n.toNat) (rr (Ma _ _)<|Mb d a Z:(bg n.toNat L).flatten.length<=cE)) λf st=>wpAny_binaryOp_repeat_ref (T:="list") (U:="int") dc (bX _ b Z) (λs'=>typeIs_int s' n u) noFill_list_mul F.fills_int_mul acN repeat_list F.slot_int_index.lookup
  (qm acN (typeIs_int s n u) F.entry_int_rmul (F.args_int_rmul_2 _ _) (int___rmul___int_list n u x L.toArray m)
   (mT b Z (bX _ b Z) (qm F.slot_list_mul (bX _ b Z) F.entry_list_mul (F.args_list_mul_2 _ _)
    (AutoListH.list___mul___list_int_3 x L.toArray m n u (by simp [Builtin.List.listFitsIndex];lia) (by lia) λh=>Nat.not_lt.mpr (Mb a d Z:L.toArray.size*n.toNat<=cE)<|aI h)
    ⟨b,?_⟩)))
 exact rr (Ku _) ⟨_,st,_,jk,q _ f⟩
theorem N7{op:lZ}{a b:V}{x y:bb}(i:de c J Y s)(d:aal op a b Y Q)(r:cY s.heap a x)(rb:cY s.heap b y):W c J Y s (JS op x y) (Vq Q) E:=by
 cases a with
 |aL m=>
  cases b with
  |aL n=>
   refine Ah r λt=>?_;(refine Ah rb λu=>?_);exact WL i d
  |_=>exact d.elim
 |aQ l=>
  refine D' r λt=>?_;cases b with
  |aL n=>
   exact Ah rb λu=>Z' (Ru d) λz e f g h=>rr z<|Rv i e f g h
  |aQ m=>
   exact D' rb λu=>m7 (Rt d) λz e h=>rr z<|add_str (λt' tk=>⟨Y,.tk i _,.aQ<|l++m,by refine rr (yQ _ _) ?_;exact qq (rr (aY)<|e:(l++m).length<=cE),h⟩) (by refine ?_;exact e)
  |_=>exact d.elim
 |S j=>
  refine rr (fG r) ?_;cases b with
  |aL n=>
   exact Ah rb λu=>fw (Ru d) λz h=>rr z<|WN i h
  |S bd=>
   exact rr (fG rb)<|fw (Rt d) λz h=>rr z<|WM i h
  |_=>exact d.elim
 |_=>exact d.elim
end
end
variable{eh:N}
section
open SeqAt
theorem Rw(a b:Nat):tc (a:Int) (b:Int) 1=(dk<|b-a).map (a+·):=by
 unfold tc;by_cases h:(a:Int)<b
 .refine rr (bI h)<|rr (Int.ediv_one _)<|rr (eW _ _)<|rl (Int.natCast_sub<|li<|ew h) ?_;exact jH λk U=>aH Int.toNat (show(a:Int)+1*k=((a+k:Nat):Int) by refine rr (afQ _) ?_;rfl)
 .refine rr (bu h)<|rr (wc<|li<|Ka h) ?_;rfl
theorem aaq(B:List α)(a:Nat):∀n,a+n<=B.length->(dk n).filterMap ((λx=>B[x]?)∘(a+·))=(B.drop a).take n:=by
 intro l;induction l with
 |zero=>
  intro U;exact Z
 |succ n i=>
  intro h;refine rr (qd)<|bL (oI)<|rr (i<|jy h)<|rr (dK)<|rr (yC) ?_
  congr 1
theorem Mc(B:List α)(a b:Nat)(c:b<=B.length):(tc (a:Int) (b:Int) 1).filterMap (B[·]?)=(B.take b).drop a:=by
 refine rr (Rw _ _)<|bL (List.filterMap_map) ?_;by_cases h:a<=b
 .exact bL (aaq B a (b-a)<|rr (iL h) c)<|rr (List.drop_take) Z
 .refine rr (wc<|V3 h)<|rr (List.drop_eq_nil_of_le<|aD (List.length_take_le ..)<|V3 h) ?_;rfl
def Rx(n:Nat)(lo:ao):Nat:=match lo with|some k=>wm n k|none=>0
def Ry(n:Nat)(hi:ao):Nat:=match hi with|some k=>wm n k|none=>n
theorem WO(n:Nat)(k:Int):wm n k<=n:=by
 unfold wm;by_cases h:0<=k
 .exact rr (bI h)<|V4 ..
 .exact rr (bu h)<|Int.toNat_le.mpr<|Fd<|rr (JT _)<|ew<|nle h
theorem FK(n:Nat)(h:ao):Ry n h<=n:=by induction h with|none=>exact bO _|some k=>exact WO n k
theorem YO(n:Nat)(k:Int):max 0 (min (if k<0 then k+n else k) n)=((wm n k:Nat):Int):=by
 unfold wm;by_cases h:k<0
 .exact rr (bI h)<|rr (bu<|wj h)<|rr (Int.min_eq_left<|Fd<|rr (JT _)<|ew h)<|rr (Yz _)<|Int.max_comm _ _
 .refine rr (bu h)<|rr (bI<|Int.not_lt.mp h) ?_;refine zn (Int.not_lt.mp h) λj=>rr (lX _) ?_;lia
theorem N8(lo h:ao)(n:Nat):sliceBounds lo h X n=((Rx n lo:Int),(Ry n h:Int),1):=by
 induction lo with
 |none=>
  induction h with
  |none=>rfl
  |some m=>exact aH (λx=>((0:Int),x,(1:Int)))<|YO n m
 |some k=>
  induction h with
  |none=>exact aH (λx=>(x,(n:Int),(1:Int)))<|YO n k
  |some m=>exact D0 (YO n k)<|D0 (YO n m) Z
theorem N9(L:List bb)(lo h:ao):slicePick L.toArray lo h X=(hU L lo h).toArray:=by unfold slicePick;refine rr (N8 _ _ _) ?_;have:=Mc L (Rx L.length lo) _<|FK L.length h;simp only [hM,g6];exact aH iZ this
theorem Rz(lo h:ao)(n:Nat):jh lo h 1 n=tc (Rx n lo) (Ry n h) 1:=by
 induction lo with
 |none=>
  induction h with
  |none=>rfl
  |some m=>exact aH (λx=>tc 0 x 1)<|YO n m
 |some k=>
  induction h with
  |none=>exact aH (λx=>tc x n 1)<|YO n k
  |some m=>exact congr (aH (λx y=>tc x y 1)<|YO n k)<|YO n m
theorem RA(l:aq)(lo h:ao):((jh lo h 1 l.length).filterMap (l[·]?))=hU l lo h:=rr (Rz _ _ _)<|Mc _ _ _<|FK ..
theorem RB(l:List α)(lo h:ao):(hU l lo h).length=(jh lo h 1 l.length).length:=by refine rr (Rz _ _ _)<|rr (Rw _ _)<|rr (aT _)<|rr (et) ?_;show((l.take<|Ry l.length h).drop<|Rx l.length lo).length=_;exact bL (gw)<|rr (jV)<|rr (qn<|FK ..) Z
theorem zN(B:List α)(lo h:ao):(hU B lo h).length<=B.length:=by show((B.take<|Ry B.length h).drop<|Rx B.length lo).length<=_;exact rr (gw)<|aD (Qr ..)<|LV ..
theorem eX.hU(r:eX h B L)(lo a:ao):eX h (Internal.hU B lo a) (Internal.hU L lo a):=by unfold Internal.hU;exact rr (r.ez)<|(r.take _).QO _
end
section
open SeqAt
def Ek(K:nH)(C:a8):Prop:=∃cd,Az K C=O cd/\cd.mro.contains (.type "object")=D/\∀self,refuseLoop self "__setattr__" cd.mro=jg ()
variable{K:nH} {prog:zD} {ox:Obj} {od:Option Obj} {name:Str}
open Builtin Builtin.ObjectAttr Builtin.Getset_descriptor in
theorem Md{R:Fb->bG->Prop}{w:fZ}{x:a8}{tk:Tok}(aG:K.In s.heap)(I:InstAt s.heap x ox C od)(d:Ek K C)(g:ji K (.ref C) name=O X)(h:ee (gy prog w) A.in1 (storeInOwnDict (.ref x) (.ref C) (.str name tk) name v bk) (λfin s'=>match fin with|.done f=>R (.ok f) s'|.again c'=>c'.quiet=D/\JC (gy prog w) A c' R s') (λe s'=>R (.error e) s') s):
 JC (gy prog w) A (.call (.builtin "object.__setattr__") ⟨[.ref x,.str name tk,v],[]⟩) R s:=by
 refine hV d λc b a i=>yK PySem.F.store_object.slot.plain PySem.F.store_object.entry<|@check_slot (gy prog w) _ _ s "object.__setattr__" "object" "__setattr__" (.ref x) [.str name tk,v] [] _ PySem.F.store_object.kind PySem.F.store_object.split (I.type.andThen (looks_mroIn aG (by unfold mroIn;exact rr b<|rr (Option.bind_some _ _)<|rr (bu (by rw [(by cases q:c.mro with|nil=>replace a:=q▸a;exact nq bP a ff|cons _ _=>rfl:c.mro.isEmpty=bk)];exact dc))<|rr a Z)):vX (gy prog w) s.heap (isInstance (.ref x)<|.type "object") D) (PySem.F.store_object.args (.ref x) (.str name tk) v) ?_;refine rr (osa_eq _ _ _ _)<|rr (refuse_eq _ _) ?_;refine wpAny_bind<|lb I.type<|lb ((V5 aG b).andThen .now:vX (gy prog w) s.heap (mroOf<|.ref C) c.mro) ?_;refine rr (i _)<|bZ<|lb I.type<|lb (wK aG g)<|lb (.now:vX (gy prog w) s.heap (storeTaker? X) X) ?_;exact h
structure YQ(K:nH)(C:a8):Prop where
 nu:ji K (.ref C) "__getattribute__"=O (O<|.builtin "object.__getattribute__")
 aar:ji K (.ref C) "__getattr__"=O X
 cd:∃cd,Az K C=O cd/\cd.hasDict=D
 FL:Ek K C
 aX:ji K (.ref C) "__setattr__"=O (O<|.builtin "object.__setattr__")
structure Me(K:nH)(C:a8):Prop where
 cW:subIn K (.ref C) (.type "BaseException")=O D
 nu:ji K (.ref C) "__getattribute__"=O (O<|.builtin "BaseException.__getattribute__")
 aar:ji K (.ref C) "__getattr__"=O X
 cd:∃cd,Az K C=O cd/\cd.hasDict=D
 FL:Ek K C
 aX:ji K (.ref C) "__setattr__"=O (O<|.builtin "object.__setattr__")
structure KF(g:Gd):Prop where
 gc:Ef g
 Bt:∀x v,BH.lookup x=O v->(∃val,ZU g.K gC x=O (O val)/\∀h,g.K.In h->cY h v val)\/(∃val,ZU g.K gC x=O X/\wI x=O val/\x≠"__name__"/\∀h,cY h v val)
 pJ:∀C,(oN.lookup C).isSome=D->lT C=bk->YQ g.K C
 fg:∀C,lT C=D->Me g.K C
 bK:∀C i,uy C i=D->ji g.K (.ref C) (nm i)=O X/\i<86
 ago:∀C i f,uA C i=O f->ji g.K (.ref C) (nm i)=O (O<|.ref f)/\Bb g.K (.ref f)=O (.type "function")/\i<86/\(oN.lookup C).isSome=D/\lT C=bk
 iW:∀C i f,L4 C i=O f->∀(A:kr) (E:bb->bG->Prop) (Q:bb×List bb->bG->Prop) (s:bG) pl,g.K.In s.heap->(∀n,Q (.ref f,[]) {s with toks:=n})->ee g.M A (wd (.ref C) (nm i) pl) Q E s
 exI:∀(A:kr) (E:bb->bG->Prop) (Q:bb×List bb->bG->Prop) (s:bG) pl,g.K.In s.heap->(∀n,Q (.builtin "Exception.__init__",[]) {s with toks:=n})->ee g.M A (wd (.type "Exception") (nm 39) pl) Q E s
 agp:∀C,lT C=D->subIn g.K (.ref C) (.type "BaseException")=O D/\Bb g.K (.ref C)=O (.type "type")
 exm:∀C,lT C=D->exmOne g.K (.ref C) (.ref C)=O D
structure Ok(c:dC)(Γ:mM):Prop where
 lJ:hW c
 g:Γ.g=c.g
 lD:pT c.A Γ.hd Γ.n
 kf:KF c.g
variable{P:Bool->Prop} {o1:qc} {o2:qc} {env:Env} {es:List Expr}
section
variable{c:dC} {J:bw} {E:Ex}
theorem Kv{o:Option α}{Q:α->Prop}(h:gX o Q):∃x,o=O x/\Q x:=by
 induction o with
 |none=>exact h.elim
 |some x=>exact bX x Z h
theorem spe{o:Option α}{Q:α->Prop}{P:Prop}(h:gX o Q)(k:∀x,o=O x->Q x->P):P:=cK (Kv h) k
theorem adG{x:Str}(ok:hW c)(a:c.bp[i]?=O x)(h:gX (nk J i) λv=>Q v Y):VE c J Y (eO (.Name x p) c.bc) Q E:=λs I=>by
 unfold nk at h;cases e:J[i]? with
 |none=>replace h:=e▸h;exact h.elim
 |some o=>
  induction o with
  |none=>replace h:=e▸h;exact h.elim
  |some v=>replace h:=e▸h;exact aaf ok I a e λu r=>⟨v,r,h⟩
theorem Kw{x:Str}{v:V}(ok:hW c)(k:KF c.g)(a:c.bc.kindOf x=O .globalImplicit)(hd:(x==("__debug__":Str))=bk)(b:BH.lookup x=O v)(h:Q v Y):VE c J Y (eO (.Name x p) c.bc) Q E:=λs I=>by
 exact bV (k.Bt x v b) (λz=>cK z λd e r=>Wt ok I e a hd ⟨v,r _ I.vE,h⟩) λf=>gU f λd e i j r=>Kj ok I e i j a hd ⟨v,r _,h⟩
theorem WQ{k:Const}{v:V}(a:Rg k=O v)(h:Q v Y):VE c J Y (eO (.Constant k n p) c.bc) Q E:=λs I=>by
 refine rr (eval_Constant _ _ _ _) ?_;induction k with
 |none=>obtain rfl:=aJ a;exact bZ ⟨Y,.cL I,.bR,oD,h⟩
 |bool b=>obtain rfl:=aJ a;exact bZ ⟨Y,.cL I,.du b,tl,h⟩
 |int i=>obtain rfl:=aJ a;exact wpAny_mkInt ⟨Y,.tk I _,.aL i,gW,h⟩
 |str x=>
  have a:=Option.ite_none_right_eq_some.mp a;obtain rfl:=aJ a.2;exact Dj ⟨Y,.tk I _,.aQ x.cps.toList,L1<|aD a.1 dc,h⟩
 |_=>exact nq aP a ff
theorem BM{x:Sem bb}{f:bb->Sem α}{P:aj}{Q:α->N->bG->Prop}(h:W c J Y s x (Vq P) E)(k:∀u b s',de c J b s'->∀a,cY s'.heap a u->P a b->W c J b s' (f u) Q E):W c J Y s (x>>=f) Q E:=h.bJ λu b s' st ⟨a,r,h⟩=>k u b s' st.cm a r h
theorem El{x y:Sem bb}{f:bb->bb->Sem α}{P:V->aj}{Q:α->N->bG->Prop}(h:VE c J Y x (λa Y=>VE c J Y y (P a) E) E)(I:de c J Y s)(k:∀u v d s',de c J d s'->∀a b,cY s'.heap a u->cY s'.heap b v->P a b d->W c J d s' (f u v) Q E):W c J Y s (x>>=λu=>jL [u] y>>=λv=>f u v) Q E:=BM (h s I) λu l s₁ e a r g=>(W.fM<|g s₁ e).bJ λv i s₂ st ⟨b,rb,j⟩=>k u v i s₂ st.cm a b (r.cp st.ik) rb j
@[elab_as_elim]theorem vb{v:V}{x:bb}{hp:j9}{C:bb->Prop}(h:match v with|.du b=>P b|_=>False)(r:cY hp v x)(k:∀b,P b->C (.bool b)):C x:=by
 cases v with
 |du b=>exact rr (su r)<|k b h
 |_=>exact h.elim
theorem tb{Q:ag}(i:de c J Y s)(h:Q b Y):W c J Y s (jL L<|ZX<|.bool b) (λv a U=>Q v a) E:=.fM<|Di ⟨Y,.cL i,h⟩
theorem tq(i:de c J Y s):W c J Y s (jL L<|ZX<|.bool b) (λv a U=>v=b/\a=Y) E:=tb (Q:=λv a=>v=b/\a=Y) i ⟨Z,Z⟩
theorem cq{a b:V}{x y:bb}(ok:Ok c Γ)(i:de c J Y s)(e:yX op a b Y=O q)(r:cY s.heap a x)(rb:cY s.heap b y):W c J Y s (sY op x y) (λv d U=>v=.bool q/\d=Y) E:=Ej i ok.kf.gc ok.lD.Fz e r rb λU U=>⟨Z,Z⟩
theorem cO{a b:V}{x y:bb}(ok:Ok c Γ)(i:de c J Y s)(r:cY s.heap a x)(rb:cY s.heap b y)(h:gX (yX op a b Y) λq=>Q (.du q) Y):W c J Y s (acM L<|sY op x y) (Vq Q) E:=spe h λq e h=>.yT<|Ej i ok.kf.gc ok.lD.Fz e r rb λU U=>⟨_,tl,h⟩
theorem cT{a b:V}{x y:bb}{Q:ag}(ok:Ok c Γ)(i:de c J Y s)(r:cY s.heap a x)(rb:cY s.heap b y)(h:gX (yX op a b Y) λq=>Q q Y):W c J Y s (acM L (sY op x y)>>=λw=>jL [w]<|ZX w) (λv d U=>Q v d) E:=spe h λq e h=>.bq (.yT<|cq ok i e r rb) λs' st=>tb st.cm h
theorem adH{l r:Expr}{op:lZ}(h:VE c J Y (eO l c.bc) (λa Y=>VE c J Y (eO r c.bc) (λb Y=>aal op a b Y Q) E) E):VE c J Y (eO (.BinOp l op r p) c.bc) Q E:=λs I=>
 El h I λu v Y s i a b d rb h=>.ki<|.yT<|N7 i h d rb
theorem adI{x:Expr}(h:VE c J Y (eO x c.bc) (λa Y=>match a with|.aL n=>Q (.aL<|-n) Y|_=>False) E):VE c J Y (eO (.UnaryOp .USub x p) c.bc) Q E:=λs I=>
 BM (h s I) λu Y s i a r h=>.ki (.fM (by
  cases a with
  |aL n=>refine Ah r λt=>?_;exact neg_int ⟨Y,.tk i _,.aL<|-n,gW,h⟩
  |_=>exact h.elim))
theorem adJ{x:Expr}(h:VE c J Y (eO x c.bc) (λa Y=>match a with|.du b=>Q (.du !b) Y|_=>False) E):VE c J Y (eO (.UnaryOp .Not x p) c.bc) Q E:=λs I=>
 BM (h s I) λu Y s i a r h=>.ki<|.fM<|vb h r λb h=>not_of<|Di ⟨Y,.cL i,.du !b,tl,h⟩
theorem Kx{r:Expr}(h:mH r=bk):behindInMarks op r=bk:=by revert h;cases r<;>first|exactλU=>rfl|exactλh=>nq bP h ff
theorem adK{l r:Expr}(ok:Ok c Γ)(d:mH r=bk)(h:VE c J Y (eO l c.bc) (λa Y=>VE c J Y (eO r c.bc) (λb Y=>gX (yX op a b Y) λq=>Q (.du q) Y) E) E):VE c J Y (eO (.Compare l [op] [r] p) c.bc) Q E:=λs I=>by
 refine rr (eval_Compare1 _ _ _ _ _)<|rr (we<|Kx d) ?_;exact El h I λu v Y s i a b e rb h=>.ki<|cO ok i e rb h
theorem adL{l r:Expr}{Q:ag}(ok:Ok c Γ)(d:mH r=bk)(h:VE c J Y (eO l c.bc) (λa Y=>VE c J Y (eO r c.bc) (λb Y=>gX (yX op a b Y) λq=>Q q Y) E) E):VT c J Y (isTrue (.Compare l [op] [r] p) c.bc<|eO (.Compare l [op] [r] p) c.bc) Q E:=λs I=>by
 refine rr (isTrue_Compare1 _ _ _ _ _ _)<|rr (we<|Kx d) ?_;exact El h I λu v Y s i a b e rb h=>.ki<|cT ok i e rb h
theorem Mf{m r:Expr}(h:mH r=bk):ZY [o1,o2] [m,r] (Dl [m,r] env)=[eO m env,eO r env]:=by show [eO m env]++[markedBehindIn o2 r<|eO r env]=_;exact rr (we<|Kx h) Z
theorem RC{x y:Sem bb}{T F:bb->Sem α}{P:aj}{aZ:N->Prop}{Q:α->N->bG->Prop}(ok:Ok c Γ)(I:de c J Y s)(h:VE c J Y x (λa Y=>VE c J Y y (λb Y=>gX (yX op a b Y) λq=>bif q then P b Y else aZ Y) E) E)(j:∀v Y s,de c J Y s->∀b,cY s.heap b v->P b Y->W c J Y s (T v) Q E) (k:∀Y s,de c J Y s->aZ Y->W c J Y s (F<|.bool bk) Q E):
 W c J Y s (x>>=λu=>jL [u] y>>=λv=>mz p>>=λU=>jL [u,v] (sY op u v)>>=λw=>release [u,v] [w]>>=λU=>jL [w,v] (ZX w)>>=λq=>if q=D then T v else F w) Q E:=
 El h I λu v Y s i a b r rb h=>.ki (spe h λq e h=>.bq (.fM<|cq ok i e r rb) λl f=>.N3 (.bq (tq f.cm) λg d=>by
  induction q with
  |false=>exact k Y g d.cm h
  |true=>exact j v Y g d.cm b ((rb.cp f.ik).cp d.ik) h))
theorem WR{l m r:Expr}(ok:Ok c Γ)(e:mH r=bk)(h:VE c J Y (eO l c.bc) (λa Y=>VE c J Y (eO m c.bc) (λb Y=>gX (yX o1 a b Y) λq=>bif q then VE c J Y (eO r c.bc) (λd Y=>gX (yX o2 b d Y) λq=>Q (.du q) Y) E else Q (.du bk) Y) E) E):VE c J Y (eO (.Compare l [o1,o2] [m,r] p) c.bc) Q E:=λs I=>by
 show W c J Y s (do compareChain p (<-eO l c.bc) [o1,o2] (ZY [o1,o2] [m,r]<|Dl [m,r] c.bc)) _ E;exact rr (Mf e)<|RC ok I h (λv Y s i b rb h=>(W.fM<|h s i).bJ λw f s' st ⟨d,rd,h⟩=>.ki<|cO ok st.cm (rb.cp st.ik) rd h) λY s i h=>.j' i ⟨_,tl,h⟩
theorem WT{l m r:Expr}{Q:ag}(ok:Ok c Γ)(e:mH r=bk)(h:VE c J Y (eO l c.bc) (λa Y=>VE c J Y (eO m c.bc) (λb Y=>gX (yX o1 a b Y) λq=>bif q then VE c J Y (eO r c.bc) (λd Y=>gX (yX o2 b d Y) λq=>Q q Y) E else Q bk Y) E) E):
 VT c J Y (isTrue (.Compare l [o1,o2] [m,r] p) c.bc<|eO (.Compare l [o1,o2] [m,r] p) c.bc) Q E:=λs I=>by
 show W c J Y s (do testChain p (<-eO l c.bc) [o1,o2] (ZY [o1,o2] [m,r]<|Dl [m,r] c.bc)) _ E;exact rr (Mf e)<|RC ok I h (λv Y s i b rb h=>(W.fM<|h s i).bJ λw f s' st ⟨d,rd,h⟩=>.ki<|cT ok st.cm (rb.cp st.ik) rd h) λY s i h=>.j' i h
theorem adM{t x y:Expr}(h:VT c J Y (isTrue t c.bc<|eO t c.bc) (λq Y=>bif q then VE c J Y (eO x c.bc) Q E else VE c J Y (eO y c.bc) Q E) E):VE c J Y (eO (.IfExp t x y p) c.bc) Q E:=λs I=>by
 refine W.bJ (h s I) λq d s₁ a b=>?_;induction q with
 |true=>exact b s₁ a.cm
 |false=>exact b s₁ a.cm
theorem adN{t x y:Expr}{Q:ag}(h:VT c J Y (isTrue t c.bc<|eO t c.bc) (λq Y=>bif q then VT c J Y (isTrue x c.bc<|eO x c.bc) Q E else VT c J Y (isTrue y c.bc<|eO y c.bc) Q E) E):VT c J Y (isTrue (.IfExp t x y p) c.bc<|eO (.IfExp t x y p) c.bc) Q E:=λs I=>by
 refine W.bJ (h s I) λq d s₁ a b=>?_;induction q with
 |true=>exact b s₁ a.cm
 |false=>exact b s₁ a.cm
theorem adO{x:Expr}{Q:ag}(h:VT c J Y (isTrue x c.bc<|eO x c.bc) (λb Y=>Q (!b) Y) E):VT c J Y (isTrue (.UnaryOp .Not x p) c.bc<|eO (.UnaryOp .Not x p) c.bc) Q E:=λs I=>by
 exact W.bJ (h s I) λq e s₁ a d=>W.j' a.cm d
theorem aas{e:Expr}{Q:ag}(h:VE c J Y (eO e c.bc) (λv Y=>match v with|.du b=>Q b Y|_=>False) E)(d:∀w,isTrue e c.bc w=(do let v<-w;mz e.pos;jL [v] (ZX v))):VT c J Y (isTrue e c.bc<|eO e c.bc) Q E:=λs I=>by
 exact rr (d _)<|BM (h s I) λu Y s i a r h=>.ki<|vb h r λb h=>tb i h
theorem adP{op:BoolOp}{Q:ag}(h:Q (op==.And) Y):VT c J Y (acO op [] c.bc) Q E:=λs I=>W.j' I h
theorem aat{op:BoolOp}{x:Expr}{rest:List Expr}{Q:ag}(h:VT c J Y (isTrue x c.bc<|eO x c.bc) (λb Y=>bif (op==.And)==b then VT c J Y (acO op rest c.bc) Q E else Q b Y) E):VT c J Y (acO op (x::rest) c.bc) Q E:=λs I=>by
 refine W.bJ (m:=isTrue x c.bc<|eO x c.bc) (h s I) λq e s₁ a d=>?_;clear h;induction op<;>induction q<;>first|exact W.j' a.cm d|exact d s₁ a.cm
theorem adQ{x:Sem bb}{op:BoolOp}(h:VE c J Y x Q E):VE c J Y (boolOp p op [x]) Q E:=h
theorem aau{x y:Sem bb}{rest:List (Sem bb)}{op:BoolOp}(h:VE c J Y x (λv Y=>match v with|.du b=>bif (op==.And)==b then VE c J Y (boolOp p op<|y::rest) Q E else Q (.du b) Y|_=>False) E):VE c J Y (boolOp p op<|x::y::rest) Q E:=λs I=>by
 refine BM (h s I) λu Y s i a r h=>.ki<|vb h r λb h=>.bq (tq i) λs' st=>?_;induction op<;>induction b<;>first|exact W.j' st.cm ⟨_,tl,h⟩|exact h s' st.cm
theorem WU:∀{es:List Expr} {env:Env},es.all (!gY ·)=D->yL es env=es.map λe=>(bk,eO e env):=by
 intro l;induction l with
 |nil=>
  intro U U;exact Z
 |cons e es i=>
  intro env h;refine rr (eL)<|rl (i (env:=env)<|nR h) ?_;replace h:=nL h;revert h;cases e<;>first|exactλU=>rfl|exactλh=>nq bP h ff
theorem nv(h:es.all (!gY ·)=D):Qs p (yL es env)=es.map λe=>(bk,eO e env):=rr (WU h)<|bL (eE) Z
theorem uG:(es.map λe=>(bk,eO e env)).any (·.1)=bk:=by
 induction es with
 |nil=>rfl
 |cons e es i=>simp [i]
theorem aav(d:es.all (!gY ·)=D)(h:VL c J Y (mA<|es.map λe=>(bk,eO e c.bc)) (λL Y=>L.length<=1000/\∀r,Y r=X->Q (.S r) (Y.aX r<|.aF L)) E):VE c J Y (eO (.List es p) c.bc) Q E:=λs I=>by
 show W c J Y s (do mz p;newList (<-mA (Qs p<|yL es c.bc))) _ E;refine rr (nv d)<|W.ki<|W.bJ (h s I) λL k s₁ g q=>?_;obtain⟨us,a,i,j⟩:=q;have b:L.length<=cE:=by refine rr (a.ez) ?_;exact aD i dc
 exact fw (dh.vI (n:=s₁.toks) g.cm a b) λf st=>AA ⟨_,st,.S _,jk,j _ f⟩ b
theorem adR(b:es.all (!gY ·)=D)(h:VL c J Y (mA<|es.map λe=>(bk,eO e c.bc)) (λL Y=>L.length<=1000/\Q (.bD L) Y) E):VE c J Y (eO (.Tuple es k p) c.bc) Q E:=λs I=>by
 show W c J Y s (do mz p;newTuple (<-mA (Qs p<|yL es c.bc))) _ E;refine rr (nv b)<|W.ki<|W.bJ (h s I) λL d s₁ f g=>?_;obtain⟨us,r,i,j⟩:=g;have a:L.length<=cE:=by refine rr (r.ez) ?_;exact aD i dc
 have q:=Qt.nf s₁ {cls:=.type "tuple",data:=.seq L.toArray} s₁.toks;refine af1 ⟨d,.qt f.cm q,.bD us,Bq (lR _ (cJ _ Z) Z _ Z) (r.cp q.ik) a,j⟩ a
end
end
variable{K:nH} {prog:zD} {ox:Obj} {od:Option Obj} {name:Str} {P:Bool->Prop} {o1:qc} {o2:qc} {env:Env} {es:List Expr}
section
open SeqAt
theorem Dv{es:Array oA}(h:Qq es):es.toList.any (·.refKey)=bk:=by refine ri (List.any_eq_false) ?_;intro e a;refine mK (h e<|Array.mem_toList_iff.mp a) λn t b=>?_;unfold JU;refine rr b ?_;simp
theorem Em{od:Obj}{es:Array oA}{ep:Nat}(hd:od.data=.dict es ep)(a:Qq es):lookIn name od=O (rH es name):=by
 unfold lookIn;refine rr hd ?_;dsimp only;refine rr (NL) ?_;unfold rH findBy;cases h:es.find? (·.key.isStr name)with
 |some e=>rfl
 |none=>
  exact bL (bu<|by exact rr (Dv a) dc) Z
variable{cd:ac6}
theorem FN{od:Obj}(h:Az K C=O cd)(hd:cd.hasDict=D)(a:ji K (.ref C) name=O X)(b:lookIn name od=O (O v)):
 acP K C (O od) name=O (.value v):=by
 unfold acP;refine rr h<|rr a ?_;show(W.ownOf cd (O od) name).bind _=_;exact rr (show W.ownOf cd (O od) name=O (O v)from(bI hd).trans b) Z
theorem En{o:Expr}{attr:Str}{whole:Sem bb}(h:uD o=D):NN o attr env whole=whole:=by
 revert h;cases o with
 |Call f as ks p=>
  cases f with
  |Name i q=>
   cases as with
   |nil=>
    cases ks with
    |nil=>exactλh=>nq bP h ff
    |cons=>exactλU=>rfl
   |cons=>exactλU=>rfl
  |_=>exactλU=>rfl
 |_=>exactλU=>rfl
theorem nP.nu(x:nP h dx at_):∃od es ep,h.get? dx=O od/\od.data=.dict es ep/\Qq es/\∀i<86,match rH es (nm i),at_.lookup i with
 |some v,O u=>cY h u v
 |none,X=>True
 |_,_=>False:=l5 x λo es ep a b c U d=>mF o es ep a b c d
variable{expr:Bool} {slice:Expr} {value:Expr} {hi:ao}
section
variable{c:dC} {J:bw} {E:Ex}
theorem RD:Slot "BaseException" "__getattribute__" "BaseException.__getattribute__":=
 .of (owner:="BaseException") (n:="__getattribute__") (by refine ?_;kernel_rfl) (by decide+kernel) (by decide+kernel) (by decide+kernel)
  (by first|exact .inl (by decide+kernel)|exact .inr (by decide+kernel)) (by kernel_rfl)
theorem N':entryFor table "BaseException.__getattribute__"=O qO.«object.__getattribute__»:=entryFor_alias (id':="object.__getattribute__") (by kernel_rfl) (by decide+kernel) (by decide+kernel) (by kernel_rfl)
theorem RE(a b:bb):argsOk "BaseException.__getattribute__" ⟨[a,b],[]⟩:=by kernel_rfl
theorem HM{A:kr}{K:nH}{x C:a8}{ox:Obj}{od:Option Obj}{name:Str}{v:bb}{expr:Bool}{s:bG}{E:bb->bG->Prop}{Q:bb->bG->Prop}{prog:zD}{w:fZ}(aG:K.In s.heap)(I:InstAt s.heap x ox C od)(k:Me K C)(d:acP K C od name=O (.value v)) (f:yH v=D) (h:∀n,Q v {s with toks:=n}):ee (gy prog w) A (getAttr (.ref x) name expr) Q E s:=by
 obtain⟨e,c,g,i⟩:=I;have b:vX (gy prog w) s.heap (Qu<|.ref x) (.ref C):=by refine rl c ?_;exact(V6 e).andThen .now
 refine wpAny_bind<|Dj<|eY<|lb b<|lb (wK aG k.nu) ?_;refine rr (show(onTheHeap (.ref C)&&xl "BaseException.__getattribute__"==xl "object.__getattribute__")=bk from by exact rfl)<|?_;refine lb (looks_hook aG (r:=X)<|k.aar)<|wpAny_bind<|NO<|eY ?_;unfold callGetattribute;refine rr (show(expr&&onTheHeap (xl "BaseException.__getattribute__"))=bk from kP _)<|?_;refine pb ?_;show ee _ _ (call (.builtin "BaseException.__getattribute__") [.ref x,.str name s.toks]) _ _ _;refine A9<|yK RD.plain N'<|@check_slot (gy prog w) _ _ {s with toks:=s.toks+1} "BaseException.__getattribute__" "BaseException" "__getattribute__" (.ref x) [.str name s.toks] [] _ (by decide+kernel) (by decide+kernel) (b.andThen<|looks_subIn aG k.cW) (RE (.ref x)<|.str name s.toks) ?_;show ee _ _ (qO.«object.__getattribute__» ⟨[.ref x,.str name s.toks],[]⟩) _ _ {s with toks:=s.toks+1};refine pb<|wpAny_bind (m:=Builtin.ObjectAttr.attrName<|.str name s.toks)<|bZ (a:=name) ?_;refine lb b<|lb (looks_find (M:=gy prog w) aG ⟨e,c,g,i⟩ d)<|bZ ?_;show ee _ _ (handedOut v) _ _ _;exact rr (handedOut_of f)<|bZ<|h _
theorem qv(h:uy C i=D):(oN.lookup C).isSome=D:=by
 delta uy at h;cases q:oN.lookup C with
 |none=>replace h:=q▸h;exact nq bP h ff
 |some _=>rfl
theorem RF(h:uz C i=D):uy C i=D/\lT C=bk:=fw ((fV ..).mp h) λa b=>⟨a,by cases e:lT C with|true=>replace b:=e▸b;exact nq bP b ff|false=>rfl⟩
theorem Ky(h:xF C i=D):uy C i=D/\lT C=D:=(fV ..).mp h
theorem nP.at{a:At}{u:V}(x:nP h dx a)(c:Az K C=O cd)(hd:cd.hasDict=D)(d:ji K (.ref C) (nm i)=O X)(e:i<86)(f:a.lookup i=O u):
 ∃od v,h.get? dx=O od/\acP K C (O od) (nm i)=O (.value v)/\cY h u v:=by
 refine g7 (x.nu) λod es ep g j k b=>have b:=b i e;have b:=f▸b;?_;cases hn:rH es (nm i)with
 |none=>replace b:=hn▸b;exact b.elim
 |some v=>replace b:=hn▸b;exact fe od v g (FN c hd d<|(Em j k).trans<|aH O hn) b
theorem Kz{a:V}{i:Nat}{x:bb}{Q:aj}{expr:Bool}(I:de c J Y s)(k:KF c.g)(h:Q6 a i Y λv=>Q v Y)(r:cY s.heap a x):
 W c J Y s (getAttr x (nm i) expr) (Vq Q) E:=by
 cases a with
 |S y=>
  refine rr (fG r) ?_;induction h with
  |i f b j l=>
   exact fw (RF b) λb d=>fw (k.bK _ i b) λm o=>fw (I.gD _ _ f) λz ns=>ka z λsl p=>cK ((k.pJ _ (qv b) d).cd) λcd q t=>fE (ns.at q t m o j) λod v u w e=>get_value I.vE ⟨p,Z,Z,u⟩ (k.pJ _ (qv b) d).nu w (Bp e) ⟨Y,.tk I _,_,e,l⟩
  |x f b j l=>
   exact fw (Ky b) λb d=>fw (k.bK _ i b) λm o=>fw (I.gD _ _ f) λz ns=>j6 z λL sl p U=>cK ((k.fg _ d).cd) λcd q t=>fE (ns.at q t m o j) λod v u w e=>HM I.vE ⟨p,Z,Z,u⟩ (k.fg _ d) w (Bp e) λn=>⟨Y,.tk I _,_,e,l⟩
 |_=>exact h.elim
theorem aaw{v:Expr}(d:KF c.g)(e:uD v=D)(f:nm i=name)(h:VE c J Y (eO v c.bc) (λa Y=>Q6 a i Y λv=>Q v Y) E):VE c J Y (eO (.Attribute v name p) c.bc) Q E:=λs I=>by
 show W c J Y s (do let o<-NN v name c.bc (eO v c.bc);mz p.atName;let r<-jL [o] (getAttr o name D);letTemporaryGo v o r;jg r) _ E;refine rr (En e)<|W.bJ (h s I) λa w s₁ j ⟨u,l,m⟩=>W.ki ?_;subst f;exact W.bJ (W.fM<|Kz j.cm d m l) λb n s₂ t q=>db (λU U k=>wpAny_letTemporaryGo k)<|bZ ⟨n,.cL t.cm,q⟩
noncomputable def WV(n:Nat)(k:Int):Option Nat:=if 0<=k then O k.toNat else if 0<=k+n then O (k+n).toNat else X
theorem Mg{B:List α}{k:Int}{v:α}(e:mO B k=O v):∃j,WV B.length k=O j/\B[j]?=O v:=by
 unfold mO at e;unfold WV;by_cases h:0<=k
 .rw [bI h]at e⊢;exact bX _ Z e
 .rw [bu h]at e⊢;by_cases h':0<=k+B.length
  .rw [bI h']at e⊢;exact bX _ Z e
  .rw [bu h']at e;exact no e
theorem YR{k:Int}(e:WV n k=O j)(h:j<n):(k=j\/k=(j:Int)-n)/\ac7 k n=O j:=by
 unfold WV at e;unfold ac7;by_cases a:0<=k
 .replace e:=(bI a)▸e;obtain rfl:=aJ e;clear e;obtain⟨j,rfl⟩:=kX a;rw [bu<|NY a];exact⟨.inl Z,bI<|by simpa using h⟩
 .rw [bu a]at e;by_cases h':0<=k+n
  .rw [bI h']at e;obtain rfl:=aJ e;obtain⟨m,b⟩:=kX h';refine rr (bI<|nle a) ?_;rw [b]at h⊢;exact⟨.inr (by lia),bI<|by simpa using h⟩
  .rw [bu h']at e;exact no e
theorem oM.RG(k:ae){v:V}:∀{kv:List (ae×V)} {B:List (ae×a8×bb)},oM h kv B->mi kv k=O v->∃p,atKey B k=O p/\cY h v p.2:=by
 intro l;induction l with
 |nil=>
  intro U r e;exact nq aP e ff
 |cons a r i=>
  obtain⟨x,u⟩:=a;intro U q e;obtain⟨b,g,q,rfl,c,q⟩:=q;unfold mi at e;unfold atKey;refine rr (List.find?_cons) ?_;by_cases h:x=k
  .rw [bI h]at e;refine rl (aJ e) ?_;simp only [h,decide_true];exact bX _ Z c
  .rw [bu h]at e;refine cK (i q e) λp d f=>?_;simp only [h,decide_false];exact bX p d f
structure Sb(c:dC)(J:bw)(Y:N)(s:bG)(x y:bb)(Q:aj)(E:Ex):Prop where
 i:∃T id,s.TypeIs x T/\JV (.type T) "__getitem__"=jg (O<|.builtin id)
 w:W c J Y s (getItem x y) (Vq Q) E
theorem HN{kv:ak}{kk:KK}{v:V}{y:bb}(I:de c J Y s)(hd:(cP.cQ kv).fU c.g.w s.heap ad)(h:(Bs c.g.w).is kk y=D)(a:ni kv kk=O v)(b:Q v Y):Sb c J Y s (.ref ad) y Q E:=by refine gU hd λkvs d r z ns=>have f:=r.FJ kk;?_;rw [a]at f;exact cK f λu e i=>⟨lq ("dict") _ d.typeIs PySem.F.slot_dict_getitem.lookup,wpAny_getItem_of h d.mapOf e ⟨Y,.tk I _,v,i,b⟩⟩
theorem RH{k:Int}{v:V}(r:eX h B L)(z:L.length<=cE)(e:mO B k=O v):∃u j,cY h v u/\ac7 k L.toArray.size=O j/\L[j]?=O u/\j<L.length/\(k=j\/k=(j:Int)-L.length):=cK (Mg e) λj f g=>cK (r.at g) λu c i=>have d:=gl c;fw (YR ((r.ez)▸f) d) λa b=>gk u j i b c<|JB d a
theorem WW{n:Int}{t:Tok}{v:V}(I:de c J Y s)(a:Aw s.heap ad L.toArray)(r:eX s.heap B L)(z:L.length<=cE)(h:mO B n=O v)(b:Q v Y):Sb c J Y s (.ref ad) (.int n t) Q E:=by have i:=qu;exact e9 (RH r z h) λu j d e f g=>fw g λk l=>⟨lq ("tuple") _ a.typeIs slot_tuple_getitem.lookup,PyProof.Rows.getItem_tuple a (by lia) (by lia) (j:=j) e (by refine bL (hM) ?_;exact f) ⟨Y,.cL I,v,d,b⟩⟩
theorem RI{n:Int}{t:Tok}{v:V}(I:de c J Y s)(h:Y ad=O (.aF B))(a:mO B n=O v)(b:Q v Y):Sb c J Y s (.ref ad) (.int n t) Q E:=by
 have l:=qu;refine iz λP k0=>I.zJ h λL m e r z=>e9 (RH r z a) λu j d f h g=>fw g λo i=>k0 ⟨lq ("list") _ ((gI e).typeIs) slot_list_getitem.lookup,?_⟩;clear f a k0
 rcases i with rfl|rfl
 .exact wpAny_getItem_list (gI e) (bT _) (by lia) (by refine rr (hM) ?_;exact h) ⟨Y,.cL I,v,d,b⟩
 .have k:((j:Int)-L.length+L.toArray.size).toNat=j:=by refine rr (rJ _ _) ?_;rfl
  exact wpAny_getItem_list_neg (gI e) (by lia) (by simp only [g6];lia) (by lia) (by refine rr k<|rr (hM) ?_;exact h) ⟨Y,.cL I,v,d,b⟩
theorem WX{l:aq}{n:Int}{t u:Tok}{d:Nat}(I:de c J Y s)(k:l.length<=cE)(hd:mO l n=O d)(f:Q (.aQ [d]) Y):Sb c J Y s (.str (tx l) t) (.int n u) Q E:=by
 have m:=qu;refine cK (Mg hd) λj g e=>have i:=gl e;fw (YR g i) λa b=>?_;have h:af2 (tx l) n=O d:=by
  unfold af2;refine rr b ?_;simpa using e
 refine⟨lq ("str") _ (td _ _ _) PyProof.Rows.slot_str_getitem.lookup,SB.getItem ?_ (rr h Z) ⟨Y,.tk I _,.aQ [d],?_,f⟩⟩
 .unfold fitsSsize;simp;lia
 .refine rr (show Txt.item (tx l) n=tx [d] by unfold Txt.item;refine rr h ?_;rfl) ?_;exact qq<|aK rfl
theorem Oa{a k:V}{x y:bb}(I:de c J Y s)(xs:Ef c.g)(C:c.A.units+100<ll)(h:WC a k Y λv=>Q v Y)(o:cY s.heap a x)(j:cY s.heap k y):Sb c J Y s x y Q E:=by
 cases a with
 |S q=>
  refine rr (fG o) ?_;induction h with
  |l f e i b=>subst e;(refine Ah j λt=>?_);exact RI I f i b
  |d f e i b=>exact HN I (I.gD _ _ f) (BK e j) i b
  |t f e aO i b=>
   subst e;exact cK (AL (w:=c.g.w) aO j) λK G tt=>rr G<|hV (I.gD _ _ f) λB d r ns=>cK (oM.RG _ r i) λp e H=>⟨lq ("dict") _ d.typeIs PySem.F.slot_dict_getitem.lookup,wpAny_getItem_heap (uE C) tt d e ⟨Y,.tk I _,_,H,b⟩⟩
 |bD B=>
  cases k with
  |aL n=>
   exact Ah j λt=>Wm o λq L ρ r z=>spe h λv i b=>WW I ρ r z i b
  |_=>exact h.elim
 |aQ l=>
  cases k with
  |aL n=>
   exact D' o λt=>Ah j λu=>spe h λd hd b=>WX I (th o) hd b
  |_=>exact h.elim
 |ph q=>
  refine rr (Bo o) ?_;delta WC at h;dsimp only at h;cases f:xG q with
  |none=>replace h:=f▸h;exact h.elim
  |some m=>
   replace h:=f▸h;induction m with
   |cQ kv=>
    cases k with
    |aQ n=>
     exact spe h λv i b=>HN I (xs _ _ f _ I.vE) (BK (a:=.aQ n) Z j) i b
    |_=>exact h.elim
   |_=>exact h.elim
 |_=>exact h.elim
theorem xK{o i:bb}(h:vG slice=bk):subscripted slice bk o i=acM [o,i] (getItem o i):=by revert h;cases slice<;>first|exactλU=>rfl|exactλh=>nq bP h ff
theorem adS(e:KF c.g)(f:c.A.units+100<ll)(i:vG slice=bk)(h:VE c J Y (eO value c.bc) (λa Y=>VE c J Y (eO slice c.bc) (λk Y=>WC a k Y λv=>Q v Y) E) E):VE c J Y (eO (.Subscript value slice p) c.bc) Q E:=λs I=>by
 refine Subscript_<|wpAny_mono (h s I) (λo s₁ ⟨z,b,u,r,j⟩=>wpAny_mono (j s₁ b.cm) (λx s₂ l=>?_) λU U=>.aU b) λU U q=>q;obtain⟨xs,d,k,m,n⟩:=l;refine ?_;obtain⟨⟨T,C,t,w⟩,y⟩:=Oa (E:=E) d.cm e.gc f n (r.cp d.ik) m;exact tail_any t w (wpAny_mono y (λU U=>.aU<|b.aU d) λU U=>.aU<|b.aU d)<|xK i
theorem Eo{a:V}{x:bb}{o:ao}(e:BD a=O o)(r:cY h a x):IsPart x o/\∃p:Option (Int×Tok),x=ac8 p/\p.map (·.1)=o:=by
 cases a with
 |bR=>refine rr (qp r) ?_;exact rl (aJ e)<|Bl .none X Z Z
 |aL k=>refine Ah r λt=>?_;exact rl (aJ e)<|Bl (.int k t) (O (k,t)) Z Z
 |_=>exact nq aP e ff
theorem aax{l:aq}{t:Tok}{n:Nat}{lv uv:bb}{pl pu:Option (Int×Tok)}{Q:aj}{ad:a8}(I:de c J Y s)(h:l.length<=cE)(b:s.heap.get? ad=O {cls:=.type "slice",data:=.fields [lv,uv,.none].toArray})(e:lv=ac8 pl)(d:uv=ac8 pu)(q:Q (.aQ (hU l (pl.map (·.1)) (pu.map (·.1)))) Y):
 W c J Y s (getItem (.str (tx l) t)<|.ref ad) (Vq Q) E:=by
 subst e d;refine wpAny_getItem_str_slice (l:=pl) (u:=pu) (st:=X) (fW _ b Z Z) Z ?_;have j:slicePicked (tx l) pl pu X=jh (pl.map (·.1)) (pu.map (·.1)) 1 l.length:=by
  rfl
 unfold sliceMade;split
 .rename_i f;have g:hU l (pl.map (·.1)) (pu.map (·.1))=l:=by
   refine List.Sublist.eq_of_length ((Qw ..).trans<|zG ..)<|(RB ..).trans ?_;exact cR ((fV ..).mp<|(vC _)▸f).2
  replace q:=g▸q;exact⟨Y,.cL I,_,qq h,q⟩
 .have i:(jh (pl.map (·.1)) (pu.map (·.1)) 1 l.length).filterMap ((tx l).cps[·]?)=hU l (pl.map (·.1)) (pu.map (·.1)):=by
   refine rl (RA _ _ _) ?_;simp
  exact rr i<|have a:=aD (zN l (pl.map (·.1)) (pu.map (·.1))) h;⟨by exact a,Y,.tk I _,_,qq a,q⟩
theorem agq{lo:ao}(I:de c J Y s)(h:slR c.g ad lo hi Y Q):∃B L,s.heap.IsList ad (iZ L)/\eX s.heap B L/\L.length<=cE/\∀r,Y r=X->Q (.S r) (Y.aX r<|.aF<|hU B lo hi):=by
 induction h with
 |l a q=>
  exact I.zJ a λL n e r z=>gk _ L (gI e) r z q
 |b a d q=>
  exact hV (d _ I.fk) λL e r z=>gk _ L e r z q
theorem WY{value:Expr}{lo hi:Option Expr}{p sp:Pos}{Q:aj}(h:VE c J Y (eO value c.bc) (λa Y=>VE c J Y (uc<|JG lo c.bc) (λl Y=>VE c J Y (uc<|JG hi c.bc) (λu Y=>slP c.g a l u Y Q) E) E) E):
 VE c J Y (eO (.Subscript value (.Slice lo hi X sp) p) c.bc) Q E:=λs I=>by
 refine Subscript_<|wpAny_mono (h s I) (λo s₁ C=>?_) λU U q=>q;refine iz λP k0=>?_;obtain⟨σ,j,a,k,y⟩:=C;refine k0 ?_;show ee c.M c.A (do let l<-uc (JG lo c.bc);let u<-jL [l] (uc<|JG hi c.bc);let s<-jL [l,u] (uc<|JG X c.bc);newFields "slice" [l,u,s]) _ _ s₁;refine wpAny_bind<|wpAny_mono (y s₁ j.cm) (λlv s₂ ⟨mV,m,l,rl,xs⟩=>wpAny_bind<|eY<|wpAny_mono (xs s₂ m.cm) (λaO d ⟨oO,w,u,F,b⟩=>wpAny_bind<|eY<|bZ ?_) λU U=>.aU<|j.aU m) λU U=>.aU j;have st:=j.aU<|m.aU w;replace k:=k.cp<|m.ik.aU w.ik;replace rl:=rl.cp w.ik;clear h y xs j m w;refine iR ?_ (by size_fits);have q:=Qt.nf d {cls:=.type "slice",data:=.fields [lv,aO,.none].toArray} d.toks;have i:=st.aU<|.qt st.cm q;delta slP at b;clear k0;cases e1:BD l with
 |none=>replace b:=e1▸b;exact b.elim
 |some lo'=>
 cases e2:BD u with
 |none=>replace b:=e2▸e1▸b;exact b.elim
 |some VV=>
  rw [e1,e2]at b;refine iz λP k0=>Bi (Eo e1 rl) λG H ρ v=>?_;obtain rfl:=v;clear e1;refine Bi (Eo e2 F) λK vs aZ v=>?_;obtain rfl:=v;refine k0 ?_;clear e2 k0;cases a with
  |aQ l=>
   exact D' k λt=>tail_any (td _ _ _) PyProof.Rows.slot_str_getitem.lookup (ops:=[.ref d.heap.objs.size,.str (tx l) t]) (wpAny_mono (aax (n:=0) (E:=E) i.cm (th k) (cJ _ Z) ρ aZ b) (λU U=>.aU i) λU U=>.aU i) Z
  |S x=>
   refine rr (fG k)<|iz λP k0=>e9 (agq st.cm b) λB L v r z b=>rO v λaB R aE T W=>have e:(d.heap.push _).IsList x (iZ L):=lR aB (q.fk x _ R) aE T W;fw (dh.Rr (n:=d.toks) i.cm (.cL i.cm) ((r.cp q.ik).hU _ _) (aD (zN _ _ _) z:(hU L (H.map (·.1)) (vs.map (·.1))).length<=cE)) λf aG=>k0<|tail_any e.typeIs slot_list_getitem.lookup (ops:=[.ref d.heap.objs.size,.ref x]) (wpAny_getItem_list_slice e (Heap.IsSliceOf.new ..) G K .none dc ?_ z) Z;exact rr (N9 _ _ _) ⟨_,i.aU aG,.S _,jk,b _ f⟩
  |_=>exact b.elim
end
end
variable{cd:ac6} {expr:Bool} {slice:Expr} {value:Expr} {hi:ao}
section
open SeqAt
variable{uH:N} {Ak:bG} {pl:Sem Bool}
section
variable{c:dC} {J:bw} {E:Ex}
theorem dh.RJ(st:dh c uH Ak J Y s)(r:de c J uH Ak){k:cP}(i:Ak.heap.get? a=X)(j:Y a=X)(t:∀o,s.heap.get? a=O o->¬Fu o)(same:∀b o,b≠a->s.heap.get? b=O o->s'.heap.get? b=O o) (JR:s.heap.get? a=X\/∃o,s'.heap.get? a=O o) (gens:s'.gens=s.gens) (os:s'.os=s.os) (u:IK s.heap s'.heap->k.fU c.g.w s'.heap a) (K:k.tm=X):
 dh c uH Ak J (Y.aX a k) s':=by
 have I:=st.cm;have Ob:∀{b:a8} {o:Obj},Ak.heap.get? b=O o->b≠a:=λe h=>ns i<|h▸e;have l:a∉rS c.A:=λM=>by
  exact r.QT M λU U o es n aZ U=>Ob aZ Z
 have v:c.g.iW.get? a=X:=by
  clear JR i l t u j same;cases q:c.g.iW.get? a with
  |none=>rfl
  |some o=>exact cM Z<|Ob<|r.fk a o q
 have x:a≠c.bc.locals:=λh=>by
  exact r.tS λm p U=>jz p λo es ep C U=>Ob C h.symm
 have xs:a∉c.bc.cells.map (·.2):=λh=>by
  clear JR i v l t u x j same;refine mm h λp aB Q=>?_;obtain⟨y,b⟩:=p;obtain rfl:=Q;exact j6 (r.N2 y b aB) λo V C U=>Ob C Z
 have E:¬c.uo Y a:=by
  rintro(⟨k',h⟩|h|h)
  .replace h:=j.symm.trans h;exact nq aP h ff
  .exact x h
  .exact xs (I.yS a h).2
 refine fw (I.Bx (P:=λb=>b=a) (λb e=>by refine rr e ?_;exact rR E xs l v t) same gens os) λρ ik=>?_;have F:=ρ.toiO.aX (k:=k) ρ.fk Z (u ik) (λb R U h=>ρ.gD b R h) (λd e=>ns K e) (λb e=>ns j e) v λvs G=>⟨λe=>l<|e▸G,(ρ.uu G).2.2⟩;refine⟨⟨F,ρ.uq,ρ.N2,⟨(N.da _ _<|lF x).trans ρ.iM.1,λb aO=>⟨(N.da _ _<|show b≠a fromλe=>xs<|e▸aO).trans (ρ.iM.2 b aO).1,(ρ.iM.2 b aO).2⟩⟩,ρ.sx,ρ.yS⟩,dW (λb e=>st.tR.1 b ?_) (st.ik.aU ik) λb o e n=>?_,λb k' h=>N.or h (λe U=>.inr<|e▸i) λU h=>st.Fw b k' h,os.trans st.os⟩
 .clear F i v xs l t u x E j;clear Ob;cases q:s.heap.get? b with
  |none=>rfl
  |some o=>
   by_cases H:b=a
   .clear same;subst H;exact bV JR (λz=>ns z q) λp=>ka p λW z=>ns e z
   .exact ns e<|same b o H q
 .exact xy (st.tR.2.2 b o e n) λaE sl T=>have nb:=Ob e;(rP (λf=>same b o nb<|aE f) sl<|same b _ nb T)
theorem dh.tw{eP:bw}(st:dh c Y s eP c8 s'){o:Obj}(e:s.heap.get? a=O o)(b:Y a=X)(d:a≠c.bc.locals)(f:a∉c.bc.cells.map (·.2))(g:a∉rS c.A)(I:de c J Y s):s'.heap.get? a=O o/\c8 a=X:=by
 have no:¬c.uo Y a:=by
  rintro(⟨k',h⟩|h|h)
  .replace h:=b▸h;exact nq aP h ff
  .exact d h
  .exact f (I.yS a h).2
 refine⟨(st.tR.2.2 a o e no).1 g,?_⟩;cases q:c8 a with
 |none=>rfl
 |some k=>
  rcases st.Fw a k q with⟨k',z⟩|z
  .replace z:=b.symm.trans z;exact nq aP z ff
  .replace z:=e.symm.trans z;exact nq aP z ff
theorem aay{f:Expr}{args:List Expr}(ok:Ok c Γ)(d:args.all (!gY ·)=D)(i:∀o n a,f≠.Attribute o n a)(h:VE c J Y (eO f c.bc) (λb Y=>VL c J Y (mA<|args.map λe=>(bk,eO e c.bc)) (λL Y=>bE Γ b L Y Q E) E) E):
 VE c J Y (eO (.Call f args [] p) c.bc) Q E:=λs I=>by
 have e:eO (.Call f args [] p) c.bc=(do callWith p (<-eO f c.bc) [] (Qs p<|yL args c.bc) []):=by
  clear h;revert i;cases f<;>first|exactλU=>rfl|exactλh=>cM Z (h _ _ _)
 refine rr e<|rr (nv d) ?_;exact W.bJ (h s I) λb l s₁ j ⟨u,r,k⟩=>Ec j.cm ok.g ok.lD (.inl r) iA uG k
theorem Oc{p:Prop} [Decidable p]{a q:V×aw}{o:Option (V×aw)}(h:(if p then O a else o)=O q):(p/\a=q)\/o=O q:=by
 by_cases b:p
 .rw [bI b]at h;exact .inl ⟨b,aJ h⟩
 .rw [bu b]at h;exact .inr h
def Mq(Y:N)(p:V×aw)(v:bb×List bb)(c8:N)(s':bG):Prop:=c8=Y/\v.1=xC p.1/\eX s'.heap p.2 v.2
theorem Od{p:V×aw}(I:de c J Y s)(d:Y ad=O (.aF B))(h:(if i=37 then O (.eH "list.append",[.S ad])else if i=51 then O (.eH "list.pop",[.S ad])else if i=52 then O (.eH "list.extend",[.S ad])else X)=O p):
 W c J Y s (wd (.ref ad) (nm i) pl) (Mq Y p) E:=by
 refine j6 (WH d I.toiO) λL n e U=>have b:s.TypeIs (.ref ad) "list":=bX _ e Z;?_;have hd:∀a,gL ad=.ref a->∃o,s.heap.get? a=O o/\o.dict=X:=λa h=>by obtain rfl:=PySem.Value.ref.inj h;exact bX _ e Z
 rcases Oc h with⟨rfl,rfl⟩|h
 .exact pe b se PySem.F.slot_list_append PySem.F.type_list_append hd ⟨Y,.cL I,Z,Z,fQ jk iA⟩
 rcases Oc h with⟨rfl,rfl⟩|h
 .exact pe b se PySem.F.slot_list_pop PySem.F.type_list_pop hd ⟨Y,.cL I,Z,Z,fQ jk iA⟩
 rcases Oc h with⟨rfl,rfl⟩|h
 .exact pe b se PySem.F.slot_list_extend PySem.F.type_list_extend hd ⟨Y,.cL I,Z,Z,fQ jk iA⟩
 exact no h
theorem Oe{a:At}{p:V×aw}(I:de c J Y s)(k:KF c.g)(j:Y ad=O (.d8 C dx a))(h:(match uA C i,a.lookup i with|some f,X=>O (V.S f,[V.S ad])|_,_=>X)=O p):
 W c J Y s (wd (.ref ad) (nm i) pl) (Mq Y p) E:=by
 cases hm:uA C i with
 |none=>replace h:=hm▸h;exact no h
 |some f=>
  cases hl:a.lookup i with
  |some u=>replace h:=hl▸hm▸h;exact no h
  |none=>
   replace h:=hl▸hm▸h;refine rl (aJ h)<|Bh (k.ago C i f hm) λl m n t=>fw t λd e=>fw (I.gD _ _ j) λz ns=>ka z λsl o=>g7 (ns.nu) λod es ep r v x b=>have b:=b i n;have b:=hl▸b;?_;have y:rH es (nm i)=X:=by
    cases q:rH es (nm i)with
    |none=>rfl
    |some w=>replace b:=q▸b;exact b.elim
   exact method_fn (od:=O od) I.vE ⟨o,Z,Z,r⟩ (k.pJ C d e).nu (k.pJ C d e).aar l m (by show(lookIn (nm i) od).map _=_;refine rr (Em v x)<|rr y ?_;rfl) ⟨Y,.cL I,Z,Z,fQ jk iA⟩
theorem KA{a:V}{x:bb}{p:V×aw}(I:de c J Y s)(b:KF c.g)(h:Kq a i Y=O p)(r:cY s.heap a x):W c J Y s (wd x (nm i) pl) (Mq Y p) E:=by
 cases a with
 |S d=>
  obtain rfl:=fG r;replace h:tZ d i Y=O p:=h;delta tZ at h;clear r;cases hx:Y d with
  |none=>
   rw [hx]at h;obtain⟨f,j,e⟩:=Option.map_eq_some_iff.mp h;clear h hx;induction e
   exact b.iW d i f j _ _ _ s pl I.vE λn=>⟨Y,.tk I n,Z,Z,iA⟩
  |some k=>
   rw [hx]at h;induction k with
   |d8 C dx a=>exact Oe I b hx h
   |aF B=>exact Od I hx h
   |_=>exact no h
 |fK n=>
  rcases Oc h with⟨⟨rfl,rfl⟩,rfl⟩|h
  .clear h;obtain rfl:=vD r;exact b.exI _ _ _ s pl I.vE λn=>⟨Y,.tk I n,Z,Z,iA⟩
  .exact no h
 |aQ l=>
  refine ka (AG r) λt z=>?_;obtain rfl:=z;have hd:∀a,Value.str (tx l) t=.ref a->∃o,s.heap.get? a=O o/\o.dict=X:=λa h=>by exact nq f9 h ff
  rcases Oc h with⟨rfl,rfl⟩|h
  .exact pe (td _ _ _) Fe PySem.F.slot_str_join PySem.F.type_str_join hd ⟨Y,.cL I,Z,Z,fQ r iA⟩
  rcases Oc h with⟨rfl,rfl⟩|h
  .exact pe (td _ _ _) Fe PySem.F.slot_str_split PySem.F.type_str_split hd ⟨Y,.cL I,Z,Z,fQ r iA⟩
  exact no h
 |_=>exact no h
theorem WZ{o:Expr}{ap:Pos}{args:List Expr}(ok:Ok c Γ)(k:uD o=D)(l:nm i=name)(m:args.length<30)(n:(ap.endLine==p.line)=D)(r:args.all (!gY ·)=D)(h:VE c J Y (eO o c.bc) (λa Y=>gX (Kq a i Y) λq=>VL c J Y (mA<|args.map λe=>(bk,eO e c.bc)) (λL Y=>bE Γ q.1 (q.2++L) Y Q E) E) E):VE c J Y (eO (.Call (.Attribute o name ap) args [] p) c.bc) Q E:=λs I=>by
 show W c J Y s (do let a<-NN o name c.bc (eO o c.bc);mz ap.atName;methodCall o name ap p c.bc a (args.length+0) (Qs p<|yL args c.bc) []) _ E;refine rr (En k)<|rr (nv r) ?_;subst l;refine W.bJ (h s I) λa C s₁ d ⟨u,t,b⟩=>W.ki<|spe b λq j b=>?_;have w:af3 (args.length+0) (args.map λe=>(bk,eO e c.bc)) []=D:=by
  unfold af3;refine rr (show(args.map λe=>(bk,eO e c.bc)).all (!·.1)=D by refine rr (ub) ?_;exact al λU U=>rfl) ?_;exact aN m
 unfold methodCall;refine rr w<|rr (show methodCallPos D o c.bc ap p=jg p from bI n) ?_;refine W.bJ (W.fM<|KA d.cm ok.kf j t) λv aO s₂ x y=>m7 y λz A xs=>?_;clear j d;subst z;obtain⟨f,F⟩:=v;exact Ec x.cm ok.g ok.lD (.inr A) xs uG b
end
end
variable{uH:N} {Ak:bG} {pl:Sem Bool}
section
open SeqAt
variable{as:aw} {aO:a8}
section
variable{c:dC} {J:bw} {E:Ex}
theorem de.iX(I:de c J Y s)(d:s.heap.get? a=X):Y a=X/\a≠c.bc.locals/\a∉c.bc.cells.map (·.2)/\a∉rS c.A:=by
 have Ob:∀{b:a8} {o:Obj},s.heap.get? b=O o->b≠a:=λe h=>by subst h;replace d:=e.symm.trans d;exact nq aP d ff
 refine mT (I.gx d) (λh=>?_) (λh=>?_) λg=>?_
 .exact I.tS λm z U=>jz z λo es ep f U=>Ob f h.symm
 .clear d;refine mm h λz i j=>?_;obtain⟨y,b⟩:=z;obtain rfl:=j;exact j6 (I.N2 y b i) λo v f U=>Ob f Z
 .exact I.QT g λU U o es n k U=>Ob k Z
theorem RK(I:de c J Y s)(h:s.heap.objs.size<=a):(a==lP)=bk:=by
 refine cK (I.toiO.Du.Bt) λmg b U=>?_;have:=(b.keeps I.fk).lt;have:a≠lP:=by
  intro e;rw [e]at h;exact cM (mD (by decide:lP<gC) this)<|Nat.not_lt.mpr h
 simpa using this
theorem W0(h:∀r,Y r=X->Q (.S r) (Y.aX r<|.cQ [])):VE c J Y (eO (.Dict [] [] p) c.bc) Q E:=λs I=>by
 show W c J Y s (do mz p;newDict) _ E;refine W.ki<|iR ?_ (by size_fits);exact⟨_,I.lI<|.oE (k:=.cQ []) I.toiO (Qt.nf s {cls:=.type "dict",data:=.dict #[]} s.toks) (dZ _) (lQ [] (JH _) Z (by simp)<|RK I<|bO _) Z,.S _,jk,h _<|I.gx<|dZ _⟩
theorem W2{x:Str}{I:de c J Y s}:W c J Y s (eO (.Constant (.str x) n p) c.bc) (λv a s'=>a=Y/\∃t,v=.str x t) E:=Dj ⟨Y,.tk I _,Z,_,Z⟩
noncomputable def VN(c:dC)(J:bw)(E:Ex):List Expr->N->(aw->N->Prop)->Prop
 |[],Y,Q=>Q [] Y
 |e::es,Y,Q=>VE c J Y (eO e c.bc) (λv Y=>VN c J E es Y λL Y=>Q (v::L) Y) E
noncomputable def kd(k:Dk):KK:=.s k.1.cps.toList
noncomputable def prs(p:Pos)(env:Env):List Dk->List Expr->List (Sem bb×Sem bb)
 |k::ks,e::es=>(eO (kC k) env,(do let x<-eO e env;mz p;jg x))::prs p env ks es
 |_,_=>[]
inductive Pv(h:j9):List Dk->aw->List (bb×bb)->List (KK×bb)->Prop where
 |jr:Pv h [] [] [] []
 |gu {k:Dk} {ks:List Dk} {a:V} {as:aw} {t:Tok} {y:bb} {l:List (bb×bb)} {m:List (KK×bb)} (r:cY h a y) (x:Pv h ks as l m):Pv h (k::ks) (a::as) ((.str k.1 t,y)::l) ((kd k,y)::m)
theorem Pv.kv{ks:List Dk}{l:List (bb×bb)}{m:List (KK×bb)}(x:Pv h ks as l m):lr h ((ks.map kd).zip as) m:=by
 induction x with
 |jr=>exact Z
 |gu r _ i=>exact fe _ _ Z r i
theorem Pv.gj{ks:List Dk}{l:List (bb×bb)}{m:List (KK×bb)}(x:Pv h ks as l m):m.length=ks.length:=by
 induction x with
 |jr=>rfl
 |gu r _ i=>exact aH (·+1) i
theorem aaz(ks:List Dk):∀(es:List Expr) {Y:N} {s:bG} {Q:aw->N->Prop},ks.length=es.length->VN c J E es Y Q->de c J Y s->W c J Y s (evalPairs<|prs p c.bc ks es) (λl i s'=>∃as m,Pv s'.heap ks as l m/\Q as i) E:=by
 induction ks with
 |nil=>
  intro es Y s Q b h I;induction es with
  |nil=>exact W.j' I<|lq [] [] .jr h
  |cons=>cases b
 |cons k ks j=>
  intro es Y s Q b h I;cases es with
  |nil=>cases b
  |cons e es=>
   refine W.bJ (W2 (I:=I)) λC aO s₁ n d=>xy d λo t u=>?_;subst o u;refine W.bJ (W.fM<|W.bJ (h s₁ n.cm) λv w s₂ f r=>W.ki<|W.j' f.cm r) λy w s₂ f d=>?_;obtain⟨a,x,z⟩:=d;exact W.bJ (W.fM<|j es (eQ b) z f.cm) λl F G g A=>j6 A λas m xs q=>W.j' g.cm<|lq (a::as) _ (.gu (x.cp g.ik) xs) q
theorem adT{aO:a8}{M:yF}{A:kr}{h0:j9}{ks:List Dk}{as:aw}{l:List (bb×bb)}{m:List (KK×bb)}(x:Pv h0 ks as l m):∀{s:bG} {kvs:List (KK×bb)} {Q:PUnit->bG->Prop} {E:bb->bG->Prop},s.heap.DictOf (Bs c.g.w) aO kvs->kvs.length+ks.length<=100->(kvs.map (·.1)++ks.map kd).Nodup-> (∀h' n,h'.DictOf (Bs c.g.w) aO (kvs++m)->f7 aO s.heap h'->Q ⟨⟩ {s with heap:=h',toks:=n})->ee c.M c.A (Qb l ac9 λ(x:bb×bb) U=>match x with|(k,v)=>do dictSet aO k v;jg (oJ ac9)) Q E s:=by
 induction x with
 |jr=>exactλ{s kvs Q E} hd U U h=>bZ<|h s.heap s.toks (rr (dS _) hd)<|.refl ..
 |@gu k ks a as t y l m r x ih=>
  intro s kvs Q E hd j d h;refine rr (qe _ _ _ _) ?_;have o:(Bs c.g.w).is (kd k) (.str k.1 t)=D:=by
   show xk (tx k.1.cps.toList) (.str k.1 t)=D;simp [xk]
  have F:kvs.length+(ks.length+1)<=100:=j;have q:(kvs.any λp=>p.1=kd k)=bk:=List.any_eq_false.mpr λp u e=>by
   have:=(List.nodup_append.mp d).2.2 p.1 (dm (f:=(·.1)) u) (kd k) bS;exact this<|aI e
  refine wpAny_bind<|wpAny_bind<|YA o hd (λh' i z=>bZ ?_) (by refine rr fA ?_;lia);rw [(by unfold stored;refine rr q ?_;rfl:stored kvs (kd k) y=kvs++[(kd k,y)])]at i;refine ih i (by refine rr (aY) ?_;show kvs.length+1+ks.length<=100;lia) (by refine rr (bN)<|rr (bF _ _ _) ?_;exact d) λxs n b C=>h xs n (by replace b:=(bF _ _ _)▸b;exact b)<|z.trans C
theorem aaA:∀(ks:List Dk) (L:List Expr),(evalEachOpt (ks.map λk=>O<|kC k) env).zip ((Dl L env).map λv=>do let x<-v;mz p;jg x)=(prs p env ks L).map λx=>(O x.1,x.2):=by
 intro l;induction l with
 |nil=>
  intro U;exact Z
 |cons k ks i=>
  exact @λ
  |[]=>rfl
  |v::L=>aH (_::·)<|i L
theorem adU:∀{l:List (Sem bb×Sem bb)},l.length=3->V7 (l.map λx=>(O x.1,x.2))=(subDict l>>=λd=>jg<|.ref d)
 |[a,b,c],_=>by
  exact bL (show V7 [_,_,_]=(subDict _>>=λd=>jg<|O d)>>=_ from Z)<|bind_assoc _ _ _
theorem W3:∀{ks:List Dk} {L:List Expr},ks.length=L.length->(prs p env ks L).length=ks.length:=by
 intro l;induction l with
 |nil=>
  intro U;exactλU=>rfl
 |cons _ t0 i=>
  exact @λ
  |[]=>λh=>nomatch h
  |_::_=>λh=>aH (·+1)<|i<|eQ h
theorem aaB{ks:List Dk}{L:List Expr}{p:Pos}{Q:aj}(t:ks.length=L.length)(q:ks.length=3)(C:(ks.map kd).Nodup)(h:VN c J E L Y λus Y=>∀r,Y r=X->Q (.S r) (Y.aX r<|.cQ<|(ks.map kd).zip us)):VE c J Y (eO (.Dict (ks.map λk=>O<|kC k) L p) c.bc) Q E:=λs I=>by
 show W c J Y s (mz p>>=λU=>V7<|(evalEachOpt (ks.map λk=>O<|kC k) c.bc).zip ((Dl L c.bc).map λv=>do let x<-v;mz p;jg x)) _ E;have u:=(W3 (p:=p) (env:=c.bc) t).trans q;refine rr (aaA _ _)<|rr (adU u) ?_;refine W.ki<|W.bJ (R:=λd aO s'=>Q (.S d) aO) ?_ λd F s₁ f G=>W.j' f.cm ⟨.S d,jk,G⟩;refine db (λU U k=>V8 k)<|have i:dh c Y s J Y {s with heap:=s.heap.push {cls:=.type "dict",data:=.dict #[]}}:=.qt I<|Qt.nf s {cls:=.type "dict",data:=.dict #[]} s.toks;wpAny_bind (eY ?_);refine rr (bI (show(prs p c.bc ks L).length<=15 by refine rr u ?_;exact dc)) ?_;refine wpAny_bind<|wpAny_mono (aaz ks L t h i.cm) (λl s₁ H=>?_) λU U=>.aU i;obtain⟨F,f,as,m,j,ρ⟩:=H;refine eY<|fw (f.tw (cJ _ Z) (I.iX<|dZ _).1 (I.iX<|dZ _).2.1 (I.iX<|dZ _).2.2.1 (I.iX<|dZ _).2.2.2 i.cm) λy z=>?_;refine wpAny_bind<|adT (M:=c.M) (A:=c.A) j ((ja _ (#[]) 0 y (dW Z Z Z) Z (λU K=>by simp at K) ⟨.nil,kN⟩):s₁.heap.DictOf (Bs c.g.w) s.heap.objs.size []) (rr q<|aK rfl) C λh' n xs vs=>bZ<|bZ ?_;refine jz (id xs) λo U U a U=>⟨_,(i.aU f).RJ (k:=.cQ<|(ks.map kd).zip as) I (dZ _) z (λo a=>by replace a:=y.symm.trans a;refine rl (aJ a) ?_;exact ur Z) (λb o nb e=>(vs.2 b nb).trans e) (.inr ⟨o,a⟩) Z Z (λik=>lQ _ xs ((j.kv).cp ik) (aD (cC<|j.kv.ez.symm.trans j.gj)<|rr q<|aK rfl)<|RK I<|bO _) Z,ρ _ z⟩
end
end
variable{as:aw} {aO:a8}
section
open SeqAt
variable{oe:Obj} {oh:Obj} {hvs:Array bb}
section
variable{w:fZ}
theorem uI{Q:α->bG->Prop}{e h:a8}{L:Array bb}(c:A.handled=O (.ref h))(a:s.heap.get? e=O oe)(hd:oe.data=.fields L)(d:2<L.size)(f:s.heap.get? h=O oh)(g:oh.data=.fields hvs)(i:hvs[2]?=O .none)(ne:e≠h)(q:E (.ref e) {s with heap:=s.heap.update e (kx (·.setIfInBounds 2<|.ref h))}):ee (gy prog w) A (raiseNew (.ref e):Sem α) Q E s:=by refine wpAny_bind<|wpAny_handled ?_;refine rr c ?_;dsimp only;refine rr (bI<|by simpa usingλx=>ne x.symm)<|wpAny_bind<|eY<|wpAny_runValue<|Ht (b:=qO.«proto.unchain») (entryFor_of_fast<|by kernel_rfl) ?_;show ee _ _ (do let j<-field (.ref h) 2;if j==.none then ret .none else _) _ _ s;refine db (λU U k=>mI f g i k)<|bZ<|wpAny_bind<|db (λU U k=>wpAny_load a k)<|rr hd ?_;dsimp only;exact rr (bI d)<|wpAny_update a<|Hh q
theorem FO{it h:a8}{x left step:Int}{Q:Option bb->bG->Prop}(i:A.handled=O (.ref h))(d:s.heap.get? h=O oh)(j:oh.data=.fields hvs)(l:hvs[2]?=O .none)(c:Hi s.heap it x left step)(n:left<=0)(p:∀h',LW it s.heap h'->Q X {s with heap:=h'}):ee (gy prog w) A (ZZ<|.ref it) Q E s:=by
 refine wpAny_bind (NO (wg (name:=qT "__next__") ((bX _ c Z):s.TypeIs (.ref it) "range_iterator") Hu
  (lA Hu ((bX _ c Z):s.TypeIs (.ref it) "range_iterator") F.entry_range_iterator_next ?_<|F.args_range_iterator_next_1 _)))
 show ee _ _ (field (.ref it) 0>>=_) _ _ s;refine db (λU U k=>mI c Z (x:=rawInt x) Z k)<|db (λU U k=>mI c Z (x:=rawInt left) Z k)<|db (λU U k=>mI c Z (x:=rawInt step) Z k) ?_;show ee _ _ (if left<=0 then _ else _) _ _ s;refine rr (bI n)<|wpAny_bind<|A7 ?_;refine wpAny_bind<|wpAny_bind<|wpAny_bind (iR ?_<|by size_fits);refine wpAny_bind (m:=yM _ _) (V9 (a:=xr) (by first|rfl|(simp only [yM];rfl)) ?_);refine iR ?_ (by size_fits);have f:∀b o,s.heap.get? b=O o->((s.heap.push {cls:=.type "tuple",data:=.seq ([]:List bb).toArray}).push {cls:=.type "StopIteration",data:=.fields (#[.ref s.heap.objs.size,.none,.none,.none,.bool bk,.none]++Dm (.type "StopIteration") [])}).get? b=O o:=λb o e=>bM _<|bM _ e;have ne:(s.heap.push {cls:=.type "tuple",data:=.seq ([]:List bb).toArray}).objs.size≠h:=by
  intro e;have:=fN d;replace this:=(fj _ _)▸e▸this;exact iG _<|Aa this
 have g:=cJ (s.heap.push {cls:=.type "tuple",data:=.seq ([]:List bb).toArray}) (o:={cls:=.type "StopIteration",data:=.fields (#[.ref s.heap.objs.size,.none,.none,.none,.bool bk,.none]++Dm (.type "StopIteration") [])}) Z;refine uI (h:=h) i g Z (rr (Qc)<|cD (show 2<6 by decide)<|d7 _ _) (f _ _ d) j l ne<|wpAny_bind (wb (T:="StopIteration") (b:=D) (bX _ (eV (kx (·.setIfInBounds 2<|.ref h)) g Z) Z) af4 ?_);refine bZ<|p _ λb o nb e=>?_;rw [gf]
 .exact f b o e
 .exact rr (fj _ _) λq=>iG b<|mD (fN e)<|rl q<|dM _
end
def rV(h:j9)(it:a8):V->Nat->Prop
 |.S a,k=>h.IsListIter it a k
 |.bD B,k=>∃t L,Aw h t L.toArray/\eX h B L/\h.IsTupleIter it t k/\t≠it
 |.wk lo hi,k=>Hi h it (lo+k) (((hi-lo).toNat:Int)-k) 1
 |.aQ l,k=>∃t,h.IsStrIter it "str_ascii_iterator" (tx l) t k\/h.IsStrIter it "str_iterator" (tx l) t k
 |_,_=>False
theorem rV.cp{it:a8}{a:V}(x:rV h it a k)(ik:IK h h')(e:∀o,h.get? it=O o->h'.get? it=O o):rV h' it a k:=by
 cases a with
 |S a=>refine cK x λo b r=>?_;exact bX o (e o b) r
 |bD B=>(refine e9 x λt L c r z ne=>?_;refine cK z λo b q=>?_);exact gk t L (ik.bD c) (r.cp ik) (bX o (e o b) q) ne
 |wk lo f=>exact e _ x
 |aQ l=>
  exact ka x λt z=>bV z (λz=>cK z λo b r=>⟨t,.inl<|bX o (e o b) r⟩) λd=>cK d λo b r=>⟨t,.inr<|bX o (e o b) r⟩
 |_=>exact x.elim
theorem rV.kZ{it:a8}{a:V}(x:rV h it a k):∃o,h.get? it=O o/\¬Fu o:=by
 have f:∀{o:Obj} {T:String},o.cls=.type T->T≠"tuple"->T≠"range"->¬Fu o:=by
  rintro o T d e g (⟨h,_⟩|⟨h,_⟩)<;>rw [d]at h<;>simp at h
  .exact e h
  .exact g h
 cases a with
 |S a=>refine hV x λo b c r=>?_;exact bX o b<|f c dc dc
 |bD B=>(refine e9 x λt L j r z ne=>?_;refine hV z λo b c q=>?_);exact bX o b<|f c dc dc
 |wk lo m=>exact bX _ x<|f (T:="range_iterator") Z dc dc
 |aQ l=>
  exact ka x λt z=>bV z (λz=>hV z λo b c r=>bX o b<|f c dc dc) λi=>hV i λo b c r=>bX o b<|f c dc dc
 |_=>exact x.elim
section
variable{c:dC} {J:bw} {E':bb->bG->Prop}
inductive Itm(hd:Option a8)(Y:N):V->aw->Prop where
 |wk (lo hi:Int):Itm hd Y (.wk lo hi) ((dk (hi-lo).toNat).map λ(k:Nat)=>V.aL<|lo+(k:Int))
 |S {x:a8} {B:aw} (z:hd=X) (h:Y x=O (.aF B)):Itm hd Y (.S x) B
 |bD {B:aw} (z:hd=X):Itm hd Y (.bD B) B
 |aQ {l:aq} (z:hd=X):Itm hd Y (.aQ l) (l.map λd=>.aQ [d])
theorem itm{a:V}(h:g0 hd a Y=O B):Itm hd Y a B:=by
 cases a with
 |wk lo b=>refine rl (aJ h) ?_;exact .wk lo b
 |S x=>
  induction hd with
  |none=>
   replace h:yY x Y=O B:=h;delta yY at h;cases e:Y x with
   |none=>replace h:=e▸h;exact no h
   |some k=>
    replace h:=e▸h;induction k with
    |aF y=>refine rl (aJ h) ?_;exact .S Z e
    |_=>exact no h
  |some _=>exact no h
 |bD y=>
  induction hd with
  |none=>refine rr (aJ h) ?_;exact .bD Z
  |some _=>exact no h
 |aQ l=>
  induction hd with
  |none=>refine rl (aJ h) ?_;exact .aQ Z
  |some _=>exact no h
 |_=>induction hd<;>exact no h
theorem adV(lo a:Int):Builtin.Range.rangeSize lo a 1=((a-lo).toNat:Int):=by
 refine rr (rangeSize_one _ _) ?_;by_cases h:lo<a
 .exact rr (bI h)<|rr (xt<|ew<|VC h) Z
 .refine rr (bu h)<|rr (Int.toNat_eq_zero.mpr<|NP<|Ka h) ?_;rfl
theorem Of{lo hi:Int}(z:-(cE:Int)<=lo)(a:lo<=cE)(b:-(cE:Int)<=hi)(c:hi<=cE):Builtin.Range.small lo hi 1=D:=by rw [fA]at z a b c;exact small_one (bA dc z) (ig a dc) (bA dc b)<|ig c dc
theorem HO{a:V}{x:bb}{Q:bb->bG->Prop}(I:de c J Y s)(f:g0 hd a Y=O B)(r:cY s.heap a x)(h:∀it s',Qt s s'->s.heap.get? it=X->rV s'.heap it a 0->B.length<=cE->Q (.ref it) s'):ee c.M c.A (pyIter x) Q E' s:=by
 induction itm f with
 |wk lo f=>
  refine vx (Wl r) λq t u w b i m j=>?_;obtain rfl:=b;obtain⟨p,v,y⟩:=j;refine wpAny_pyIter_range i ?_<|h _ _ (.nf _ _ _) (dZ _) ?_ ?_
  .exact Of (by lia) (bA ‹_› dc) (by lia)<|‹_›
  .refine rr (adV _ _) ?_;show Hi _ _ (lo+0) (_-0) _;refine rr (Ac _)<|?_;exact cJ _ Z
  .refine rr (aT _)<|rr (et) ?_;lia
 |S z k=>
  exact rr (fG r)<|I.zJ k λL n e rl z=>acQ (gI e)<|h _ _ (.nf _ _ _) (dZ _) (fW _ (cJ _ Z) Z Z) (by rw [<-rl.ez];exact z)
 |bD z=>
  refine e9 (xB r) λg L b d rl z=>?_;obtain rfl:=b;refine have q:=Qt.nf s {cls:=.type "tuple_iterator",data:=.fields #[.ref g,.int 0 0]} s.toks;Bc d (h _ _ q (dZ _) (gk g L (q.ik.bD d) (rl.cp q.ik) (fW _ (cJ _ Z) Z Z) ?_) (by rw [<-rl.ez];exact z));rintro rfl;exact cK d λo l U=>cM (fN l)<|iG _
 |aQ z=>
  refine D' r λt=>wpAny_pyIter_strU<|h _ _ (.nf _ _ _) (dZ _) ⟨t,?_⟩<|rr (aT _)<|th r;unfold strIterType;split
  .exact .inl<|fW _ (cJ _ Z) Z Z
  .exact .inr<|fW _ (cJ _ Z) Z Z
structure Nx(s:bG)(it:a8)(a:V)(k:Nat)(v:V)(u:bb)(h':j9):Prop where
 wQ:f7 it s.heap h'
 nx:IK s.heap h'->rV h' it a (k+1)
 at_:∃o,h'.get? it=O o
 rep:IK s.heap h'->cY h' v u
theorem RM{x:Int}:x-((k+1:Nat):Int)=x-k-1:=by lia
theorem Mh{a:V}{v:V}{it:a8}{Q:Option bb->bG->Prop}(I:de c J Y s)(w:g0 hd a uH=O B)(st:k9 hd a B Y)(f:rV s.heap it a k)(l:B[k]?=O v)(h:∀u h' tk,Nx s it a k v u h'->Q (O u) {s with heap:=h',toks:=tk}):ee c.M c.A (ZZ<|.ref it) Q E' s:=by
 induction itm w with
 |wk lo w=>
  refine gm l λn m p=>?_;induction p;have j:=gl m;replace m:=(jI (by replace j:=(et)▸j;exact j)).symm.trans m;obtain rfl:=aJ m;replace j:=(et)▸j;refine wpAny_pyNext_range_item f (VC<|Int.ofNat_lt.mpr j) λh' b g=>h _ h' _ ⟨g,λU=>?_,⟨_,b⟩,λU=>gW⟩;show Hi h' it (lo+((k:Int)+1)) (_-((k+1:Nat):Int)) _;refine rr RM<|rl (Hv _ _ _) ?_;exact b
 |S z C=>
  exact I.zJ st.1 λL n e rl z=>cK (rl.at l) λu q r=>Qx f (gI e) ((hM ..).trans q) λh' b g=>h _ h' _ ⟨g,λU=>b,cK b λo i U=>⟨o,i⟩,λik=>r.cp ik⟩
 |bD z=>
  exact e9 f λt L x rl f ne=>cK (rl.at l) λu q r=>Qd f x ((hM ..).trans q) λh' b g=>h _ h' _ ⟨g,λik=>gk t L (ik.bD x) (rl.cp ik) b ne,cK b λo i U=>⟨o,i⟩,λik=>r.cp ik⟩
 |aQ z=>
  refine ka f λt f=>gm l λd hd p=>?_;obtain rfl:=p;have y:[d].length<=cE:=by exact aK rfl
  have xs:=(hM ..).trans hd
  rcases f with f|f
  .exact wpAny_pyNext_ascii_item f xs λh' b g=>h _ h' _ ⟨g,λU=>⟨t,.inl b⟩,cK b λo i U=>⟨o,i⟩,λik=>qq y⟩
  .exact wpAny_pyNext_wide_item f xs λh' b g=>h _ h' _ ⟨g,λU=>⟨t,.inr b⟩,cK b λo i U=>⟨o,i⟩,λik=>qq y⟩
theorem RN{a:V}{it:a8}{Q:Option bb->bG->Prop}(I:de c J Y s)(r:pT c.A hd n)(d:g0 hd a uH=O B)(st:k9 hd a B Y)(b:rV s.heap it a B.length)(h:∀h',LW it s.heap h'->Q X {s with heap:=h'}):ee c.M c.A (ZZ<|.ref it) Q E' s:=by
 induction itm d with
 |wk lo u=>
  have e:(((u-lo).toNat:Int)-((dk (u-lo).toNat).map λ(k:Nat)=>V.aL<|lo+(k:Int)).length)<=0:=by refine rr (aT _)<|rr (et)<|rr (JT _) ?_;exact fb _
  induction hd with
  |none=>exact wpAny_pyNext_range_end r.gp b e h
  |some ea=>
   exact Bj (st.2 ea Z) λC dx m tb f=>fw (I.gD _ _ f) λg U=>e9 g λL sl i U j U=>FO r.gp i Z j b e h
 |S z o=>
  subst z;exact I.zJ st.1 λL n e rl z=>VD r.gp b (gI e) (tW<|cC rl.ez) h
 |bD z=>
  subst z;exact e9 b λt L l rl b ne=>wpAny_pyNext_tuple_end r.gp b l (tW<|cC rl.ez) h
 |aQ z=>
  subst z;exact ka b λt b=>bV b (λb=>wpAny_pyNext_ascii_end r.gp b (by simp) h) λb=>wpAny_pyNext_wide_end r.gp b (by simp) h
end
end
variable{oe:Obj} {oh:Obj} {hvs:Array bb}
section
open SeqAt
theorem Ep{M:yF}{J:At}{u:V}{Q:Unit->bG->Prop}(f:i<86)(I:nP s.heap a J)(ρ:cY s.heap u v)(h:∀h',(IK s.heap h'->nP h' a (J.iV i u))->f7 a s.heap h'->(∃o es ep,h'.get? a=O o/\o.data=.dict es ep/\es.size<=(J.iV i u).length)->Q () {s with heap:=h',toks:=s.toks+1}):ee M A (nsSet a (nm i) v) Q E s:=by
 refine iz λR k0=>l5 I λo es ep l hd r aE C=>k0 ?_;have K:es.any (·.refKey)=bk:=by
  refine ri (Array.any_eq_false') ?_;intro e vs;refine mK (r e vs) λn t h=>?_;simp [JU,h]
 refine wpAny_bind<|db (λU U k=>wpAny_askSetting k)<|bZ<|db (λU U k=>Dj k)<|wpAny_bind<|yN (s:={s with toks:=s.toks+1}) l ?_;refine rr hd ?_;dsimp only;refine rr aRefKeyMayBeTheName_eq ?_;rw [aRefKeyMayBeTheNameByArray];refine rr K<|rr (kP _)<|?_;have m:=At.Br J i u;have step:∀(h':j9) (g:Obj) (b:Array oA) (p:Nat),h'.get? a=O g->g.data=.dict b p->Qq b->b.size<=(J.iV i u).length->(∀x,rH b x=if x=nm i then O v else rH es x)->f7 a s.heap h'->Q () {s with heap:=h',toks:=s.toks+1}:=by
  intro h' g b p aO F aZ xs G aB;refine h h' (λik=>ja g b p aO F aZ xs λj H=>?_) aB<|jX g b p aO F xs;refine rr (G _)<|rr (At.Kg _ _ _ _) ?_;by_cases q:j=i
  .clear xs G k0;clear h f m;subst q;refine rr (bI Z)<|rr (bI Z) ?_;exact ρ.cp ik
  .refine rr (bu λz=>q<|aab H f z)<|rr (bu q) ?_;exact(C j H).cp ik
 refine wpAny_updatePart (s:={s with toks:=s.toks+1}) l ?_;obtain⟨c,d,T,sl⟩:=o;clear k0;subst hd;cases VV:es.findIdx? (·.key.isStr<|nm i)with
 |some k=>
  refine step _ _ _ ep (eV _ l (by simp only [wL,rK,VV];rfl)) (by simp only [wL,rK,VV];rfl) (r.modify _ _) (by refine rr (Array.size_modify) ?_;lia) (λx=>?_)<|gF ..;have:=findBy_modify (λn v=>v.isStr n) Value.isStr_inj es (nm i) x v k VV;exact this
 |none=>
  have P:J.lookup i=X:=by
   have:=C i f;rw [(by unfold rH;exact rr (Z0 _ _ _) (rr VV Z):rH es (nm i)=X)]at this;clear f;clear h m;cases q:J.lookup i with
   |none=>rfl
   |some w=>replace this:=q▸this;exact this.elim
  refine step _ _ _ (ep+1) (eV _ l (by simp only [wL,rK,VV];rfl)) (by simp only [wL,rK,VV];rfl) (r.push _ _ _ _) (by refine rr (Array.size_push _)<|rr (m.2.2 P) ?_;exact cg ‹_›) (λx=>?_)<|gF ..;unfold rH;exact rr (findBy_push (λn v=>v.isStr n) es (nm i) x _ _ v (λy=>by
   show(nm i==y)=decide (y=nm i);by_cases h:y=nm i
   .clear f m;exact rr h Z
   .have:¬nm i=y:=λe=>h e.symm;simp [h,this]) VV) Z
section
variable{w:fZ}
theorem Dw{l:a8}{k:Int}{t:Tok}{Q:Unit->bG->Prop}(h:s.heap.get? l=O {cls:=.type "list",data:=.seq L.toArray n})(b:0<=k)(c:k<2^63)(g:k<L.length)(d:∀h' m,h'.get? l=O {cls:=.type "list",data:=.seq (L.set k.toNat v).toArray m}->f7 l s.heap h'->Q () {s with heap:=h'}):ee (gy prog w) A (setItem (.ref l) (.int k t) v) Q E s:=by
 have a:s.heap.IsList l L.toArray:=lR _ h Z n Z;unfold setItem
 try with_reducible refine eY ?_
 refine db (λU U k=>wpAny_sequenceKey a.typeIs dc k)<|wpAny_bind<|wg (name:=qT "__setitem__") a.typeIs acR<|lA acR a.typeIs entry_list_setitem ?_<|args_list_setitem _ _ _;show ee _ _ (Builtin.List.listSubscript? (.int k t)>>=_) _ _ s;refine db (λU U k=>wpAny_listSubscript_int (fitsIndex_of b c) k) ?_;clear c;obtain⟨j,rfl⟩:=kX b;have f:j<L.toArray.size:=by simp only [g6];exact zI ‹_›
 refine wpAny_bind<|db (λU U k=>wpAny_seqItemAt h Z k)<|bZ ?_;refine rr (D2 f) ?_;have e:(s.heap.update l (lB (·.setIfInBounds j v))).get? l=O {cls:=.type "list",data:=.seq (L.set (j:Int).toNat v).toArray n}:=by
  refine bL (eV _ h Z) ?_;simp [lB]
 exact db (λU U k=>wpAny_setSeqItemAt h Z k)<|bZ<|bX .none Z<|bZ<|d _ n e<|gF ..
end
variable{dat:Data}
section
variable{c:dC} {J:bw} {E:Ex}
theorem KC{b:a8}{k:cP}(h:Y a=X)(e:Y b=O k):b≠a:=λz=>iF _<|e.symm.trans<|z▸h
theorem oQ{b:a8}{k k':cP}{P:a8->cP->Prop}(h:(Y.aX a k) b=O k')(c:P a k)(d:b≠a->Y b=O k'->P b k'):P b k':=by
 by_cases z:b=a
 .replace h:=(N.aM _ _ _)▸z▸h;refine rr z<|rl (aJ h) ?_;exact c
 .replace h:=(N.da _ _ z)▸h;exact d z h
theorem eM.grow(i:iO g A Y s){d:a8}{k:cP}(j:Y a=O (.Ai C))(hd:s.heap.get? d=X)(keep:∀b o,b≠a->s.heap.get? b=O o->s'.heap.get? b=O o)(gens:s'.gens=s.gens)(os:s'.os=s.os)(m:k.fU g.w s'.heap a) (xs:k.tm=O d) (aO:(cP.fu a).fU g.w s'.heap d):eM g A Y s ((Y.aX d<|.fu a).aX a k) s':=by
 refine cK ((i.gD a _ j).kZ) λH p r=>have ik:IK s.heap s'.heap:=λb o e E=>keep b o (λz=>r<|aJ ((z▸e).symm.trans p)▸E) e;?_;clear p r;have same:∀b l,b≠a->Y b=O l->s'.heap.get? b=s.heap.get? b:=λb l nb h=>(i.gD b l h).kZ.elim λo q=>(keep b o nb q.1).trans q.1.symm;have part:∀b k' c,Y b=O k'->k'.tm=O c->Y c=O (.fu b):=λb k' c h e=>i.ie b k' c h e;have t:∀{b c},Y c=O (.fu b)->c≠a:=λh z=>cP.noConfusion<|aJ<|(z▸h).symm.trans j;refine⟨i.yV (λb o e=>keep b o (λz=>iF _<|(z▸e).symm.trans<|i.cu a _ j)<|i.fk b o e)
  (λb k' h=>oQ (P:=λb k'=>k'.fU g.w s'.heap b) h m λnb h=>oQ (P:=λb k'=>k'.fU g.w s'.heap b) h aO λU h=>(i.gD b k' h).n7 ik (same b _ nb h) λc u=>same c _ (t<|part b k' c h u)<|part b k' c h u)
  (λb k' e h f=>?_)
  (λb k' h=>oQ (P:=λb U=>g.iW.get? b=X) h (i.cu a _ j) λU h=>oQ (P:=λb U=>g.iW.get? b=X) h (i.qr hd) λU h=>i.cu b k' h)
  (λvs F=>?_) gens,dW (λb e=>?_) ik λb o e no=>?_,λb k' h=>?_,os⟩
 .refine oQ (P:=λb k'=>k'.tm=O e->((Y.aX d<|.fu a).aX a k) e=O (.fu b)) h (λf=>?_) (λnb h=>oQ (P:=λb k'=>k'.tm=O e->((Y.aX d<|.fu a).aX a k) e=O (.fu b)) h (λf=>(iF _ f.symm).elim) λU h f=>?_) f
  .exact rl (aJ<|xs.symm.trans f)<|rr (N.da _ _ (KC (i.gx hd) j:a≠d).symm)<|N.aM _ _ _
  .refine rr (N.da _ _<|t<|part b k' e h f)<|rr (N.da _ _<|(λh=>KC (i.gx hd) h:∀{b k'},Y b=O k'->b≠d)<|part b k' e h f) ?_;exact part b k' e h f
 .refine i.QT F λv I o es n x G=>have y:vs≠a:=(KC v j).symm;⟨kY o es n (keep vs o y x) G,by refine rr (N.da _ _ y)<|rr (N.da _ _ λz=>iF _<|(z▸x).symm.trans hd) ?_;exact v⟩
 .have z:b≠a:=λz=>m.kZ.elim λok q=>iF _<|q.1.symm.trans<|z▸e;cases q:s.heap.get? b with
  |none=>rfl
  |some o=>exact(iF _<|(keep b o z q).symm.trans e).elim
 .have:=keep b o (λz=>no (z▸⟨_,j⟩):b≠a) e;exact rP (λU=>this) o.slots this
 .exact oQ (P:=λb U=>(∃k,Y b=O k)\/s.heap.get? b=X) h (.inl ⟨_,j⟩) λU h=>oQ (P:=λb U=>(∃k,Y b=O k)\/s.heap.get? b=X) h (.inr hd) λU h=>.inl ⟨k',h⟩
theorem nP.Mi{o:Obj}(e:h.get? dx=O o)(hd:o.data=.dict #[] n):nP h dx []:=by
 refine ja o (#[]) n e hd ?_ (dA _) λj b=>?_
 .intro e a;simp at a
 .have:rH (#[]:Array oA) (nm j)=X:=by refine bL (Z0 _ _ _) ?_;simp
  trivial
theorem aaC{u:V}{Q:N->Prop}(I:de c J Y s)(m:Y ad=O (.Ai C))(k:Me c.g.K C)(A:ji c.g.K (.ref C) (nm i)=O X)(xs:i<86)(aO:cY s.heap u v)(q:∀dx,Y dx=X->dx≠ad->Q ((Y.aX dx<|.fu ad).aX ad<|.fg C dx [(i,u)] .none X)):W c J Y s (acS (.ref ad) (nm i) v) (λU F s'=>Q F) E:=by
 refine cK (k.cd) λcd G ρ=>e9 (I.gD _ _ m) λL sl a vs M aZ=>have p:InstAt s.heap ad ⟨.ref C,X,.fields L,sl⟩ C X:=⟨a,Z,Z,trivial⟩;set_plain I.vE p k.aX (Md I.vE p k.FL A ?_);refine pb<|wpAny_bind<|db (λU U k=>yN (s:={s with toks:=s.toks+1}) a k)<|db (λU U k=>ac' (s:={s with toks:=s.toks+1}) (V5 I.vE G) k) ?_;refine rr ρ<|have n:=dZ s.heap;?_;have ne:s.heap.objs.size≠ad:=λz=>by replace n:=z▸n;replace n:=a▸n;exact nq aP n ff
 refine db (λU U k=>V8 k)<|db (λU U k=>wpAny_update (bM _ a) k)<|bZ<|pb<|wpAny_bind ?_;generalize hH:(s.heap.push {cls:=.type "dict",data:=.dict #[]}).update ad (λo=>{o with dict:=O s.heap.objs.size})=H;have r:H.get? s.heap.objs.size=O {cls:=.type "dict",data:=.dict #[]}:=by
  refine rl hH<|bL (gf _ _<|lF ne) ?_;exact cJ _ Z
 have aB:H.get? ad=O ⟨.ref C,O s.heap.objs.size,.fields L,sl⟩:=by
  exact rl hH<|eV _ (bM _ a) Z
 have t:∀b o,b≠ad->s.heap.get? b=O o->H.get? b=O o:=λb o nb e=>by
  refine rl hH<|bL (gf _ _<|lF nb) ?_;exact bM _ e
 refine Ep (s:={s with heap:=H,toks:=s.toks+1}) xs (.Mi r Z) (aO.cp (λb o e d=>t b o (by rintro rfl;replace e:=a▸e;obtain rfl:=aJ e;refine bV d (λf=>fw f λh U=>?_) λj=>fw j λh U=>?_<;>simp at h) e:IK s.heap H)) λh' P R aE=>iT aE λT w aG x y σ=>wpAny_bind ?_;have e3':w.size<=1:=σ;refine ada x (rr y<|adb<|aD ‹_› dc) ?_;have l:∀b o,b≠s.heap.objs.size->H.get? b=O o->h'.get? b=O o:=λb o nb e=>(R.2 b nb).trans e;have st:dh c Y s J ((Y.aX s.heap.objs.size<|.fu ad).aX ad<|.fg C s.heap.objs.size [(i,u)] .none X) {s with heap:=h',toks:=s.toks+1+1}:=
  I.lI (eM.grow I.toiO m n (λb o nb e=>l b o (by rintro rfl;replace e:=n▸e;exact nq aP e ff)<|t b o nb e) Z Z ⟨gk L sl (l ad _ (lF ne) aB) vs M aZ,P (λb o e d=>l b o (by rintro rfl;replace e:=r▸e;obtain rfl:=aJ e;refine bV d (λf=>fw f λh U=>?_) λj=>fw j λh U=>?_<;>simp at h) e:IK H h')⟩ Z<|kY T w aG x y)
 exact bZ ⟨_,st,q _ (I.gx n) ne⟩
noncomputable def YS:Data->Bool
 |.dict ..=>bk
 |.cls ..=>bk
 |_=>D
theorem nP.ne{a:At}{d:Option a8}{sl:Array (Option bb)}(x:nP h dx a)(c:h.get? ad=O ⟨.ref C,d,dat,sl⟩)(hd:YS dat=D):ad≠dx:=by rintro rfl;refine iT x λo es ep b e U=>have b:=c▸b;?_;obtain rfl:=aJ b;cases e;exact nq bP hd ff
theorem YT{a:At}{u:V}{sl:Array (Option bb)}{k k':cP}{Q:N->Prop}(I:de c J Y s)(r:cY s.heap u v)(m:Y ad=O k)(h:s.heap.get? ad=O ⟨.ref C,O dx,dat,sl⟩)(ns:nP s.heap dx a)(e:YS dat=D)(f:k.tm=O dx)(n:k'.tm=O dx)(p:∀o,k≠.fu o) (t:a.length<=1000) (x:i<86) (y:Ek c.g.K C) (b:∃d,Az c.g.K C=O d/\d.hasDict=D) (z:ji c.g.K (.ref C) "__setattr__"=O (O<|.builtin "object.__setattr__")) (A:ji c.g.K (.ref C) (nm i)=O X)(xs:∀h':j9,h'.get? ad=O ⟨.ref C,O dx,dat,sl⟩->nP h' dx (a.iV i u)->k'.fU c.g.w h' ad) (q:Q (Y.aX ad k')):W c J Y s (acS (.ref ad) (nm i) v) (λU aO s'=>Q aO) E:=by refine cK b λd F b=>g7 (ns.nu) λod es ep G aB P R=>have j:InstAt s.heap ad ⟨.ref C,O dx,dat,sl⟩ C (O od):=⟨h,Z,by induction dat<;>first|exact rfl|(exact nq bP e ff;done),G⟩;set_plain I.vE j z (Md I.vE j y A ?_);refine pb<|wpAny_bind<|db (λU U k=>yN (s:={s with toks:=s.toks+1}) h k)<|db (λU U k=>ac' (s:={s with toks:=s.toks+1}) (V5 I.vE F) k) ?_;refine rr b<|bZ (a:=O dx)<|pb<|wpAny_bind<|Ep (s:={s with toks:=s.toks+1}) x ns r λh' H l ρ=>iT ρ λaE T aG vs M aZ=>wpAny_bind ?_;exact ada vs (rr M<|adb<|aD aZ<|aD ((At.Br a i u).2.1)<|aD (cg t)<|aK rfl)<|have st:dh c Y s J (Y.aX ad k') {s with heap:=h',toks:=s.toks+1+1}:=I.lI<|eM.Bw I.toiO m dx (.inr f) l (λik=>xs h' ((l.2 ad<|ns.ne h e).trans h)<|H ik) (n.trans f.symm) p;bZ ⟨_,st,q⟩
theorem Dx{a:V}{u:V}{x:bb}{Q:N->Prop}(I:de c J Y s)(k:KF c.g)(h:BE a i u Y Q)(t:cY s.heap a x)(r:cY s.heap u v):W c J Y s (acS x (nm i) v) (λU w s'=>Q w) E:=by
 cases a with
 |S A=>
  refine rr (fG t) ?_;induction h with
  |i f b m q=>
   exact fw (RF b) λb d=>fw (k.bK _ i b) λj l=>fw (I.gD _ _ f) λz ns=>ka z λsl o=>YT (k':=.d8 _ _ _) I r f o ns Z Z Z (λU h=>nq Internal.cP.ctorIdx h ff) m l (k.pJ _ (qv b) d).FL (k.pJ _ (qv b) d).cd (k.pJ _ (qv b) d).aX j (λh' e p=>⟨⟨sl,e⟩,p⟩) q
  |x f b m q=>
   exact fw (Ky b) λb d=>fw (k.bK _ i b) λj l=>fw (I.gD _ _ f) λz ns=>j6 z λL sl o y=>YT (k':=.fg _ _ _ _ _) I r f o ns Z Z Z (λU h=>nq Internal.cP.ctorIdx h ff) m l (k.fg _ d).FL (k.fg _ d).cd (k.fg _ d).aX j (λh' e p=>⟨lq L sl e y,p⟩) q
  |n f b q=>
   exact fw (Ky b) λb d=>fw (k.bK _ i b) λj l=>aaC I f (k.fg _ d) j l r q
 |_=>exact h.elim
theorem lr.RO{v:V}{u:bb}(r:cY h v u):∀{kv:ak} {kvs:List (KK×bb)} (k:KK),(kvs.map (·.1)).Nodup->lr h kv kvs->lr h (lS kv k v) (nJ kvs k u):=by
 intro l;induction l with
 |nil=>
  intro U k U q;exact rr q<|fe u [] Z r Z
 |cons i kv j=>
  obtain⟨k',b⟩:=i;intro U k n q;refine fE q λa kvs z r1 d=>?_;obtain rfl:=z;rw [eL,qb]at n;by_cases e:k'=k
  .subst e;have c:nJ ((k',a)::kvs) k' u=(k',u)::kvs:=by
    unfold nJ;refine rr (bI<|by simp)<|rr (eL)<|rr (bI Z) ?_;exact aH ((k',u)::·) ((jH (g:=id) λp m=>bu λe:p.1=k'=>n.1 (e▸dm (f:=(·.1)) m)).trans<|LX kvs)
   exact rr c<|rr (show lS ((k',b)::kv) k' v=(k',v)::kv from bI Z)<|fe u kvs Z r d
  .have c:nJ ((k',a)::kvs) k u=(k',a)::nJ kvs k u:=by
    unfold nJ;refine rr (Z1) ?_;simp only [e,decide_false,Bool.false_or];split
    .exact bL (eL)<|rr (bu e) Z
    .rfl
   exact rr c<|rr (show lS ((k',b)::kv) k v=(k',b)::lS kv k v from bu e)<|fe a _ Z r1<|j k n.2 d
theorem HP(kv:ak)(k:KK)(v:V):(lS kv k v).length<=kv.length+1:=by
 induction kv with
 |nil=>exact bO _
 |cons p r i=>
  obtain⟨k',u⟩:=p;exact iteInduction (motive:=λl:ak=>l.length<=r.length+1+1) (λU=>ej _) λU=>cg i
theorem oM.gj:∀{kv:List (ae×V)} {B:List (ae×a8×bb)},oM h kv B->B.length=kv.length:=by
 intro l;induction l with
 |nil=>
  intro U r;exact rr r Z
 |cons a r i=>
  obtain⟨x,u⟩:=a;intro U q;obtain⟨b,c,q,rfl,d,q⟩:=q;simp [i q]
theorem oM.jO{k:ae}{b:a8}{v:V}{u:bb}(a:cY h v u):∀{kv:List (ae×V)} {B:List (ae×a8×bb)},oM h kv B->oM h (kv++[(k,v)]) (B++[(k,b,u)]):=by
 intro l;induction l with
 |nil=>
  intro U r;exact rr r<|jX _ _ _ Z a Z
 |cons c r i=>
  obtain⟨x,w⟩:=c;intro U q;obtain⟨b',e,q,rfl,d,q⟩:=q;exact jX _ _ _ Z d<|i q
theorem Mj{k k':cP}{Q:N->Prop}(I:de c J Y s)(h:Y ad=O k)(a:f7 ad s.heap h')(b:∀o,k≠.fu o)(q:Q (Y.aX ad k'))(d:k'.tm=k.tm)(e:IK s.heap h'->k'.fU c.g.w h' ad):Wq c J Y s (λf U=>Q f) {s with heap:=h',toks:=n}:=⟨_,I.lI<|eM.Bw I.toiO h ad (.inl Z) a e d b,q⟩
theorem Ml(h:n<=1000):n+1<=cE:=by exact aD (cg h)<|aK rfl
theorem Dy{a k u:V}{x y:bb}{Q:N->Prop}(I:de c J Y s)(G:c.A.units+100<ll)(h:BF a k u Y Q)(H:cY s.heap a x)(C:cY s.heap k y)(aO:cY s.heap u v):W c J Y s (setItem x y v) (λU ρ s'=>Q ρ) E:=by
 cases a with
 |S P=>
  refine rr (fG H) ?_;induction h with
  |l b e K j q=>
   subst e;refine ka (rh C) λt f=>?_;obtain rfl:=f;refine I.zJ b λL m e r z=>have j:=(r.ez)▸j;?_;exact Dw e K (dO (dO j<|il z)<|show(cE:Int)<=2^63 by decide) j λh' vs M i=>Mj (n:=s.toks) I b i (λU h=>nq Internal.cP.ctorIdx h ff) q Z λik=>fe _ vs M ((r.cp ik).aX (aO.cp ik) _)<|rr (fD) z
  |o b e p q=>
   subst e;refine cK (AL (w:=c.g.w) p C) λaZ f tt=>?_;obtain rfl:=f;refine gU (I.gD _ _ b) λkvs d r z ns=>?_;obtain rfl:=r;exact Z2 (uE G) tt (Eg d) (λh' xs i=>Mj I b i (λU h=>nq Internal.cP.ctorIdx h ff) q Z λik=>fW _ xs (jX _ _ _ Z (aO.cp ik) Z) ns)<|dA _
  |t b F e p j q=>
   subst e;refine cK (AL (w:=c.g.w) p C) λaZ f tt=>rr f<|hV (I.gD _ _ b) λB d r ns=>Z2 (uE G) tt d (λh' xs i=>?_)<|rr (r.gj)<|jy<|Ml F;exact Mj I b i (λU h=>nq Internal.cP.ctorIdx h ff) q Z λik=>fW _ ((storedH_new (Option.isNone_iff_eq_none.mp<|Option.isSome_eq_false_iff.mp<|(oM.xJ _ r).trans<|aH wJ j) _ _)▸xs) ((r.cp ik).jO<|aO.cp ik) ns
  |d b F p q=>
   exact gU (I.gD _ _ b) λkvs d r z ns=>wpAny_setItem_pairs (BK p C) d (λh' xs i=>Mj I b i (λU h=>nq Internal.cP.ctorIdx h ff) q Z λik=>lQ _ xs (lr.RO (aO.cp ik) _ (l5 d λU U U U U U U f=>fw f λU aB=>aB)<|r.cp ik) (aD (HP ‹_› ‹KK› u)<|aD (cg F)<|aK rfl) ns)<|rr (r.ez)<|jy<|Ml F
 |_=>exact h.elim
end
end
variable{dat:Data}
section
open SeqAt
noncomputable def HQ(x:bb)(fr:Option a8):Sem Unit:=do
 if(<-field x 1)==.none then unsupported "frame.own-activation:exception-without-traceback"
 setFlight x fr
inductive Hp(c:dC)(Y:N)(s:bG)(E:oZ)(e:bb)(s':bG):Prop where
 |mk (ea:a8) (eP:bw) (c8:N) (z:e=.ref ea) (x:dh c Y s eP c8 s') (q:Cl E ea eP c8) (t:Tbd ea c8)
section
variable{c:dC} {J:bw} {E:oZ}
theorem BN{eP:bw}(ok:hW c)(st:dh c Y s eP c8 s')(x:Cl E ea eP c8):JI c.M c.A c.bc (Hp c Y s E) (.ref ea) s':=
 wpAny_mono (tn (E:=λU U U=>False) (Q:=λU c8 U=>Cl E ea eP c8/\Tbd ea c8) ok x.1 st.cm λa b l t=>⟨x.lv l,t⟩)
  (λU b ⟨a,y,q,t⟩=>⟨ea,eP,a,Z,st.aU y,q,t⟩) λU U=>We.no
theorem Hp.g8{e:bb}(x:Hp c Y s E e s'):cameBackBy c.M c.A c.bc (Se c Y s E) e s':=by
 obtain⟨ea,eP,a,rfl,st,q,⟨C,dx,d,f,T,h⟩⟩:=x;have:W c eP a s' (HQ (.ref ea) c.bc.frame) (λU b U=>b=a) (λU U U=>False):=by
  exact Fy h st.cm<|n9 q.1 st.cm λU=>rfl
 exact wpAny_mono (show ee c.M c.A (HQ (.ref ea) c.bc.frame) _ _ s' from this) (λU g ⟨b,y,z⟩=>by subst z;exact⟨ea,eP,_,Z,st.aU y,q⟩) λU U=>We.no
end
def VG(c:dC)(J:bw)(Y:N)(x:V)(t:bb->Sem Unit)(Q:bw->N->Prop)(E:oZ):Prop:=∀s v,de c J Y s->cY s.heap x v->WS c Y s (t v) (λU eP c8 U=>Q eP c8) E
section
variable{c:dC} {J:bw} {E:oZ}
theorem adW{x:Str}{u:V}{Q:bw->N->Prop}(ok:hW c)(a:c.bp[i]?=O x)(b:Wu c x)(h:Q (J.set i<|O u) Y):VG c J Y u (ug (.Name x p) c.bc) Q E:=λs v I r=>by
 exact WS.ki<|Fx ok I a b r λs'=>h
theorem aaD{o:Expr}{u:V}{Q:bw->N->Prop}(k:KF c.g)(d:nm i=name)(h:VE c J Y (eO o c.bc) (λb Y=>BE b i u Y λY=>Q J Y) (λa U Y=>E a J Y)):VG c J Y u (ug (.Attribute o name p) c.bc) Q E:=λs v I r=>by
 subst d;show WS c Y s (do let b<-jL [v] (eO o c.bc);mz p.atName;jL [v,b] (acS b (nm i) v);release [v,b] []) _ _;refine W.toS (J:=J)<|W.bJ (W.fM<|h s I) λb l s₁ st ⟨w,e,q⟩=>W.ki ?_;refine W.bJ (W.fM<|Dx st.cm k q e<|r.cp st.ik) λU f s₂ j q=>?_;exactλΓ p m=>by refine rr (E9 _ _ _ _ _ _ _ _) ?_;exact⟨f,.cL j.cm,q⟩
theorem adX{o i:Expr}{u:V}{Q:bw->N->Prop}(ok:Ok c Γ)(h:VE c J Y (eO o c.bc) (λd Y=>VE c J Y (eO i c.bc) (λk Y=>BF d k u Y λY=>Q J Y) λa U Y=>E a J Y) (λa U Y=>E a J Y)):VG c J Y u (ug (.Subscript o i p) c.bc) Q E:=λs v I r=>by
 refine W.toS (J:=J)<|W.bJ (W.fM<|h s I) λd l s₁ st ⟨w,e,q⟩=>W.bJ (W.fM<|q s₁ st.cm) λm n s₂ b ⟨k,f,q⟩=>W.ki ?_;refine W.bJ (W.fM<|Dy b.cm ok.lD.Fz q (e.cp b.ik) f<|r.cp (st.aU b).ik) λU g t j q=>?_;exactλΓ p x=>by refine rr (E9 _ _ _ _ _ _ _ _) ?_;exact⟨g,.cL j.cm,q⟩
theorem HR{u:V}:∀{is:aq} {L:aw} {J:bw},i∉is->pj is L (J.set i<|O u)=(pj is L J).set i (O u):=by
 intro l;induction l with
 |nil=>
  intro U U U;rfl
 |cons j is a=>
  exact @λ
  |[],_,_=>by rfl
  |v::L,J,h=>by
   show pj is L ((J.set i<|O u).set j<|O v)=_;exact rr (List.set_comm _ _ λe=>h<|List.mem_cons.mpr<|.inl e)<|a λm=>h<|.tail _ m
theorem HS{u:V}:∀{is:aq} {L:aw} {J:bw},is.length=L.length->pj (is++[i]) (L++[u]) J=(pj is L J).set i (O u):=by
 intro l;induction l with
 |nil=>
  exact @λ
  |[],_,_=>rfl
  |_::_,_,h=>by cases h
 |cons j is a=>
  exact @λ
  |v::L,J,h=>by
   exact a<|eQ h
  |[],_,h=>by cases h
theorem KD:∀{is:aq} {L:aw} {J:bw},is.Nodup->is.length=L.length->pj is.reverse L.reverse J=pj is L J:=by
 intro l;induction l with
 |nil=>
  exact @λ
  |[],_,_,_=>rfl
  |_::_,_,_,h=>by cases h
 |cons j is i=>
  exact @λ
  |v::L,J,nd,h=>by
   rw [qb]at nd;refine rr (iH)<|rr (iH)<|rr (HS<|by simpa using((eQ h):is.length=L.length))<|rr (i nd.2 ((eQ h):is.length=L.length)) ?_;exact rr (HR nd.1) Z
  |[],_,_,h=>by cases h
def BO(c:dC)(t:bb->Sem Unit)(i:Nat):Prop:=∀{J:bw} {Y:N} {s:bG} {v:bb} {u:V} {E:oZ},de c J Y s->cY s.heap u v->WS c Y s (t v) (λU eP c8 s'=>eP=J.set i (O u)/\c8=Y) E
inductive ju(c:dC):List (bb->Sem Unit)->aq->Prop where
 |jr:ju c [] []
 |gu {t i ts is}:BO c t i->ju c ts is->ju c (t::ts) (i::is)
theorem ju.oL{ts us:List (bb->Sem Unit)}{is js:aq}(h:ju c ts is)(h':ju c us js):ju c (ts++us) (is++js):=by
 induction h with
 |jr=>exact h'
 |gu a _ i=>exact .gu a i
theorem ju.Og{ts:List (bb->Sem Unit)}{is:aq}(h:ju c ts is):ju c ts.reverse is.reverse:=by
 induction h with
 |jr=>exact .jr
 |gu a _ i=>refine rr (iH)<|rr (iH) ?_;exact i.oL<|.gu a .jr
theorem Er{ts:List (bb->Sem Unit)}{is:aq}(h:ju c ts is):∀{L:List bb} {us:aw} {J:bw} {s:bG},is.length=us.length->de c J Y s->eX s.heap us L->WS c Y s (assignInOrder ts L) (λU eP d U=>eP=pj is us J/\d=Y) E:=by
 induction h with
 |jr=>
  intro L us J s b I r;induction us with
  |nil=>exact WS.j' I ⟨Z,Z⟩
  |cons _ _=>cases b
 |gu a h i=>
  intro L us J s b I r;cases us with
  |nil=>cases b
  |cons u us=>
   refine rlc r λv L e r1 f=>rr e<|WS.bJ (WS.fM<|a I r1) λU k l s₁ st q=>fw q λg j=>?_;subst g j;exact i (eQ b) st.cm<|f.cp st.ik
end
end
set_option backward.match.sparseCases true
section
open SeqAt
structure Sc(c:dC)(sc:Scope):Prop where
 sco:c.bc.scope=sc
 st:∀x∈c.bp,BJ sc x=D->Wu c x
theorem RP{x:Option α}{y:α}(h:asc b x=O y):b=D/\x=O y:=by
 induction b with
 |true=>exact⟨Z,h⟩
 |false=>exact nq aP h ff
theorem FP{ns:List Str}{x:Str}(h:ns.contains x=D):ns[ns.idxOf x]?=O x:=by
 have:x∈ns:=by simpa using h
 refine bL (aV<|List.idxOf_lt_length_iff.mpr this) ?_;simp
variable{sc:Scope}
section
variable{c:dC} {J:bw} {E:oZ}
theorem HT{x:Str}(ok:hW c)(aE:Sc c sc)(h:c.bp.contains x=D)(a:BJ sc x=D):BO c (ug (.Name x p) c.bc) (c.bp.idxOf x):=λ{J Y s v u E} I r=>by
 exact WS.ki<|Fx ok I (FP h) (aE.st x (by simpa using h) a) r λs'=>⟨Z,Z⟩
theorem HU{x:Str}(ok:hW c)(aE:Sc c sc)(h:c.bp.contains x=D)(a:BJ sc x=D):BO c (λv=>yI c.bc x v) (c.bp.idxOf x):=λ{J Y s v u E} I r=>by
 exact Fx ok I (FP h) (aE.st x (by simpa using h) a) r λs'=>⟨Z,Z⟩
inductive Mm(c:dC)(sc:Scope):List Expr->aq->Prop where
 |jr:Mm c sc [] []
 |gu {x:Str} {p:Pos} {r:List Expr} {is:aq} (h1:c.bp.contains x=D) (h2:BJ sc x=D) (t:Mm c sc r is):Mm c sc (.Name x p::r) (c.bp.idxOf x::is)
theorem nms(es:List Expr):∀{is:aq},zM sc c.bp es=O is->Mm c sc es is:=by
 induction es with
 |nil=>intro is h;exact rl (aJ h) .jr
 |cons e r i=>
  intro is h;refine cK (Option.bind_eq_some_iff.mp h) λw d h=>fw (RP h) λa b=>om b λj f g=>?_;clear d h b;subst g;clear h;obtain⟨⟨x,p⟩,rfl⟩:=w;exact .gu (nL a) (nR a)<|i f
variable{is:aq}
theorem Mm.FJ(h:Mm c sc es is):(JW es c.bc).findIdx? (·.1)=X:=by
 induction h with
 |jr=>rfl
 |@gu x p r is h1 h2 t ih=>
  refine rr (List.findIdx?_cons)<|rr ih ?_;rfl
theorem Mm.sto(h:Mm c sc es is)(ok:hW c)(aE:Sc c sc):ju c ((JW es c.bc).map (·.2)) is:=by
 induction h with
 |jr=>exact .jr
 |gu a b t i=>exact .gu (HT ok aE a b) i
theorem Mm.gj(h:Mm c sc es is):es.length=is.length:=by
 induction h with
 |jr=>rfl
 |gu a b t i=>exact aH (·+1) i
theorem Mm.each(h:Mm c sc es is):(JW es c.bc).length=is.length:=by
 induction h with
 |jr=>rfl
 |gu a b t i=>exact aH (·+1) i
noncomputable def xM(env:Env)(line:Nat):Expr->Option Str
 |.Name id pos=>if env.kindOf id==O .local&&pos.line==line then O id else X
 |_=>X
theorem Mm.uq(h:Mm c sc es is)(ok:hW c)(aE:Sc c sc)(l:Nat):(es.filterMap<|xM c.bc l).length=es.length->ju c ((es.filterMap<|xM c.bc l).map λn=>yI c.bc n) is:=by
 induction h with
 |jr=>exactλU=>.jr
 |@gu x p r is h1 h2 t ih=>
  intro z;cases e:xM c.bc l (.Name x p)with
  |none=>
   rw [List.filterMap_cons_none e]at z;exact cM z<|hY<|jx<|km ..
  |some y=>
   rw [List.filterMap_cons_some e]at z⊢;obtain rfl:x=y:=aJ (Option.ite_none_right_eq_some.mp e).2;exact .gu (HU ok aE h1 h2)<|ih<|eQ z
theorem Mn{is:aq}{Q:List bb->bw->N->bG->Prop}(I:de c J Y s)(f:c.A.handled=X)(j:B.length=is.length)(r:cY s.heap (.bD B) v)(h:∀L s',de c J Y s'->eX s'.heap B L->L.length=is.length->Q L J Y s'):WS c Y s (unpackItems v is.length X) Q E:=by
 obtain⟨a,L,rfl,g,r,z⟩:=xB r;have e:is.length=L.toArray.size:=by have:=r.ez;simp;lia
 refine rr e<|unpackItems_tuple f g λh' i=>have q:Qt s {s with heap:=h'}:=⟨λb o d=>i b o (n5 d (d6<|bO _) λh=>nq aP h ff) d,Z,Z⟩;?_;exact⟨J,Y,dh.qt I q,h _ _ (dh.qt I q).cm (r.cp (dh.qt I q).ik) (by have:=r.ez;simp only [g6]at e⊢;exact pP ‹_›)⟩
theorem YU{is:aq}{Q:bw->N->Prop}(ok:Ok c Γ)(aE:Sc c sc)(a:zM sc c.bp es=O is)(g:Γ.hd=X)(f:B.length=is.length)(h:Q (pj is B J) Y):
 VG c J Y (.bD B) (ug (.Tuple es n p) c.bc) Q E:=λs v I r=>by
 refine WS.ki ?_;unfold unpack;refine rr ((nms es a).FJ)<|rr ((nms es a).each) ?_;refine WS.bJ (WS.fM<|Mn (Q:=λL eP i s'=>eP=J/\i=Y/\eX s'.heap B L) I (by refine bL (ok.lD.gp)<|rr g ?_;rfl) f r λL s' j b U=>dW Z Z b) λL k l s₁ st q=>?_;obtain⟨e,d,b⟩:=q;clear I;subst e d;exact WS.cp (Er ((nms es a).sto ok.lJ aE) f.symm st.cm b) (λU U U U U y=>fw y λe d=>by subst e d;exact h) λU U U x=>x
theorem FQ:∀{B:aw} {L:List bb},eX h B L->eX h B.reverse L.reverse:=by
 intro l;induction l with
 |nil=>
  intro L r;obtain rfl:=fP r;exact r
 |cons x B i=>
  intro U r;refine n6 r λv L r1 a=>rr (iH)<|rr (iH) ?_;exact(i a).jO r1
theorem W.Mp{rk:bw}{t:Sem α}{Q:α->N->bG->Prop}(ok:hW c)(st:dh c Y s rk eh s₁)(h:W c rk eh s₁ t Q (λa U Y=>E a rk Y)):
 ee c.M c.A t (λa=>Wq c rk Y s<|Q a) (JI c.M c.A c.bc<|Hp c Y s E) s₁:=
 wpAny_mono h (λU U ⟨b,x,q⟩=>⟨b,st.aU x,q⟩) λe s' ⟨ea,b,z,x,q⟩=>by refine rr z ?_;exact BN ok (st.aU x)<|q.cp (eP:=rk) λU U h=>h
theorem WS.aaE{rk:bw}{t:Sem α}{Q:α->bw->N->bG->Prop}(ok:hW c)(st:dh c Y s rk eh s₁)(h:WS c eh s₁ t Q E):
 ee c.M c.A t (λa=>Sq c Y s<|Q a) (JI c.M c.A c.bc<|Hp c Y s E) s₁:=
 wpAny_mono h (λU U=>.aU st) λe s' ⟨ea,eP,b,z,x,q⟩=>by refine rr z ?_;exact BN ok (st.aU x) q
theorem RQ{t v:Expr}{Q:VF->bw->N->Prop}(b:sZ v (O t) p.line c.bc=jg bk)(d:nK [t] v c.bc=jg X)(f:∀e q,t≠.Starred e q)(h:VE c J Y (eO v c.bc) (λx Y=>VG c J Y x (ug t c.bc) (λJ Y=>Q .eR J Y) E) (λa U Y=>E a J Y)):VS c J Y (xu (.Assign [t] v p) c.bc) Q E:=λs I=>by
 have e:(JW [t] c.bc).map (·.2)=[ug t c.bc]:=by
  clear h b d;revert f;cases t<;>first|exactλU=>rfl|exactλh=>cM Z (h _ _)
 refine wpAny_Assign_stores ?_ b d;exact rr e<|wpAny_mono (h s I) (λv s₁ ⟨l,st,x,r,q⟩=>wpAny_mono (q s₁ v st.cm r) (λU s₂ ⟨g,i,j,k⟩=>⟨g,i,st.aU j,.eR,Z,k⟩) λU U=>.aU st) λU U=>We.toS
def SwP(c:dC)(is:aq)(t:Sem (Option<|List Str)):Prop:=t=jg X\/∃names,t=jg (O names)/\ju c (names.map λn=>yI c.bc n) is/\names.length=is.length
theorem Dz{L:List Expr}{is:aq}{q:Pos}(ok:hW c)(aE:Sc c sc)(h:zM sc c.bp es=O is)(b:(L.all (foldedForSure 8)||!L.all (af0 8))=D):
 nK [.Tuple es n p] (.Tuple L m q) c.bc=jg X\/∃names,nK [.Tuple es n p] (.Tuple L m q) c.bc=jg (O names)/\ju c (names.map λn=>yI c.bc n) is/\names.length=is.length:=by
 have d:=(nms es h).uq ok aE ((es.head?.map (·.pos.line)).getD 0);unfold nK;dsimp only;show SwP c is _;refine iteInduction (motive:=SwP c is) (λU=>.inl Z) λU=>iteInduction (motive:=SwP c is) (λU=>.inl Z) λU=>iteInduction (motive:=SwP c is) (λU=>.inl Z) λf=>iteInduction (motive:=SwP c is) (λU=>.inl Z) λg=>iteInduction (motive:=SwP c is) (λa=>cM b (by rw [Bool.eq_false_iff.mpr g,a];exact dc)) λa=>?_;have e:(YB (xM c.bc ((es.head?.map (·.pos.line)).getD 0)) es).length=es.length:=by
  refine bV (m5 (km (xM c.bc ((es.head?.map (·.pos.line)).getD 0)) es)) (λz=>?_) λz=>?_
  .exact cM (oB<|.inl<|bne_iff_ne.mpr<|hY z) f
  .exact z
 exact .inr<|fW _ Z (d e)<|e.trans (nms es h).gj
theorem zc{v:Expr}{is:aq}{q:Pos}{names:List Str}{Q:VF->bw->N->Prop}(ok:Ok c Γ)(aE:Sc c sc)(j:ju c (names.map λn=>yI c.bc n) is)(k:names.length=is.length)(l:is.Nodup)(m:sZ v (O<|.Tuple es n p) q.line c.bc=jg bk) (o:nK [.Tuple es n p] v c.bc=jg (O names))(h:VE c J Y (eO v c.bc) (λx Y=>match x with|.bD B=>Γ.hd=X/\B.length=is.length/\Q .eR (pj is B J) Y|_=>False) (λa U Y=>E a J Y)):VS c J Y (xu (.Assign [.Tuple es n p] v q) c.bc) Q E:=λs I=>by
 refine Assign_Tuple_swapped ?_ m o;refine wpAny_mono (h s I) (λv s₁ d=>?_) λU U=>We.toS;obtain⟨t,st,x,r,b⟩:=d;clear I h;cases x with
 |bD B=>
  obtain⟨u,b,w⟩:=b;refine rr k<|wpAny_mono (Mn (E:=E) (Q:=λL eP y s'=>eP=J/\y=t/\eX s'.heap B L) st.cm (by refine bL (ok.lD.gp)<|rr u ?_;rfl) b r λL s' xs e U=>dW Z Z e) (λL s₂ d=>?_) λU U=>.aU st;obtain⟨C,aO,f,g,i,e⟩:=d;clear r;subst g i;have z:=j.Og;refine wpAny_mono (Er (E:=E) ((List.map_reverse)▸z) (by simpa using b.symm) f.cm (FQ e:eX s₂.heap B.reverse L.reverse)) (λU F d=>?_) λU U=>.aU<|st.aU f;obtain⟨G,H,A,g,i⟩:=d;subst g i;exact⟨_,_,(st.aU f).aU<|(KD l b.symm)▸A,.eR,Z,w⟩
 |_=>exact b.elim
theorem aaF{v:Expr}{Q:VF->bw->N->Prop}(b:Hj c.bc=bk)(d:sZ v X p.line c.bc=jg bk)(h:VE c J Y (eO v c.bc) (λU Y=>Q .eR J Y) (λa U Y=>E a J Y)):VS c J Y (xu (.Expr v p) c.bc) Q E:=λs I=>by
 refine wpAny_Expr_any ?_ b d;exact wpAny_mono (h s I) (λv s₁ ⟨e,st,x,r,q⟩=>⟨J,e,st,.eR,Z,q⟩) λU U=>We.toS
theorem aaG{Q:VF->bw->N->Prop}(h:Q .eR J Y):VS c J Y (xu (.Pass p) c.bc) Q E:=λs I=>wpAny_Pass ⟨J,Y,.cL I,.eR,Z,h⟩
theorem aaH{Q:VF->bw->N->Prop}(h:Q .mN J Y):VS c J Y (xu (.Continue p) c.bc) Q E:=λs I=>wpAny_Continue ⟨J,Y,.cL I,.mN,Z,h⟩
theorem aaI{Q:VF->bw->N->Prop}(h:Q (.j7 .bR) J Y):VS c J Y (xu (.Return X p) c.bc) Q E:=λs I=>wpAny_Return_none ⟨J,Y,.cL I,.j7 .bR,bX _ Z oD,h⟩
theorem adY{e:Expr}{Q:VF->bw->N->Prop}(h:VE c J Y (eO e c.bc) (λv Y=>Q (.j7 v) J Y) (λa U Y=>E a J Y)):VS c J Y (xu (.Return (O e) p) c.bc) Q E:=λs I=>by
 exact wpAny_Return_some<|wpAny_mono (h s I) (λv s₁ ⟨b,st,x,r,q⟩=>⟨J,b,st,.j7 x,bX _ Z r,q⟩) λU U=>We.toS
theorem VS.go{rk:bw}{t:Sem ZW}{Q:VF->bw->N->Prop}(h:VS c rk eh t Q E)(st:dh c Y s rk eh s₁):ee c.M c.A t (λf=>Sq c Y s<|Fq Q f) (Se c Y s E) s₁:=wpAny_mono (h s₁ st.cm) (λU U=>.aU st) (λU U=>.aU st)
theorem Sq.nx{Q:VF->bw->N->Prop}{eP:bw}(st:dh c Y s eP c8 s')(q:Q .eR eP c8):Sq c Y s (Fq Q .next) s':=⟨eP,c8,st,.eR,Z,q⟩
theorem agr{t:Expr}{a b:List lp}{Q:VF->bw->N->Prop}(h:VT c J Y (isTrue t c.bc<|eO t c.bc) (λq Y=>bif q then VS c J Y (Ay a c.bc) Q E else VS c J Y (Ay b c.bc) Q E) (λa U Y=>E a J Y)):VS c J Y (xu (.If t a b p) c.bc) Q E:=λs I=>by
 refine wpAny_If<|wpAny_mono (h s I) (λq s₁ e=>?_) λU U=>We.toS;obtain⟨d,st,x⟩:=e;induction q with
 |true=>exact VS.go (show VS c J d _ Q E from x) st
 |false=>exact VS.go (show VS c J d _ Q E from x) st
theorem aaJ{Q:VF->bw->N->Prop}(h:Q .eR J Y):VS c J Y (Ay [] c.bc) Q E:=λs I=>rL<|.nx (.cL I) h
theorem W4{st:lp}{rest:List lp}{Q:VF->bw->N->Prop}(h:VS c J Y (xu st c.bc) (λfl J Y=>match fl with|.eR=>VS c J Y (Ay rest c.bc) Q E|fl=>Q fl J Y) E):VS c J Y (Ay (st::rest) c.bc) Q E:=λs I=>by
 refine wpAny_execs_cons<|wpAny_mono (h s I) (λf s₁ q=>?_) λU U x=>x;obtain⟨a,b,st,u,r,x⟩:=q;induction u with
 |eR=>obtain rfl:=r;exact VS.go x st
 |Ea=>obtain rfl:=r;exact⟨a,b,st,.Ea,Z,x⟩
 |mN=>obtain rfl:=r;exact⟨a,b,st,.mN,Z,x⟩
 |j7 v=>obtain⟨u,rfl,r⟩:=r;exact⟨a,b,st,.j7 v,bX u Z r,x⟩
def Rs(c:dC)(Y:N)(s:bG)(Q:VF->bw->N->Prop)(E:oZ):Fb->bG->Prop
 |.ok f,s'=>Sq c Y s (Fq Q f) s'
 |.error e,s'=>Hp c Y s E e s'
def Tq(R:Fb->bG->Prop)(P:Prop)(s:bG)(f:ZW):Prop:=match f with
 |.next|.cont=>P
 |.brk=>R (.ok .next) s
 |.ret v=>R (.ok<|.ret v) s
theorem BP{Q:VF->bw->N->Prop}{ρ:bw->N->Prop}{P:Prop}{f:ZW}{u:VF}{eP:bw}(st:dh c Y s eP c8 s')(r:QZ s'.heap u f)(x:Ks Q ρ u eP c8)(h:ρ eP c8->P):Tq (Rs c Y s Q E) P s' f:=by
 induction u with
 |eR=>obtain rfl:=r;exact h x
 |mN=>obtain rfl:=r;exact h x
 |Ea=>obtain rfl:=r;exact .nx st x
 |j7 v=>obtain⟨u,rfl,r⟩:=r;exact⟨eP,c8,st,.j7 v,bX u Z r,x⟩
theorem W5{t:Expr}{a:List lp}{Q:VF->bw->N->Prop}{T:bw->N->ag->Prop}{xs:bw->N->(VF->bw->N->Prop)->Prop}(ok:hW c)(h:FG T xs Q J Y)(k:∀J Y K,T J Y K->VT c J Y (isTrue t c.bc<|eO t c.bc) K (λa U Y=>E a J Y)) (l:∀J Y K,xs J Y K->VS c J Y (Ay a c.bc) K E):VS c J Y (xu (.While t a [] p) c.bc) Q E:=λs I=>by
 induction h with|mk ρ o v=>
 refine ka o λn j=>wpAny_While<|mZ (R:=Rs c Y s Q E) ?_ λr s' x=>?_
 .refine codeAny_whileLoop (λn=>Sq c Y s λeP d U=>ρ n eP d) (λn s₁ q=>?_) n ⟨J,Y,.cL I,j⟩;obtain⟨w,y,st,j⟩:=q;refine wpAny_mono (W.Mp ok st<|k _ _ _ (v n w y j) s₁ st.cm) (λb s₂ q=>?_) λU U x=>x;obtain⟨G,g,x⟩:=q;induction b with
  |true=>
   refine wpAny_mono (WS.aaE ok g<|l _ _ _ x s₂ g.cm) (λf z q=>?_) λU U x=>x;obtain⟨A,C,i,u,r,x⟩:=q;refine have t:=BP (E:=E) (P:=∃m,m<n/\Sq c Y s (λeP d U=>ρ m eP d) z) i r x λaO=>cK aO λm F j=>bX m F ⟨A,C,i,j⟩;?_;clear r;induction f<;>exact t
  |false=>exact rL<|.nx g x
 .induction r with
  |ok f=>exact x
  |error e=>exact Hp.g8 x
end
end
variable{sc:Scope}
set_option backward.match.sparseCases false
section
open SeqAt
theorem dh.Qm{c:dC}{J RR:bw}(st:dh c uH Ak J Y s)(I:de c RR uH Ak){P:a8->Prop}(d:∀a,P a->Ak.heap.get? a=X)(f:∀a,P a->Y a=X)(g:∀a o,P a->s.heap.get? a=O o->¬Fu o)(same:∀b o,¬P b->s.heap.get? b=O o->s'.heap.get? b=O o) (gens:s'.gens=s.gens) (os:s'.os=s.os):dh c uH Ak J Y s'/\IK s.heap s'.heap:=by
 have no:∀a,P a->¬c.uo Y a:=by
  intro a p;rintro(⟨k,h⟩|h|h)
  .replace h:=(f a p).symm.trans h;exact nq aP h ff
  .exact((λa (p:P a)=>I.iX<|d a p) a p).2.1 h
  .exact((λa (p:P a)=>I.iX<|d a p) a p).2.2.1 (st.cm.yS a h).2
 refine fw (st.cm.Bx (P:=P) (λa p=>rR (no a p) ((λa (p:P a)=>I.iX<|d a p) a p).2.2.1 ((λa (p:P a)=>I.iX<|d a p) a p).2.2.2 (I.toiO.qr<|d a p) λo e=>g a o p e) same gens os) λi ik=>⟨⟨i,dW (λb e=>?_) (st.tR.2.1.aU ik) λb o e no=>?_,λb k h=>st.Fw b k h,os.trans st.os⟩,ik⟩
 .by_cases q:P b
  .exact d b q
  .refine st.tR.1 b ?_;cases z:s.heap.get? b with
   |none=>rfl
   |some o=>replace e:=(same b o q z).symm.trans e;exact nq aP e ff
 .have q:¬P b:=λq=>by replace e:=(d b q).symm.trans e;exact nq aP e ff
  exact xy (st.tR.2.2 b o e no) λx sl j=>rP (λl=>same b o q<|x l) sl<|same b _ q j
section
variable{c:dC} {J:bw} {E:oZ}
theorem rV.gV{it:a8}{a:V}{RR rk sz:bw}{mV:N}{s₂:bG}(x:rV s₁.heap it a k)(I:de c RR uH Ak)(h:Ak.heap.get? it=X)(d:eh it=X)(f:de c rk eh s₁)(st:dh c eh s₁ sz mV s₂):rV s₂.heap it a k/\mV it=X:=cK (x.kZ) λo b j=>fw (st.tw b d (I.iX h).2.1 (I.iX h).2.2.1 (I.iX h).2.2.2 f) λg i=>⟨x.cp st.ik λl e=>by rw [b]at e;refine rl (aJ e) ?_;exact g,i⟩
theorem WS.FR{rk:bw}{t:Sem α}{Q:α->bw->N->bG->Prop}(ok:hW c)(st:dh c Y s rk eh s₁)(h:WS c eh s₁ t Q E):
 ee c.M c.A t (λa=>Sq c eh s₁<|Q a) (JI c.M c.A c.bc<|Hp c Y s E) s₁:=
 wpAny_mono h (λU U x=>x) λe s' ⟨ea,eP,b,z,x,q⟩=>by refine rr z ?_;exact BN ok (st.aU x) q
inductive adZ(c:dC)(eh:N)(s₁:bG)(a:V)(it:a8)(l:Nat)(ρ:Nat->bw->N->Prop)(n:Nat)(s':bG):Prop where
 |mk (k:Nat) (eP:bw) (c8:N) (hk:n=l-k) (hl:k<=l) (st:dh c eh s₁ eP c8 s') (hit:rV s'.heap it a k) (no:c8 it=X) (j:ρ k eP c8)
theorem KG{l:Nat}(h:n=l-k)(a:k<l):l-(k+1)<n:=by refine rr h ?_;exact Nat.sub_succ_lt_self _ _ a
theorem FT{it:a8}{a:V}(x:rV h it a k):∀b o,b=it->h.get? b=O o->¬Fu o:=λb o c e=>by
 subst c;refine cK (x.kZ) λg d f=>?_;rw [d]at e;exact rl (aJ e) f
set_option tactic.hygienic true in
theorem ad0{t it:Expr}{Q:VF->bw->N->Prop}{xs:V->bw->N->(VF->bw->N->Prop)->Prop}(ok:Ok c Γ)(hs:∀x,pf it c.bc x=jg x)(hl:∀x v,afR t x v=jg ())(h:VE c J Y (eO it c.bc) (λa Y=>t4 Γ.hd xs Q J a Y) (λa U Y=>E a J Y)) (hB:∀x J Y K,xs x J Y K->VG c J Y x (ug t c.bc) (λJ Y=>VS c J Y (Ay body c.bc) K E) E):VS c J Y (xu (.For t it body [] p) c.bc) Q E:=λs I=>by
 refine wpAny_For ?_ hs;refine wpAny_mono (h s I) (λx s₁ d=>?_) λU U=>We.toS;refine iz λG k0=>?_;obtain⟨H,st,a,r,h⟩:=d;refine k0 ?_;delta t4 at h;clear k0;induction h with|@mk B hi ρ j0 jt je=>
 have i:=st.cm;refine HO i hi r λA s₂ q2 z hit hz=>mZ (R:=Rs c Y s Q E) ?_ λr s' x=>?_
 .refine codeAny_forLoop (prog:=PR) (w:=c.g.w) (adZ c H s₁ a A B.length ρ) (λn vs d=>?_) B.length ⟨0,J,H,Z,dA _,.qt i q2,hit,i.gx z,j0⟩ λv=>hl _ v;refine iz λG k0=>?_;obtain⟨k,T,W,M,aZ,C,aO,aB,j⟩:=d;refine k0 ?_;clear k0;refine bV (m5 aZ) (λF=>?_) λheq=>?_
  .obtain⟨aE,vg⟩:=jt k _ T W (aV F:B[k]?=O B[k]) j;refine Mh C.cm hi aE aO (aV F:B[k]?=O B[k]) λu h' tk nx=>?_;clear aZ;refine fw (C.Qm (s':={vs with heap:=h',toks:=tk}) i (P:=(·=A)) (λa e=>e▸z) (λa e=>e▸aB) (FT aO) (λb o nb e=>(nx.wQ.2 b nb).trans e) Z Z) λy ik=>wpAny_mono (WS.FR ok.lJ (st.aU y)<|hB _ _ _ _ vg _ u y.cm<|nx.rep ik) (λU aaK d=>?_) λU U x=>x;refine iz λG k0=>?_;induction d;rename_i ad1 Es l L
   refine k0 ?_;obtain⟨KH,aaL⟩:=(nx.nx ik).gV (s₁:={vs with heap:=h',toks:=tk}) i z aB y.cm l;have l:=y.aU l;refine wpAny_mono (WS.FR ok.lJ (st.aU l)<|L aaK l.cm) (λf Oh d=>?_) λU U x=>x;refine iz λG k0=>?_;obtain⟨RS,Mr,aG,u,r,x⟩:=d;refine k0<|fw (KH.gV i z aaL l.cm aG) λKJ aaM=>have σ:=l.aU aG;have t:=BP (E:=E) (P:=∃m,m<n/\adZ c H s₁ a A B.length ρ m Oh) (st.aU σ) r x λj=>bX _ (KG M F) ⟨k+1,RS,Mr,Z,F,σ,KJ,aaM,j⟩;?_;clear M k0;clear r;induction f<;>exact t
  .clear M aZ;clear r;subst heq;exact fw (je T W j) λaE q=>RN C.cm ok.lD hi aE aO λh' RT=>fw (C.Qm (s':={vs with heap:=h'}) i (P:=(·=A)) (λa e=>e▸z) (λa e=>e▸aB) (FT aO) (λb o nb e=>RT b o nb e) Z Z) λy ik=>rL<|.nx (st.aU y) q
 .induction r with
  |ok f=>exact x
  |error e=>exact Hp.g8 x
end
end
section
open SeqAt
theorem vJ{l:List (Str×α)}{x:Str}{a:α}(n:(l.map (·.1)).Nodup)(h:(x,a)∈l):l.lookup x=O a:=by
 induction l with
 |nil=>cases h
 |cons p l i=>
  replace n:=List.nodup_cons.mp n;exact bL eS<|bV (mc h) (λe=>rl e<|rr (beq_self_eq_true x) Z) λh=>rr (beq_false_of_ne (λe:x=p.1=>n.1<|List.mem_map.mpr ⟨(x,a),h,e⟩):(x==p.1)=bk)<|i n.2 h
variable{names:List (Str×gn)}
theorem HV{c:gn}{x:Str}:x∈((names.filter (·.2==c)).map (·.1)).reverse++[]↔(x,c)∈names:=by refine rr (dS _)<|ri VH ⟨λh=>vB h λq a=>?_,λh=>List.mem_map.mpr ⟨(x,c),List.mem_filter.mpr ⟨h,aN Z⟩,Z⟩⟩;exact(show q=(q.1,c)from aH (acT q.1) (aI (List.mem_filter.mp a).2))▸(List.mem_filter.mp a).1
theorem Ms{c:gn}(n:(names.map (·.1)).Nodup):List.Nodup (((names.filter λq:Str×gn=>q.2==c).map q6).reverse++[]):=rr (dS _) (List.pairwise_reverse.mpr<|(n.sublist<|(NQ (p:=λq:Str×gn=>q.2==c) (l:=names)).map q6).imp lF)
theorem ze(b:List (Str×gn)):∀(n:Nat) (a:List (Str×a8)),fy n b a=fy n b []++a:=by
 induction b with
 |nil=>exactλU U=>rfl
 |cons p r i=>
  intro n a;obtain⟨x,k⟩:=p;by_cases h:(k==nW)=D
  .exact(bI h).trans ((i _<|(x,n)::a).trans ((bF _ [(x,n)] a).symm.trans (aH (·++a)<|(i _ [(x,n)]).symm.trans (bI h).symm)))
  .exact(bu h).trans ((i n a).trans (aH (·++a) (bu h).symm))
theorem FU(b:List (Str×gn)):∀(n:Nat) (a:List (Str×a8)),(fy n b a).map (·.1)=((b.filter (·.2==.cell)).map (·.1)).reverse++a.map (·.1):=by
 induction b with
 |nil=>exactλU U=>rfl
 |cons p r i=>
  intro n a;obtain⟨x,k⟩:=p;by_cases h:(k==nW)=D
  .exact(aH (lG q6)<|bI h).trans ((i (n+1)<|(x,n)::a).trans (rr (Hw (p:=λq:Str×gn=>q.2==.cell) h) (rr eL (rr iH (bF _ [x] (a.map (·.1))).symm))))
  .exact(aH (lG q6)<|bu h).trans<|(i n a).trans<|rr (Hx (p:=λq:Str×gn=>q.2==.cell) h) Z
theorem rW{x:Str}:(∃a,(x,a)∈fy n names [])↔(x,nW)∈names:=⟨λh=>h.elim λa h=>HV.mp<|FU names n []▸dm (f:=q6) h,λh=>mm ((FU names n []).symm▸HV.mpr h) λp b e=>⟨p.2,e▸b⟩⟩
theorem FV(a:(names.map (·.1)).Nodup):((fy n names []).map (·.1)).Nodup:=rr (FU names n [])<|Ms a
noncomputable def sA(cells:List (Str×a8)):List (Str×gn)->List (Str×a8)->List (Str×a8)
 |[],acc=>acc
 |(x,k)::r,acc=>if k==.free then sA cells r ((x,(cells.lookup x).getD 0)::acc)else sA cells r acc
theorem aaN(cells:List (Str×a8))(x:Str)(k:gn)(r:List (Str×gn))(a:List (Str×a8)):sA cells ((x,k)::r) a=if k==.free then sA cells r ((x,(cells.lookup x).getD 0)::a)else sA cells r a:=rfl
theorem Mt(cells:List (Str×a8))(n:List (Str×gn)):∀a,sA cells n a=((n.filter (·.2==.free)).map λp=>(p.1,(cells.lookup p.1).getD 0)).reverse++a:=by
 induction n with
 |nil=>exactλU=>rfl
 |cons p r i=>
  intro a;obtain⟨x,k⟩:=p;by_cases h:(k==nX)=D
  .exact(bI h).trans<|(i _).trans<|rr (Hw (p:=λq:Str×gn=>q.2==.free) h)<|rr eL<|rr iH (bF _ [(x,(cells.lookup x).getD 0)] a).symm
  .exact(bu h).trans<|(i a).trans<|rr (Hx (p:=λq:Str×gn=>q.2==.free) h) Z
theorem uJ{cells:List (Str×a8)}{x:Str}:(x,a)∈sA cells names []↔(x,nX)∈names/\a=(cells.lookup x).getD 0:=by refine rr (Mt cells names [])<|rr (dS _)<|ri VH ⟨λh=>mm h λq b e=>?_,λh=>List.mem_map.mpr ⟨(x,.free),List.mem_filter.mpr ⟨h.1,Z⟩,aH (acT x) h.2.symm⟩⟩;obtain rfl:=(qZ e).1;exact⟨(show q=(q.1,.free)from aH (acT q.1) (aI (List.mem_filter.mp b).2))▸(List.mem_filter.mp b).1,(qZ e).2.symm⟩
theorem Mu{cells:List (Str×a8)}(n:(names.map (·.1)).Nodup):((sA cells names []).map (·.1)).Nodup:=rr ((aH (lG q6)<|Mt cells names []).trans (List.map_append.trans (aH (·++[])<|List.map_reverse.trans<|aH List.reverse eE))) (Ms n)
theorem DA(h:∀p∈scope.names,p.2=.free->∃a,env.cells.lookup p.1=O a):closureFor scope env=jg (sA env.cells scope.names []):=by
 have:∀(names:List (Str×gn)) (b:List (Str×a8)),(∀p∈names,p.2=.free->∃a,env.cells.lookup p.1=O a)->
  (show Sem (List<|Str×a8)from Qb names b (λ(p:Str×gn) (cs:List (Str×a8))=>(match p with|(name,kind)=>if kind==.free then(do let a<-cellOf env name;jg (oJ<|(name,a)::cs))else jg (oJ cs):Sem (ForInStep<|List<|Str×a8))))=jg (sA env.cells names b):=by
  intro names;induction names with
  |nil=>intro b _;rfl
  |cons p r i=>
   intro b c;obtain⟨x,k⟩:=p;show(Qb (m:=Sem) ((x,k)::r) b _)=_;refine bL (qe _ _ _ _)<|rr (aaN ..) ?_;by_cases d:k=nX
   .subst d;refine ka (c (x,.free) (.head _) Z) λa e=>?_;simp only [beq_self_eq_true,if_true,(by unfold cellOf;exact rr (show env.cells.lookup x=O a from e) Z:cellOf env x=jg a)];exact rr (show env.cells.lookup x=O a from e)<|i ((x,a)::b) λp h=>c p<|.tail _ h
   .have f:(k==nX)=bk:=by simpa using d
    simp only [f,q7,if_false];exact i b λp h=>c p<|.tail _ h
 show((show Sem (List<|Str×a8)from Qb scope.names [] _)>>=λcs=>jg cs)=_;exact rr (this scope.names [] h) Z
end
variable{names:List (Str×gn)}
section
open SeqAt
noncomputable def Am(scope:Scope)(C:a8):List (Str×a8):=fy (C+1) scope.names []
def i7(c:dC)(scope:Scope)(C:a8):dC:=⟨c.g,c.A,compEnvC scope (Am scope C++sA c.bc.cells scope.names []) C c.bc,jB scope,(Am scope C).map (·.2)⟩
def wV(scope:Scope)(ns:List Str)(J:bw):bw:=(xH scope ns).map λo=>o.bind<|nk J
structure tT(c:dC)(scope:Scope)(x:Str):Prop where
 fn:scope.kind=.function
 nd:(scope.names.map (·.1)).Nodup
 x:(x,NameKind.local)∈scope.names\/(x,nW)∈scope.names
 uw:∀p∈scope.names,(p.1==("__debug__":Str))=bk/\(p.1==("__classdict__":Str))=bk
 RU:∀p∈scope.names,p.2=.free->p.1∈c.bp/\∃a,c.bc.cells.lookup p.1=O a
theorem xN{l:List (Str×gn)}{x:Str}{k:gn}(h:l.lookup x=O k):(x,k)∈l:=eI h
theorem Et{c:dC}{x:Str}(ok:hW c)(e:c.bc.scope=sc)(h:FI scope sc c.bp x=D):tT c scope x:=by
 subst e;unfold FI at h;simp only [eT,hX,beq_iff_eq,decide_eq_true_eq,mB,sf,bne_iff_ne,ne_eq]at h;obtain⟨⟨⟨f,g⟩,i⟩,d⟩:=h;refine⟨f,g,i.imp xN xN,λp b=>(d p b).1,λp b j=>?_⟩;refine bV (d p b).2 (λq=>?_) λz=>fw z λq a=>?_
 .exact cM j q
 .refine⟨(by simpa using q:p.1∈c.bp),?_⟩;refine bV (ok.rj p.1 (by simpa using q:p.1∈c.bp)) (λz=>fw z λk U=>?_) λl=>fw l λU r=>?_
  .have k':c.bc.scope.names.lookup p.1=O .local:=k;rw [k']at a;refine bV a (λa=>?_) λa=>?_<;>exact nq gA (aJ a) ff
  .exact r
section
variable{c:dC} {J:bw}
theorem BQ{y:Str}(h:(y,a)∈Am scope C):(y,nW)∈scope.names:=rW.mp ⟨a,h⟩
theorem HW{x:Str}(K:tT c scope x):((Am scope C++sA c.bc.cells scope.names []).map (·.1)).Nodup:=by refine rr (bN)<|ri (jq) ?_;refine dW (FV K.nd) (Mu K.nd) λy h z e=>?_;refine vB h λd f=>?_;obtain⟨y,a⟩:=d;refine vB e λd g=>?_;obtain⟨z,b⟩:=d;rintro(rfl:y=z);have:=qg K.nd (BQ f) ((uJ.mp g).1) Z;exact nq gA (qZ this).2 ff
theorem tA{x:Str}{y:Str}(K:tT c scope x)(h:(y,a)∈Am scope C++sA c.bc.cells scope.names []):(Am scope C++sA c.bc.cells scope.names []).lookup y=O a:=vJ (HW K) h
theorem wW{x:Str}{y:Str}(K:tT c scope x)(h:(y,a)∈sA c.bc.cells scope.names []):y∈c.bp/\c.bc.cells.lookup y=O a/\(y,nX)∈scope.names:=by refine fw (uJ.mp h) λe d=>xy (K.RU _ e Z) λa1 b f=>have d:=f▸d;?_;exact dW a1 (by refine bL f<|rr d ?_;rfl) e
theorem uK{y:Str}(c:(scope.names.map (·.1)).Nodup){k:gn}(h:(y,k)∈scope.names):(acU scope env).names.lookup y=O k\/(k=.free/\(acU scope env).names.lookup y=O .cell):=by
 let f:Str×gn->Str×gn:=λ(n,k)=>if(k==.free&&env.scope.kind==.function&&env.kindOf n==O .cell)then(n,.cell)else(n,k)
 have a:((acU scope env).names.map (·.1)).Nodup:=by
  show((scope.names.map f).map (·.1)).Nodup;exact rr (eE)<|(jH (g:=λp:Str×gn=>p.1) λp U=>(λ⟨n,k⟩=>by show(if _ then _ else _:Str×gn).1=n;split<;>rfl:∀p,(f p).1=p.1) p)▸c
 have b:f (y,k)∈(acU scope env).names:=dm (f:=f) h;by_cases q:(k==.free&&env.scope.kind==.function&&env.kindOf y==O .cell)=D
 .have e:f (y,k)=(y,.cell):=bI q;exact .inr ⟨(by simp only [eT,beq_iff_eq]at q;exact q.1.1:k=.free),vJ a<|e▸b⟩
 .have e:f (y,k)=(y,k):=bu q;exact .inl<|vJ a<|e▸b
theorem tB{y:Str}:y∈jB scope↔∃k,(y,k)∈scope.names/\(k=.local\/k=.free\/k=.cell):=by
 refine ri (List.mem_map) ?_;constructor
 .intro a;(refine cK a λb h c=>?_;obtain⟨z,k⟩:=b;refine rl c ?_);rw [List.mem_filter]at h;refine bX k h.1 ?_;have:=h.2;simp only [uC,hX,beq_iff_eq]at this;exact or_assoc.mp this
 .intro a;refine cK a λk h q=>bX (y,k) (List.mem_filter.mpr ⟨h,?_⟩) Z;simp only [uC,hX,beq_iff_eq];exact or_assoc.mpr q
theorem W6{x:Str}(ok:hW c)(K:tT c scope x)(n:(Am scope C).Pairwise λx y=>x.2≠y.2)(r:∀y a,(y,a)∈Am scope C->C<a)(I:de c J Y s)(t:C=s.heap.objs.size):hW (i7 c scope C):=by
 have u:∀y a,(y,a)∈sA c.bc.cells scope.names []->a<C:=λy a h=>by
  exact j6 (I.N2 y a<|eI (wW K h).2.1) λo xs v U=>rr t<|fN v
 refine⟨K.fn,ok.Du,ok.eH,?_,HW K,?_,λy f=>?_,λy f=>?_,ok.AH⟩
 .show(jB scope).Nodup;exact List.Sublist.nodup (List.Sublist.map _ NQ) K.nd
 .refine rr (bN)<|ri (jq) ?_;refine dW (by refine ri (q5)<|ri (zF) ?_;exact n) ?_ λa g b w=>?_
  .have m:=Mu (cells:=c.bc.cells) K.nd;rw [q5,zF]at m⊢;refine List.Pairwise.imp_of_mem (λ{p q} i j ne e=>ne ?_) m;obtain⟨y,a⟩:=p;obtain⟨z,b⟩:=q;exact aH (·.1)<|qg ok.aad (eI (wW K i).2.1) (eI (wW K j).2.1) e
  .refine vB g λl i=>?_;obtain⟨y,a⟩:=l;refine vB w λl j=>?_;obtain⟨z,b⟩:=l;exact(hY<|mD (u z b j)<|r y a i).symm
 .refine cK (tB.mp f) λk d A=>have rl:=uK (env:=c.bc) K.nd d;?_
  rcases A with rfl|rfl|rfl
  .rcases rl with rl|⟨e,_⟩
   .refine .inl ⟨rl,?_⟩;show(Am scope C++sA c.bc.cells scope.names []).lookup y=X;cases q:(Am scope C++sA c.bc.cells scope.names []).lookup y with
    |none=>rfl
    |some a=>
     rcases ma (eI q)with q|q
     .exact nq gA (qZ<|qg K.nd d (BQ q) Z).2 ff
     .cases qg K.nd d (uJ.mp q).1 rfl
   .exact nq gA e ff
  .refine .inr<|rP ?_ _<|tA K<|am<|.inr<|uJ.mpr ⟨d,Z⟩
   rcases rl with rl|⟨_,rl⟩
   .exact .inr rl
   .exact .inl rl
  .obtain⟨a,g⟩:=rW.mpr d;refine .inr<|rP ?_ a<|tA K<|am<|.inl g
   rcases rl with rl|⟨_,rl⟩
   .exact .inl rl
   .exact .inl rl
 .exact cK (tB.mp f) λk d U=>K.uw _ d
theorem FW{y:Str}{v:V}(h:(jB scope)[i]?=O y)(a:(wV scope c.bp J)[i]?=O (O v)):(y,nX)∈scope.names/\nk J (c.bp.idxOf y)=O v:=by
 unfold jB at h;unfold wV xH at a;replace h:=(bz).symm.trans h;replace a:=(bz)▸(eE)▸a;cases e:(scope.names.filter uC)[i]? with
 |none=>replace h:=e▸h;exact nq aP h ff
 |some p=>
  rw [e]at h a;refine rl (aJ h) ?_;simp only [pH,Function.comp,Option.some.injEq]at a;split at a
  .rename_i b;refine⟨?_,a⟩;have:p.2=.free:=aI b;exact rl this<|(List.mem_filter.mp<|aW e).1
  .cases a
theorem RV{x:Str}{Q:Env->bG->Prop}(ok:hW c)(K:tT c scope x)(I:de c J Y s)(h:∀s',Qt s s'->de (i7 c scope s.heap.objs.size) (wV scope c.bp J) Y s'->hW (i7 c scope s.heap.objs.size)->Q (newEnv scope s.heap.objs.size c.bc.globals (Am scope s.heap.objs.size++sA c.bc.cells scope.names []) c.bc.qual X .none (O c.bc) nV) s'):
 ee c.M c.A (newFunctionEnv scope c.bc.globals (sA c.bc.cells scope.names []) [] c.bc.qual X .none<|O c.bc) Q E s:=by
 refine db (λU U k=>V8 k)<|wpAny_bind<|wpAny_layCells _ (λname kind cells=>by cases hkc:kind==nW<;>simp [hkc]) _ _ _ _ ?_;have l:=cellsFrom_ok scope.names (s.heap.push {cls:=.type "dict",data:=.dict #[]}) (s.heap.objs.size+1) [] ⟨λU U d=>(nomatch d),uh⟩<|rr (fj _ _)<|bO _;replace l:=(fj _ _)▸l;refine rr (show({s with heap:=s.heap.push {cls:=.type "dict",data:=.dict #[]}}:bG).heap.objs.size=s.heap.objs.size+1 from fj ..)<|rr (ze _ _ _) ?_;have keep:∀b o,s.heap.get? b=O o->(pushCells (s.heap.push {cls:=.type "dict",data:=.dict #[]}) scope.names).get? b=O o:=λb o e=>afS _ _ b o<|bM _ e;have q:Qt s {s with heap:=pushCells (s.heap.push {cls:=.type "dict",data:=.dict #[]}) scope.names}:=⟨keep,Z,Z⟩;have w:∀y a,(y,a)∈Am scope s.heap.objs.size->s.heap.objs.size<a:=λy a h=>(l.empty y a h).2;refine pb<|bZ<|h _ q ⟨(I.qt q).toiO,?_,?_,⟨I.gx (dZ _:s.heap.get? s.heap.objs.size=X),?_⟩,I.toiO.qr (dZ _:s.heap.get? s.heap.objs.size=X),?_⟩<|W6 ok K l.apart w I Z
 .refine bX _ ((Heap.Ns.new s.heap<|.type "dict").keeps<|afS _ _) λi y v m n xs=>?_;exact fw (FW m n) λaO g=>have xs:=(show(i7 c scope s.heap.objs.size).bc.cells.lookup y=O _ from tA K (am<|.inr<|uJ.mpr ⟨aO,Z⟩)).symm.trans xs;nq aP xs ff
 .intro y a d
  rcases ma d with d|d
  .refine fw (l.empty y a d) λp U=>cK p λo t hd=>fe o X t hd λi v m n=>?_;cases qg K.nd (BQ d) (FW m n).1 rfl
  .refine m7 (wW K d) λa1 F ρ=>fE ((I.qt q).N2 y a<|eI F) λo C t hd r=>fe o C t hd λi v m n=>?_;refine fw (FW m n) λU g=>?_;unfold nk at g;have G:J[c.bp.idxOf y]?=O (O v):=by
    cases z:J[c.bp.idxOf y]? with
    |none=>replace g:=z▸g;exact nq aP g ff
    |some o=>replace g:=z▸g;exact aH O g
   exact r _ v (FP<|by simpa using a1) G
 .intro a u;refine vB u λp j=>?_;obtain⟨y,a⟩:=p
  rcases ma j with j|j
  .have:=w y a j;exact⟨I.gx<|d6<|dH this,mC this⟩
  .refine⟨(I.iM.2 a (dm (f:=(·.2))<|eI (wW K j).2.1)).1,?_⟩;exact j6 (I.N2 y a<|eI (wW K j).2.1) λo C t U=>hY<|fN t
 .intro a u;refine mm u λp j H=>?_;obtain⟨y,a⟩:=p;obtain rfl:=H;refine⟨I.toiO.qr<|d6<|dH<|w y a j,?_⟩;exact rr (bN)<|am<|.inl u
end
end
section
open SeqAt
noncomputable def fT(env:Env):Expr->Bool->Sem (ForInStep Bool):=λc r=>if r=D then do let ok<-isTrue c env (eO c env);jg (oJ ok)else jg (oJ r)
theorem HX:∀(ifs:List Expr),(Qb ifs bk (fT env):Sem Bool)=jg bk:=by
 intro l;induction l with
 |nil=>
  exact Z
 |cons e es i=>
  exact bL (qe _ _ _ _) i
def VI(c:dC)(J:bw)(Y:N)(ifs:List Expr)(Q:ag)(E:Ex):Prop:=VT c J Y (Qb ifs D<|fT c.bc) Q E
section
variable{c:dC} {J:bw} {E:Ex}
theorem ad2{Q:ag}(h:Q D Y):VI c J Y [] Q E:=λs I=>W.j' I h
theorem aaO{e:Expr}{Q:ag}(h:VT c J Y (isTrue e c.bc<|eO e c.bc) (λb Y=>bif b then VI c J Y es Q E else Q bk Y) E):VI c J Y (e::es) Q E:=λs I=>by
 refine rr (qe _ _ _ _)<|W.bJ (m:=fT c.bc e D) (R:=λr a s₁=>∃b,r=.yield b/\(bif b then VI c J a es Q E else Q bk a)) ?_ λr a s₁ st y=>cK y λb d x=>?_
 .exact W.bJ (h s I) λb a s₁ st x=>W.j' st.cm<|bX b Z x
 .refine rr d ?_;show W c J a s₁ (Qb es b (fT c.bc):Sem Bool) _ _;induction b with
  |true=>exact(show VI c J a es Q E from x) s₁ st.cm
  |false=>refine rr (HX _) ?_;exact W.j' st.cm x
end
structure RW(c:dC)(scope:Scope)(C:a8)(eh:N)(s₁:bG)(eP:bw)(c8:N)(s':bG):Prop where
 ss:eM c.g c.A eh s₁ c8 s'
 cm:de (i7 c scope C) eP c8 s'
structure BR(c:dC)(scope:Scope)(C:a8)(s₁:bG)(a:a8):Prop where
 cu:s₁.heap.get? a=X
 ne:a≠C
 FX:a∉(i7 c scope C).bc.cells.map (·.2)
variable{elt:Expr} {iter:Expr} {px:Pos} {ifs:List Expr} {xs:V->N->aj->(N->Prop)->Prop}
section
variable{c:dC} {J eP sz:bw} {mV:N} {s₂:bG} {E:Ex}
theorem RW.gV(x:RW c scope C eh s₁ eP c8 s')(d:s₁.heap.get? C=X)(e:∀a∈(i7 c scope C).Ki,s₁.heap.get? a=X)(st:dh (i7 c scope C) c8 s' sz mV s₂):RW c scope C eh s₁ sz mV s₂:=⟨⟨st.cm.toiO,x.ss.tR.aU st.tR λb h=>bV h (λz=>ka z λk h=>x.ss.Fw b k h) λf=>bV f (λh=>.inr<|h▸d) λh=>.inr<|e b h,λb k g=>bV (st.Fw b k g) (λz=>ka z λk' q=>x.ss.Fw b k' q) λq=>.inr<|x.ss.tR.1 b q,st.os.trans x.ss.os⟩,st.cm⟩
theorem RW.Qm(x:RW c scope C eh s₁ eP c8 s')(I:de c J eh s₁){P:a8->Prop}(d:∀a,P a->BR c scope C s₁ a)(g:∀a,P a->c8 a=X)(i:∀a o,P a->s'.heap.get? a=O o->¬Fu o)(same:∀b o,¬P b->s'.heap.get? b=O o->s₂.heap.get? b=O o) (gens:s₂.gens=s'.gens) (os:s₂.os=s'.os):RW c scope C eh s₁ eP c8 s₂/\IK s'.heap s₂.heap:=by
 have no:∀a,P a->¬(i7 c scope C).uo c8 a:=by
  intro a p;rintro(⟨k,h⟩|h|h)
  .replace h:=(g a p).symm.trans h;exact nq aP h ff
  .exact(d a p).ne h
  .exact(d a p).FX (x.cm.yS a h).2
 refine fw (x.cm.Bx (P:=P) (λa p=>rR (no a p) (d a p).FX (I.iX (d a p).cu).2.2.2 (I.toiO.qr (d a p).cu) λo e=>i a o p e) same gens os) λf ik=>⟨⟨⟨f.toiO,dW (λb e=>?_) (x.ss.tR.2.1.aU ik) λb o e no=>?_,λb k h=>x.ss.Fw b k h,os.trans x.ss.os⟩,f⟩,ik⟩
 .by_cases q:P b
  .exact(d b q).cu
  .refine x.ss.tR.1 b ?_;cases z:s'.heap.get? b with
   |none=>rfl
   |some o=>replace e:=(same b o q z).symm.trans e;exact nq aP e ff
 .have q:¬P b:=λq=>by replace e:=((d b q).cu).symm.trans e;exact nq aP e ff
  exact xy (x.ss.tR.2.2 b o e no) λj sl l=>rP (λm=>same b o q<|j m) sl<|same b _ q l
theorem BR.tw{o:Obj}(h:BR c scope C s₁ a)(I:de c J eh s₁)(b:de (i7 c scope C) eP c8 s')(e:s'.heap.get? a=O o)(d:c8 a=X)(st:dh (i7 c scope C) c8 s' sz mV s₂):s₂.heap.get? a=O o/\mV a=X:=st.tw e d h.ne h.FX (I.iX h.cu).2.2.2 b
inductive EbC(c:dC)(scope:Scope)(C:a8)(eh:N)(s₁:bG)(E:Ex)(e:bb)(s':bG):Prop where
 |mk (ea:a8) (eP:bw) (c8:N) (z:e=.ref ea) (x:RW c scope C eh s₁ eP c8 s') (q:Cl E ea () c8) (t:Tbd ea c8)
structure AM(aO:a8)(acc:aw)(c8:N)(s':bG):Prop where
 at_:∃L n,s'.heap.get? aO=O {cls:=.type "list",data:=.seq L.toArray n}/\eX s'.heap acc L
 no:c8 aO=X
structure Cfx(c:dC)(scope:Scope)(C:a8)(J:bw)(eh:N)(s₁:bG)(xO aO:a8):Prop where
 I:de c J eh s₁
 hC:s₁.heap.get? C=X
 hm:∀a∈(i7 c scope C).Ki,s₁.heap.get? a=X
 hI:BR c scope C s₁ xO
 hD:BR c scope C s₁ aO
 ne:xO≠aO
 ok:hW (i7 c scope C)
structure Mv(c:dC)(scope:Scope)(C:a8)(eh:N)(s₁:bG)(xO aO:a8)(a:V)(k:Nat)(acc:aw)(eP:bw)(c8:N)(s':bG):Prop where
 lu:RW c scope C eh s₁ eP c8 s'
 BS:rV s'.heap xO a k
 W7:c8 xO=X
 ac:AM aO acc c8 s'
inductive Cn(c:dC)(scope:Scope)(C:a8)(eh:N)(s₁:bG)(xO aO:a8)(a:V)(k:Nat)(acc:aw)(Q:bw->N->bG->Prop)(s':bG):Prop where
 |mk (eP:bw) (c8:N) (x:Mv c scope C eh s₁ xO aO a k acc eP c8 s') (q:Q eP c8 s')
variable{xO:a8} {a:V} {acc:aw}
theorem Mv.gV(x:Mv c scope C eh s₁ xO aO a k acc eP c8 s')(F:Cfx c scope C J eh s₁ xO aO)(st:dh (i7 c scope C) c8 s' sz mV s₂):Mv c scope C eh s₁ xO aO a k acc sz mV s₂:=by refine cK (x.BS.kZ) λo b U=>fw (F.hI.tw F.I x.lu.cm b x.W7 st) λi W7=>?_;obtain⟨⟨L,n,h,r⟩,hD⟩:=x.ac;exact fw (F.hD.tw F.I x.lu.cm h hD st) λe hD=>⟨x.lu.gV F.hC F.hm st,x.BS.cp st.ik λd e=>by rw [b]at e;refine rl (aJ e) ?_;exact i,W7,lq L n e<|r.cp st.ik,hD⟩
theorem Mv.Mp{t:Sem α}{Q:α->bw->N->bG->Prop}(x:Mv c scope C eh s₁ xO aO a k acc eP c8 s')(F:Cfx c scope C J eh s₁ xO aO)(h:WS (i7 c scope C) c8 s' t Q (λea U Y=>E ea () Y)):
 ee (gy PR c.g.w) c.A t (λv=>Cn c scope C eh s₁ xO aO a k acc<|Q v) (JI (gy PR c.g.w) c.A (i7 c scope C).bc<|EbC c scope C eh s₁ E) s':=
 wpAny_mono h (λU U ⟨b,d,st,q⟩=>⟨b,d,x.gV F st,q⟩) λe s₂ ⟨ea,b,d,z,st,q⟩=>by
  exact rr z<|have k:∀e s,Hp (i7 c scope C) c8 s' (λea U Y=>E ea () Y) e s->EbC c scope C eh s₁ E e s:=λU U ⟨ea,f,i,z,j,q,t⟩=>⟨ea,f,i,z,x.lu.gV F.hC F.hm j,q.cp λU U h=>h,t⟩;wpAny_mono (BN (c:=i7 c scope C) F.ok st q) (λU=>k _) k
theorem Mv.RX{t:Sem α}{Q:α->N->bG->Prop}(x:Mv c scope C eh s₁ xO aO a k acc eP c8 s')(F:Cfx c scope C J eh s₁ xO aO)(h:W (i7 c scope C) eP c8 s' t Q E):
 ee (gy PR c.g.w) c.A t (λv=>Cn c scope C eh s₁ xO aO a k acc λb d s₂=>b=eP/\Q v d s₂) (JI (gy PR c.g.w) c.A (i7 c scope C).bc<|EbC c scope C eh s₁ E) s':=
 x.Mp F (Q:=λv b d s₂=>b=eP/\Q v d s₂) (W.toS<|h.cp (λU U U U q=>⟨Z,q⟩) λU U h=>h)
theorem Mv.Qm(x:Mv c scope C eh s₁ xO aO a k acc eP c8 s')(F:Cfx c scope C J eh s₁ xO aO)(d:∀b o,b≠xO->s'.heap.get? b=O o->h'.get? b=O o):RW c scope C eh s₁ eP c8 {s' with heap:=h',toks:=n}/\IK s'.heap h'/\AM aO acc c8 {s' with heap:=h',toks:=n}:=by refine fw (x.lu.Qm (s₂:={s' with heap:=h',toks:=n}) F.I (P:=(·=xO)) (λa e=>e▸F.hI) (λa e=>e▸x.W7) (FT x.BS) d Z Z) λcat ik=>?_;obtain⟨⟨L,m,h,r⟩,f⟩:=x.ac;exact dW cat ik ⟨lq L m (d aO _ F.ne.symm h)<|r.cp ik,f⟩
theorem RY{L:Array bb}(x:h.get? aO=O {cls:=.type "list",data:=.seq L n}):∀b o,b=aO->h.get? b=O o->¬Fu o:=λb o e a=>by
 subst e;rw [x]at a;refine rl (aJ a) ?_;rintro(⟨h,_⟩|⟨h,_⟩)<;>simp at h
theorem Oi{x:Str}(o:hW (i7 c scope C))(K:tT c scope x):(i7 c scope C).bp[(jB scope).idxOf x]?=O x/\Wu (i7 c scope C) x:=by
 have a:x∈jB scope:=by
  exact bV (K.x) (λh=>tB.mpr<|bX _ h<|.inl Z) λh=>tB.mpr<|bX _ h<|.inr<|.inr Z
 refine⟨FP (ns:=jB scope)<|List.contains_iff_mem.mpr a,?_⟩;refine bV (K.x) (λh=>?_) λh=>?_
 .refine bV (o.rj x a) (λq=>?_) λz=>fw z λq U=>?_
  .exact .inl q
  .refine bV (uK (env:=c.bc) K.nd h) (λr=>?_) λz=>fw z λr U=>?_
   .rw [show(i7 c scope C).bc.kindOf x=O .local from r]at q;refine bV q (λq=>?_) λq=>?_<;>exact nq gA (aJ q) ff
   .exact nq gA r ff
 .refine ka ((rW (n:=C+1)).mpr h) λb d=>.inr (Bl ?_ b (tA K<|am<|.inl d) (dm (f:=(·.2)) d));exact bV (uK (env:=c.bc) K.nd h) (λr=>r) λz=>fw z λr U=>nq gA r ff
inductive CmI(c:dC)(scope:Scope)(C:a8)(eh:N)(s₁:bG)(xO aO:a8)(a:V)(l:Nat)(ρ:Nat->aw->N->Prop)(i:Nat)(J:bw)(n:Nat)(s':bG):Prop where
 |mk (k:Nat) (eP:bw) (c8:N) (acc:aw) (hk:n=l-k) (hl:k<=l) (x:Mv c scope C eh s₁ xO aO a k acc eP c8 s') (hz:acc.length<=k) (j:ρ k acc c8) (hρ:∀y,eP.set i y=J.set i y)
def CmR(c:dC)(scope:Scope)(C:a8)(eh:N)(s₁:bG)(aO:a8)(ρ:aw->N->Prop)(E:Ex)(l:Nat)(r:Fb)(s':bG):Prop:=match r with
 |.ok _=>∃eP c8 acc,RW c scope C eh s₁ eP c8 s'/\AM aO acc c8 s'/\acc.length<=l/\ρ acc c8
 |.error e=>EbC c scope C eh s₁ E e s'
theorem Oj{x:Str}{ρ:Nat->aw->N->Prop}(F:Cfx c scope C J eh s₁ xO aO) (K:tT c scope x) (vs:g0 hd a uH=O B) (room:pT c.A hd n) (hz:B.length<=cE)(turn:∀k y d Y,B[k]?=O y->ρ k d Y->k9 hd a B Y/\xs y Y (λv Y=>ρ (k+1) (d++[v]) Y) (ρ (k+1) d))(hB:∀y Y K ρ,xs y Y K ρ->VI (i7 c scope C) ((wV scope c.bp J).set ((jB scope).idxOf x)<|O y) Y ifs (λq Y=>bif q then VE (i7 c scope C) ((wV scope c.bp J).set ((jB scope).idxOf x)<|O y) Y (eO elt (i7 c scope C).bc) K E else ρ Y) E)(fin:∀d Y,ρ B.length d Y->k9 hd a B Y) (x0:Mv c scope C eh s₁ xO aO a 0 [] (wV scope c.bp J) c8 s') (j0:ρ 0 [] c8):
 JC (gy PR c.g.w) c.A (.compLoop (.ListComp elt [⟨.Name x px,iter,ifs,0⟩] scope pos) 0 (.ref xO) (.ref aO) (i7 c scope C).bc) (CmR c scope C eh s₁ aO (ρ B.length) E B.length) s':=by
 refine fw (Oi F.ok K) λM aZ=>codeAny_compLoop_tests (prog:=PR) (w:=c.g.w) (R:=CmR c scope C eh s₁ aO (ρ B.length) E B.length) (CmI c scope C eh s₁ xO aO a B.length ρ ((jB scope).idxOf x)<|wV scope c.bp J)
  (λm s₂ ⟨k,aB,f,d,t,p,aG,r,j,Q⟩=>?_) B.length ⟨0,_,_,[],Z,dA _,x0,bO _,j0,λU=>rfl⟩
 refine bV (m5 p) (λh=>?_) λheq=>?_
 .refine fw (turn k _ d f (aV h:B[k]?=O B[k]) j) λaE s=>?_;replace s:=hB _ _ _ _ s;refine Mh (c:=i7 c scope C) aG.lu.cm vs aE aG.BS (aV h:B[k]?=O B[k]) λu h' tk nx=>?_;refine m7 (aG.Qm (h':=h') (n:=tk) F λb o nb e=>(nx.wQ.2 b nb).trans e) λcat ik ac=>have aG:Mv c scope C eh s₁ xO aO a (k+1) d aB f {s₂ with heap:=h',toks:=tk}:=⟨cat,nx.nx ik,aG.W7,ac⟩;?_;have T:WS (i7 c scope C) f {s₂ with heap:=h',toks:=tk} (ug (.Name x px) (i7 c scope C).bc u) (λU W Mw U=>W=(wV scope c.bp J).set ((jB scope).idxOf x) (O B[k])/\Mw=f) (λea U Y=>E ea () Y):=by
   exact rl (Q _)<|WS.ki<|Fx F.ok cat.cm M aZ (nx.rep ik) λU=>⟨Z,Z⟩
  have ad3:=KG t h;clear Q M aZ fin turn cat ac nx ik;refine wpAny_mono (aG.Mp F T) (λU RZ i=>?_) λU U x=>x;refine iz λG k0=>?_;obtain⟨W,Mw,σ,e1,e2⟩:=i;refine k0 ?_;clear t k0 aE;clear j;subst e1 e2;clear aG T;refine wpAny_mono (σ.RX F<|s RZ σ.lu.cm) (λok' aaK i=>?_) λU U x=>x;refine iz λG k0=>?_;obtain⟨ad1,Es,aG,e,q⟩:=i;refine k0 ?_;clear k0;subst e;clear σ s;induction ok' with
  |false=>exact bX _ ad3 ⟨k+1,_,Es,d,Z,h,aG,kj r,q,λz=>acV ..⟩
  |true=>
   refine wpAny_mono (aG.RX F<|(show VE (i7 c scope C) _ Es _ _ E from q) aaK aG.lu.cm) (λv Oh i=>?_) λU U x=>x;refine iz λG k0=>?_;obtain⟨RS,Mr,σ,e,y,ry,q⟩:=i;refine k0 ?_;clear k0;subst e;clear aG;refine iz λG k0=>?_;obtain⟨⟨L,nn,ad4,ad5⟩,ad6⟩:=σ.ac;refine k0<|Qe (l:=aO) ⟨_,ad4⟩ (λags ad7 YV=>?_) (by refine rr (g6)<|rr (ad5.ez) ?_;exact aD r<|aD p hz);clear p k0;refine fw (σ.lu.Qm (s₂:={Oh with heap:=ags}) F.I (P:=(·=aO)) (λa e=>e▸F.hD) (λa e=>e▸ad6) (RY ad4) (λb o nb e=>(YV.2 b nb).trans e) Z Z) λaaP H=>ka ad7 λagt agu=>bX _ ad3 ⟨k+1,_,Mr,d++[y],Z,h,⟨aaP,σ.BS.cp H λo' e=>(YV.2 xO F.ne).trans e,σ.W7,lq (L++[v]) agt (by exact bL agu<|rr (List.push_toArray _ _) Z)<|(ad5.cp H).jO<|ry.cp H,ad6⟩,by refine rr (aY) ?_;exact cg r,q,λz=>acV ..⟩
 .clear t p;subst heq;exact RN (c:=i7 c scope C) aG.lu.cm room vs (fin d f j) aG.BS λh' RT=>m7 (aG.Qm (h':=h') (n:=s₂.toks) F λb o nb e=>RT b o nb e) λcat ik ac=>mF aB f d cat ac r j
end
end
variable{elt:Expr} {iter:Expr} {px:Pos} {ifs:List Expr} {xs:V->N->aj->(N->Prop)->Prop}
section
open SeqAt
theorem W8{w:fZ}{it:a8}{a:V}{Q:bb->bG->Prop}(x:rV s.heap it a k)(h:Q (.ref it) s):ee (gy prog w) A (pyIter<|.ref it) Q E s:=by
 cases a with
 |S a=>exact wpAny_pyIter_listiter x h
 |bD B=>refine e9 x λt L U U i U=>?_;exact Qy i h
 |wk lo b=>exact wpAny_pyIter_rangeiter x h
 |aQ l=>
  exact ka x λt z=>bV z (λi=>wpAny_pyIter_striter_ascii i h) λi=>wpAny_pyIter_striter_wide i h
 |_=>exact x.elim
variable{acc:aw} {oO:N} {py:Pos}
section
variable{c:dC} {J eP sz:bw} {mV:N} {s₂:bG} {E:Ex} {x:Str}
theorem FY{o:Obj}{es:Array oA}(h:o.data=.dict es n):¬Fu o:=by rintro(⟨_,_,_,e⟩|⟨_,_,e⟩)<;>replace e:=h▸e<;>exact nq gz e ff
theorem R0(I:de c J eh s₁)(j:s₁.heap.get? C=X)(d:BR c scope C s₁ aO)(cat:RW c scope C eh s₁ sz mV s')(f:AM aO acc mV s')(k:acc.length<=cE):
 dh c eh s₁ J (mV.aX aO<|.aF acc) s'/\(∃m,s'.heap.Ns C m)/\mV C=X:=by
 obtain⟨⟨L,n,e,r⟩,g⟩:=f;refine cat.cm.tS λm i U=>dW ?_ ⟨m,i⟩ cat.cm.iM.1;refine(I.lI cat.ss).RJ (s':=s') I d.cu g (λo a=>?_) (λb o U e=>e) (.inr ⟨_,e⟩) Z Z (λU=>fe L n e r (by have:=r.ez;lia)) Z;rw [e]at a;refine rl (aJ a) ?_;rintro(⟨h,_⟩|⟨h,_⟩)<;>simp at h
theorem dh.aaQ(st:dh c eh s₁ sz oO s')(I:de c J eh s₁)(h:s₁.heap.get? C=X)(f:oO C=X){m:Str->Option bb}(g:s'.heap.Ns C m)(i:f7 C s'.heap h'):dh c eh s₁ sz oO {s' with heap:=h'}/\IK s'.heap h':=iT g λo es n j hd U=>st.Qm (s':={s' with heap:=h'}) I (P:=(·=C)) (λa e=>e▸h) (λa e=>e▸f) (λa k e d=>by subst e;rw [j]at d;refine rl (aJ d) ?_;exact FY hd) (λb o nb e=>(i.2 b nb).trans e) Z Z
theorem HY{n:String}{agv:Env}(I:de c J oO JN)(q:Cl E ea () oO)(t:Tbd ea oO):W c J oO JN (Z3 n (.ref ea) agv:Sem α) (λU U U=>False) E:=by refine q9 t λC dx a b T h=>Fy h I<|.bs (n9 q.1 I λU=>rfl) λU s st=>?_;exact Hh ⟨ea,oO,Z,.cL st.cm,q⟩
theorem DB(names:List (Str×gn)):∀(n:Nat) (acc:List (Str×a8)),m<=n->(∀q∈acc,m<=q.2)->∀q∈fy n names acc,m<=q.2:=by
 induction names with
 |nil=>exactλU U U h=>h
 |cons p r ih=>
  intro n acc z h;obtain⟨y,k⟩:=p;exact iteInduction (motive:=λl:List (Str×a8)=>∀q∈l,m<=q.2) (λU=>ih _ _ (kj z) λq hq=>(mc hq).elim (λe=>e▸z)<|h q) λU=>ih _ _ z h
theorem xP{x:Str}(h:(x,a)∈fy n names []):n<=a:=DB names n [] (bO _) (λU h=>nomatch h) _ h
inductive agw(c:dC)(J:bw)(Y:N)(s:bG)(Q:aj)(aO C:a8)(s':bG):Prop where
 |mk (eh:N) (s₁:bG) (oO:N) (m:Str->Option bb) (st:dh c Y s J eh s₁) (hC:s₁.heap.get? C=X) (st':dh c eh s₁ J oO s') (hm:s'.heap.Ns C m) (W7:oO C=X) (q:Q (.S aO) oO)
abbrev sx:Obj:={cls:=.type "list",dict:=X,data:=.seq ([]:List bb).toArray}
theorem HZ{K:tT c scope x}(I:de c J eh s₁)(h:s₁.heap.get? a=X)(f:a<C):BR c scope C s₁ a:=by refine⟨h,hY f,λg=>?_⟩;refine mm g λz d i=>?_;obtain⟨y,b⟩:=z;obtain rfl:=i;exact bV (ma d) (λd=>cM f<|Nat.not_lt.mpr<|jy<|xP d) λd=>j6 (I.N2 y b<|eI (wW K d).2.1) λo v e U=>have e:=(show s₁.heap.get? b=X from h).symm.trans e;nq aP e ff
theorem Ol(d:h.objs.size<=C):∀a∈(i7 c scope C).Ki,h.get? a=X:=λa e=>by
 refine vB e λz f=>?_;obtain⟨y,b⟩:=z;exact d6<|aD d<|jy<|xP f
theorem H0{x:Str}{use:Option (bb->Sem Unit)}{Qv:bb->bG->Prop}{Ev:bb->bG->Prop}(ok:Ok c Γ) (K:tT c scope x) (hs:∀x,pf iter c.bc x=jg x) (I:de c J Y s) (h:VE c J Y (eO iter c.bc) (wz Γ.hd xs Q) E)(hB:∀C,hW (i7 c scope C)->∀y Y K ρ,xs y Y K ρ->VI (i7 c scope C) ((wV scope c.bp J).set ((jB scope).idxOf x)<|O y) Y ifs (λq Y=>bif q then VE (i7 c scope C) ((wV scope c.bp J).set ((jB scope).idxOf x)<|O y) Y (eO elt (i7 c scope C).bc) K E else ρ Y) E)(R:∀aO C s',agw c J Y s Q aO C s'->∀f,compPost c.M c.A Ev use Qv (.ref aO) C (.ok f) s') (aE:∀e s',We c J Y s E e s'->Ev e s'):
 ee c.M c.A (comprehension (.ListComp elt [⟨.Name x px,iter,ifs,0⟩] scope pos) scope c.bc p (newList []) bk (eO iter c.bc) use) Qv Ev s:=by
 refine wpAny_comprehension_free Z hs (DA (λp H hf=>(K.RU p H hf).2:∀p∈scope.names,p.2=.free->∃a,c.bc.cells.lookup p.1=O a)) K.fn (λy hy vs=>vJ K.nd<|rl vs hy)<|wpAny_mono (h s I) (λv s₁ ⟨l,st,a,ra,h⟩=>?_) aE;induction h with|@mk B hi ρ j0 jt je=>
 have d:=st.cm;refine HO d hi ra λT s₂ i W hit σ=>iR<|have q3:Qt s₂ {s₂ with heap:=s₂.heap.push sx,toks:=s₂.toks}:=.nf ..;RV ok.lJ K ((d.qt i).qt q3) λRZ q4 ad8 R1=>cK (hit.kZ) λoi hoi U=>have hD1:=i.vF _<|dZ _;?_;have aZ:s₂.heap.objs.size<(s₂.heap.push sx).objs.size:=by refine rr (fj ..:(s₂.heap.push sx).objs.size=s₂.heap.objs.size+1) ?_;exact dM _
 have le2:=dH aZ;have F:Cfx c scope (s₂.heap.push sx).objs.size J l s₁ T s₂.heap.objs.size:=⟨d,i.vF _<|d6 le2,λa ha=>i.vF _<|Ol le2 a ha,HZ (K:=K) d W<|mD (fN hoi) aZ,HZ (K:=K) d hD1 aZ,hY<|fN hoi,R1⟩;have n:=q3.aU q4;have aG:Mv c scope (s₂.heap.push sx).objs.size l s₁ T s₂.heap.objs.size a 0 [] (wV scope c.bp J) l RZ:=
  ⟨⟨⟨ad8.toiO,(i.aU n).tR _ _,λb k h=>.inl ⟨k,h⟩,(i.aU n).os⟩,ad8⟩,hit.cp n.ik λo e=>n.fk _ _ e,d.gx W,lq [] _ (q4.fk _ _<|cJ _ Z) iA,d.gx hD1⟩
 have loop:=Oj (elt:=elt) (iter:=iter) (px:=px) (pos:=pos) (ifs:=ifs) F K hi ok.lD σ jt (hB _ R1) (λaB Y j=>(je aB Y j).1) aG j0;have fin:∀r s',CmR c scope (s₂.heap.push sx).objs.size l s₁ s₂.heap.objs.size (ρ B.length) E B.length r s'->compPost c.M c.A Ev use Qv (.ref s₂.heap.objs.size) (s₂.heap.push sx).objs.size r s':=λr s' x=>by
  induction r with
  |ok f=>
   refine g7 x λsz mV aB cat ac vs j=>m7 (R0 d F.hC F.hD cat ac<|aD vs σ) λu o9 W7=>?_;obtain⟨m,G⟩:=o9;exact R _ _ s' ⟨l,s₁,_,m,st,F.hC,u,G,by refine bL (N.da _ _ F.hD.ne.symm) ?_;exact W7,(je aB mV j).2 _ ac.no⟩ f
  |error e=>
   obtain⟨ea,sz,mV,z,cat,q,t⟩:=x;clear R;subst z;refine cat.cm.tS λm G U=>?_;have H:∃m,s'.heap.Ns (s₂.heap.push sx).objs.size m/\∀h',f7 (s₂.heap.push sx).objs.size s'.heap h'->∀P:Env,P.locals=(s₂.heap.push sx).objs.size->ee c.M c.A (Z3 "comprehension.variables-let-go" (.ref ea) P:Sem bb) (λU U=>False) Ev {s' with heap:=h'}:=(bX m G (λh' hs' P U=>by
    exact fw ((d.lI cat.ss).aaQ d F.hC cat.cm.iM.1 G hs') λu U=>wpAny_mono (HY u.cm q t) (λU U=>Wq.no) λe aaR x=>aE e aaR<|.aU (st.aU u) x))
   induction use<;>exact H
 exact codeAny_compStart_list (mZ loop fin)<|W8 (prog:=PR) (w:=c.g.w) aG.BS<|mZ loop fin
theorem aaS{x:Str}(ok:Ok c Γ) (K:tT c scope x) (b:∀x,pf iter c.bc x=jg x) (h:VE c J Y (eO iter c.bc) (wz Γ.hd xs Q) E)(d:∀C,hW (i7 c scope C)->∀y Y K ρ,xs y Y K ρ->VI (i7 c scope C) ((wV scope c.bp J).set ((jB scope).idxOf x)<|O y) Y ifs (λq Y=>bif q then VE (i7 c scope C) ((wV scope c.bp J).set ((jB scope).idxOf x)<|O y) Y (eO elt (i7 c scope C).bc) K E else ρ Y) E):
 VE c J Y (eO (.ListComp elt [⟨.Name x px,iter,ifs,0⟩] scope pos) c.bc) Q E:=λs I=>by
 refine H0 (use:=X) ok K b I h d (λaO C s' ⟨n,s₁,o,m,st,g,i,a,j,q⟩ f=>bX m a λh' k=>?_) λe s' x=>x;exact fw (i.aaQ st.cm g j a k) λl U=>⟨_,st.aU l,.S aO,jk,q⟩
theorem aaT{E:oZ}{x y:Str}{Q:VF->bw->N->Prop}(ok:Ok c Γ) (K:tT c scope x) (i:∀x,pf iter c.bc x=jg x) (j:sZ (.ListComp elt [⟨.Name x px,iter,ifs,0⟩] scope pos) (O<|.Name y py) p.line c.bc=jg D)(h:VE c J Y (eO iter c.bc) (wz Γ.hd xs Q') (λa U Y=>E a J Y))(l:∀C,hW (i7 c scope C)->∀y Y K ρ,xs y Y K ρ->VI (i7 c scope C) ((wV scope c.bp J).set ((jB scope).idxOf x)<|O y) Y ifs (λq Y=>bif q then VE (i7 c scope C) ((wV scope c.bp J).set ((jB scope).idxOf x)<|O y) Y (eO elt (i7 c scope C).bc) K (λa U Y=>E a J Y)else ρ Y) (λa U Y=>E a J Y))(t:∀r Y,Q' (.S r) Y->VG c J Y (.S r) (ug (.Name y py) c.bc) (λJ Y=>Q .eR J Y) E):
 VS c J Y (xu (.Assign [.Name y py] (.ListComp elt [⟨.Name x px,iter,ifs,0⟩] scope pos) p) c.bc) Q E:=λs I=>by
 have u:=H0 (c:=c) (s:=s) (px:=px) (pos:=pos) (p:=firstIterPos [⟨.Name x px,iter,ifs,0⟩] pos) (use:=O<|ug (.Name y py) c.bc) (Qv:=λU=>Sq c Y s<|Fq Q .next) (Ev:=Se c Y s E) ok K i I h l (λaO C s' ⟨T,s₁,w,m,st,b,d,z,A,q⟩ f=>?_) λU U=>We.toS
 .refine rr (exec_Assign_Name_used _ _ _ _ j)<|db (λU U k=>NJ k)<|wpAny_bind ?_;exact wpAny_bind<|wpAny_mono u (λv s' x=>bZ<|bZ x) λU U x=>x
 .refine wpAny_mono (t _ _ q s' (.ref aO) d.cm jk) (λU F G=>?_) λU U=>.aU<|st.aU d;obtain⟨W,w,e,H⟩:=G;refine g7 z λo es n vs hd M aZ=>fw (e.tw vs A (st.cm.iX b).2.1 (st.cm.iX b).2.2.1 (st.cm.iX b).2.2.2 d.cm) λaB P=>have g:F.heap.Ns C m:=mF o es n aB hd M aZ;(bX m g λh' R=>?_);exact fw ((d.aU e).aaQ st.cm b P g R) λaE U=>.nx (st.aU aE) H
end
end
variable{acc:aw} {oO:N} {py:Pos}
section
open SeqAt
theorem Om:BH.lookup ("enumerate":Str)=O (.fK "enumerate"):=by kernel_rfl
variable{en:Str} {p1:Pos}
section
variable{c:dC} {J:bw}
theorem zO{a:V}(h:BG hd a Y=O B):hd=X/\∃x,a=.S x/\Y x=O (.aF B):=by
 cases a with
 |S x=>
  induction hd with
  |none=>cases itm (Y:=Y) (hd:=X) (a:=.S x) h with|S z h=>exact Bl Z x Z h
  |some _=>exact no h
 |_=>induction hd<;>exact no h
theorem R4{e it:a8}{i:Int}{old:bb}(x:IsEnum h e it i old):∀b o,b=e->h.get? b=O o->¬Fu o:=λb o c a=>by
 subst c;rw [show h.get? b=_ from x]at a;refine rl (aJ a) ?_;rintro(⟨h,_⟩|⟨h,_⟩)<;>simp at h
inductive EnQ(c:dC)(J:bw)(Y:N)(s:bG)(P:aj)(v:bb)(eh:N)(s':bG):Prop where
 |mk (x:a8) (s₁:bG) (ea it:a8) (hv:v=.ref ea) (st:dh c Y s J eh s₁) (p:P (.S x) eh) (q:Qt s₁ s') (n1:s₁.heap.get? ea=X) (n2:s₁.heap.get? it=X) (ne:ea≠it) (he:IsEnum s'.heap ea it 0 .none) (hi:rV s'.heap it (.S x) 0)
theorem Oo{E:Ex}{e:Expr}{P:aj}(ok:Ok c Γ)(I:de c J Y s)(f:(en==("enumerate":Str))=D)(o:c.bc.kindOf en=O .globalImplicit)(t:gY e=bk)(h:VE c J Y (eO e c.bc) P E) (u:∀a Y,P a Y->∃x B,a=.S x/\Y x=O (.aF B)):
 W c J Y s (eO (.Call (.Name en p1) [e] [] p) c.bc) (EnQ c J Y s P) E:=by
 obtain rfl:=cR f;show W c J Y s (do callWith p (<-eO (.Name ("enumerate":Str) p1) c.bc) [] (Qs p<|yL [e] c.bc) []) _ E;refine rr (nv (by refine bL (List.all_cons)<|rr t ?_;rfl:[e].all (!gY ·)=D)) ?_;refine W.bJ ((Kw (c:=c) (J:=J) (Y:=Y) (E:=E) (x:=("enumerate":Str)) (p:=p1) (v:=.fK "enumerate") (Q:=λv i=>v=.fK "enumerate"/\i=Y) ok.lJ ok.kf o (by decide+kernel) Om ⟨Z,Z⟩) s I) λaZ aB s₁ j ⟨v,r,y,z⟩=>?_;clear I f;subst y z;refine rr (vD r)<|W.bJ (W.fM<|Eb (Q:=λus b=>∃a,us=[a]/\P a b) j.cm uG<|VL.gu<|h.cp (λv i A=>VL.jr<|bX v Z A) λU U h=>h) λa b s₂ d ⟨xs,us,k,R,C,l⟩=>?_;obtain⟨L,aE⟩:=a;subst xs C;refine n6 k λv U aO m=>?_;clear k;refine rr (fP m) ?_;clear m;refine j6 (u _ _ l) λx B F G=>?_;obtain rfl:=F;refine rr (fG aO)<|d.cm.zJ G λT n H rl zl=>W.ki<|lb (oX rfl:vX c.M s₂.heap (keeperOf<|.type "enumerate") .machine)<|wpAny_bind<|call_enumerate_1 (prog:=PR) (w:=c.g.w) H λh' ρ K aG vs=>wpAny_bind<|eY<|wpAny_point<|bZ ?_;have q:Qt s₂ {s₂ with heap:=h'}:=⟨vs,Z,Z⟩;exact⟨b,dh.qt d.cm q,x,s₂,_,_,Z,j.aU d,l,q,d6<|ej _,dZ _,Bd _,ρ,K⟩
inductive EnI(c:dC)(eh:N)(s₁:bG)(en it x:a8)(l:Nat)(ρ:Nat->bw->N->Prop)(n:Nat)(s':bG):Prop where
 |mk (k:Nat) (eP:bw) (c8:N) (old:bb) (hk:n=l-k) (hl:k<=l) (st:dh c eh s₁ eP c8 s') (he:IsEnum s'.heap en it k old) (hit:rV s'.heap it (.S x) k) (n1:c8 en=X) (n2:c8 it=X) (j:ρ k eP c8)
theorem R5{KL:j9}{v:V}{u:bb}{t:Tok}{T:a8}(r:cY h v u)(ik:IK h h')(i:IK h' KL)(a:h'.get? T=O {cls:=.type "tuple",data:=.seq #[.int (k:Int) t,u]}):cY KL (.bD [.aL k,v]) (.ref T):=Bq (L:=[.int (k:Int) t,u]) (lR _ (i _ _ a<|.inl<|tQ Z _ _ Z) Z _ Z) (fQ gW<|fQ (r.cp<|ik.aU i) iA) (by show 2<=cE;exact dc)
theorem aaU{E:oZ}{xi xv:Str}{e:Expr}{pi pv pt p2:Pos}{k1:Nat}{Q:VF->bw->N->Prop}{xs:Nat->V->bw->N->(VF->bw->N->Prop)->Prop}(ok:Ok c Γ)(aE:Sc c sc)(hc:zM sc c.bp [.Name xi pi,.Name xv pv]=O [i,j])(hen:(en==("enumerate":Str))=D) (hl:c.bc.kindOf en=O .globalImplicit) (hst:gY e=bk)(h:VE c J Y (eO e c.bc) (Ee Γ.hd xs Q J) (λa U Y=>E a J Y)) (hB:∀k x J Y K,xs k x J Y K->VS c ((J.set i<|O<|.aL (k:Nat)).set j<|O x) Y (Ay body c.bc) K E):
 VS c J Y (xu (.For (.Tuple [.Name xi pi,.Name xv pv] k1 pt) (.Call (.Name en p1) [e] [] p2) body [] p) c.bc) Q E:=λs I=>by
 refine wpAny_For ?_ λU=>rfl;refine wpAny_mono (Oo (E:=λa U Y=>E a J Y) ok I hen hl hst h λa Y h=>(by
  delta Ee at h;induction h with|mk e=>exact let⟨_,x,a,b⟩:=zO e;(lq x _ a b))) (λv s₂ ⟨eh,st2,x,s₁,en,l,hv,st,h,q2,A,aZ,aO,aG,W9⟩=>?_) (λU U=>We.toS)
 refine rr hv ?_;delta Ee at h;induction h with|@mk B hi ρ j0 jt je=>
 refine fw (zO hi) λhh U=>wpAny_pyIter_enum (prog:=PR) (w:=c.g.w) aG<|mZ (R:=Rs c Y s Q E) ?_ λr s' x=>?_
 .refine codeAny_forLoop_any (prog:=PR) (w:=c.g.w) (EnI c eh s₁ en l x B.length ρ) (λn d aB=>?_) B.length ⟨0,J,eh,.none,Z,dA _,.qt st.cm q2,aG,W9,st.cm.gx A,st.cm.gx aZ,j0⟩;refine iz λσ k0=>?_;obtain⟨k,Mx,F,old,hk,hle,G,My,FZ,H,aaV,jj⟩:=aB;refine k0<|have ad9:=R4 My;have aaW:=FT FZ;?_;clear aG k0;refine bV (m5 hle) (λYW=>?_) λheq=>?_
  .have hxk:B[k]?=O B[k]:=aV YW;refine fw (jt k _ Mx F hxk jj) λT L=>iz λσ k0=>G.cm.zJ (show F x=O (.aF B)from T.1) λws m el rl zl=>cK (rl.at hxk) λu hu ru=>k0<|wpAny_pyNext_enum_item My FZ (gI el) ((hM ..).trans hu) aO λh' aaX ad' hT hsz hkp=>?_;clear hle k0;clear T;refine fw (G.Qm (s':={d with heap:=h',toks:=d.toks+1}) st.cm (P:=λa=>a=en\/a=l) (λa e=>e.elim (λe=>e▸A) λe=>e▸aZ) (λa e=>e.elim (λe=>e▸H) λe=>e▸aaV) (λa o e=>e.elim (ad9 a o)<|aaW a o) (λb o nb e=>hkp b o (λz=>nb<|.inl z) (λz=>nb<|.inr z) e) Z Z) λW ik=>?_;clear ad9 aaW My FZ jt je jj;refine wpAny_letOwnedTupleGo_enum aaX λKL R6 Mz=>?_;have aea:∀a o,a=en->h'.get? a=O o->¬Fu o:=λa o ea eo=>by
    clear hkp;clear R6 A aO Mz H G W;subst ea;rw [show h'.get? a=_ from aaX]at eo;obtain rfl:=aJ eo;rintro(⟨h,_⟩|⟨h,_⟩)<;>simp at h
   clear hkp;clear G;refine fw (W.Qm (s':={d with heap:=KL,toks:=d.toks+1}) st.cm (P:=(·=en)) (λa e=>e▸A) (λa e=>e▸H) aea (λb o nb e=>(Mz.2 b nb).trans e) Z Z) λvs YX=>have KH:rV KL l (.S x) (k+1):=(show rV h' l (.S x) (k+1)from ad').cp YX λo e=>(Mz.2 l aO.symm).trans e;have rT:=R5 (k:=k) ru ik YX hT;have g:=YU (c:=c) (J:=Mx) (Y:=F) (E:=E) (n:=k1) (p:=pt) (B:=[.aL k,B[k]]) (Q:=λeP c8=>eP=(Mx.set i<|O<|.aL k).set j (O B[k])/\c8=F) ok aE hc hh Z ⟨Z,Z⟩;?_;clear aaX ad' hT aea Mz ru hu rl el;refine wpAny_mono (WS.FR ok.lJ (st.aU vs)<|g _ _ vs.cm rT) (λU Oh aB=>?_) λU U x=>x;refine iz λσ k0=>?_;obtain⟨RS,Mr,C,e1,e2⟩:=aB;refine k0 ?_;clear g aO k0;clear W;subst e1 e2;refine fw ((show rV ({d with heap:=KL,toks:=d.toks+1}:bG).heap l (.S x) (k+1)from KH).gV st.cm aZ aaV vs.cm C) λKJ W'=>have M:=st.cm.iX A;fw (C.tw (show({d with heap:=KL,toks:=d.toks+1}:bG).heap.get? en=_ from R6) H M.2.1 M.2.2.1 M.2.2.2 vs.cm) λaeb Xa=>wpAny_mono (WS.FR ok.lJ (st.aU<|vs.aU C)<|(hB _ _ _ _ _ L) Oh C.cm) (λf aaY aB=>?_) λU U x=>x;refine iz λσ k0=>?_;obtain⟨aec,H4,R7,w,r,y⟩:=aB;refine k0<|fw (KJ.gV st.cm aZ W' C.cm R7) λaaZ Xb=>fw (R7.tw aeb Xa M.2.1 M.2.2.1 M.2.2.2 C.cm) λaed Xc=>have st':=(vs.aU C).aU R7;have t:=BP (E:=E) (P:=∃m,m<n/\EnI c eh s₁ en l x B.length ρ m aaY) (st.aU st') r y λj=>bX _ (KG hk YW) ⟨k+1,aec,H4,_,Z,YW,st',aed,aaZ,Xc,Xb,j⟩;?_;clear R6 hk A H k0;clear r;induction f<;>exact t
  .clear hk hle A aO H;subst heq;refine iz λσ k0=>fw (je Mx F jj) λT q=>G.cm.zJ (show F x=O (.aF B)from T.1) λws m el rl zl=>k0<|wpAny_pyNext_enum_end (by refine bL (ok.lD.gp)<|rr hh ?_;rfl) My FZ (gI el) (tW<|cC rl.ez) λh' RT=>?_;clear k0 T;exact fw (G.Qm (s':={d with heap:=h'}) st.cm (P:=(·=l)) (λa e=>e▸aZ) (λa e=>e▸aaV) aaW (λb o nb e=>RT b o nb e) Z Z) λW ik=>rL<|.nx (st.aU W) q
 .clear aG A aO;induction r with
  |ok f=>exact x
  |error e=>exact Hp.g8 x
end
end
variable{en:Str} {p1:Pos}
section
open SeqAt
section
variable{c:dC} {J:bw}
theorem BU{o:Obj}{L:Array bb}{Q:Bool->bG->Prop}{M:yF}(b:s.heap.get? a=O o)(hd:o.data=.fields L)(h:Q bk s):ee M A (isType<|.ref a) Q E s:=db (λU U k=>yN b k)<|rr hd<|bZ h
theorem Oq{E:Ex}{Q:α->N->bG->Prop}(ok:Ok c Γ)(I:de c J Y s)(b:Y a=O (.fg C dx at_ .none X))(l:FF Γ.hd Y)(j:∀ea,Γ.hd=O ea->a≠ea)(h:∀k,Lv a (Y.aX a<|.fg C dx at_ (match Γ.hd with|some ea=>.ref ea|none=>.none) X) k->E a () k):W c J Y s (raiseNew (.ref a):Sem α) Q E:=by
 refine iz λP k0=>fw (yW b I) λz ns=>e9 z λL sl g m u n=>k0 ?_;clear k0;cases hh:Γ.hd with
 |none=>
  replace h:=hh▸h;dsimp only at h;replace h:=(N.yR Y b:Y.aX a (.fg C dx at_ .none X)=Y)▸h;refine wpAny_bind<|wpAny_handled ?_;refine rr (ok.lD.gp)<|rr hh ?_;have f:Wo a Y:=(uk C dx at_ .none X b λT i=>by exact nq aP i ff)
  first
   |exact Hh ⟨a,Y,rfl,.cL I,f,h⟩
   |exact wpAny_bind<|bZ<|Hh ⟨a,Y,rfl,.refl I,f,h⟩
 |some ea=>
  replace h:=hh▸h;dsimp only at h;have ne:=j ea hh;refine iz λP k0=>Bj (l ea hh) λv w x y p=>fw (yW p I) λz U=>e9 z λxs aO d F q G=>k0 ?_;have r:dx≠a:=by
   clear j k0;clear h b ne;rintro rfl;refine iz λP k0=>iT ns λH es ep d t U=>k0<|have d:=g.symm.trans d;?_;obtain rfl:=aJ d;exact nq gz t ff
  refine uI (by refine rr (ok.lD.gp)<|rr hh ?_;rfl:c.A.handled=O (.ref ea)) g Z (by lia) d Z q ne ?_;have st:dh c Y s J (Y.aX a<|.fg C dx at_ (.ref ea) X) {s with heap:=s.heap.update a (kx (·.setIfInBounds 2<|.ref ea)),toks:=s.toks}:=
   I.lI (eM.Bw I.toiO b a (.inl Z) (gF ..) (λik=>⟨gk (L.setIfInBounds 2<|.ref ea) sl (eV _ g Z) (by simpa using m) (by exact vp<|by lia) (by refine rr (kl dc) ?_;exact n),ns.wQ ik<|gf _ _<|lF r⟩) Z λo e=>by exact nq Internal.cP.ctorIdx e ff)
  exact⟨a,_,Z,st,(uk C dx at_ (.ref ea) X (N.aM ..) λT i=>by exact nq aP i ff),h⟩
theorem xQ{o:Obj}{Q:bb->bG->Prop}{M:yF}(b:s.heap.get? a=O o)(h:Q o.cls s):ee M A (Qu<|.ref a) Q E s:=((V6 b).andThen .now:vX M s.heap (Qu<|.ref a) o.cls).here h
set_option tactic.hygienic true in
theorem Xd{E:oZ}{e:Expr}{Q:VF->bw->N->Prop}(ok:Ok c Γ)(h:VE c J Y (eO e c.bc) (λv Y=>Kr Γ.hd (λa Y=>E a J Y) v Y) (λa U Y=>E a J Y)):VS c J Y (xu (.Raise (O e) X p) c.bc) Q E:=λs I=>by
 show WS c Y s (do mz p;raiseStmt c.bc (O (do let v<-eO e c.bc;mz p;jg v)) X) _ _;refine WS.ki<|W.toS (J:=J) ?_;refine W.bJ (W.bJ (h s I) λv d s₁ st q=>W.ki<|W.j' st.cm q) λv d s₁ st f=>?_;obtain⟨u,r,q⟩:=f;revert r q;cases u<;>try exactλU q=>q.elim
 rename_i a;intro r q;induction q with|@mk C dx at_ ha hx hhd hne q=>
 refine rr (fG r)<|fw (yW ha st.cm) λz ns=>e9 z λL sl b m n o=>fw (ok.kf.agp C hx) λg i=>pb ?_;dsimp only;refine wpAny_bind<|eY ?_;unfold excFromValue isExcClass;refine wpAny_bind<|db (λU U k=>BU b Z k) ?_;refine bZ<|wpAny_bind<|db (λU U k=>xQ b k)<|(looks_subIn st.cm.vE g).here ?_;refine bZ<|db (λU U k=>BU b Z k)<|wpAny_bind<|db (λU U k=>xQ b k)<|lb (looks_typeIn st.cm.vE i) ?_;refine bZ ?_;clear r;exact W.bs (n9 (uk C dx at_ .none X ha λT j=>by exact nq aP j ff) st.cm λU=>rfl) λU s₂ l=>Oq ok l.cm ha hhd hne q
end
end
section
open SeqAt
section
variable{c:dC} {J:bw}
theorem H5{x:Str}{Q:Unit->bG->Prop}(ok:hW c)(I:de c J Y s)(d:c.bp[j]?=O x)(a:c.bc.kindOf x=O .local)(f:c.bc.cells.lookup x=X)(h:∀s',dh c Y s (J.set j X) Y s'->Q () s'):ee c.M A (do yI c.bc x .none;unbindBehindTheSuite c.bc x pos) Q E s:=by
 refine I.tS λm g k=>?_;have b:(c.bc.scope.kind==.class||(c.bc.scope.kind==.module&&c.bc.locals !=c.bc.globals))=bk:=by refine rr (ok.fn) ?_;rfl
 refine wpAny_bind<|JP<|xp a g (λH l n=>?_) b;refine wpAny_onRaise<|wpAny_unbindName_local a l (v:=.none) (bI Z) b λp u q r=>?_;have t:p.Ns c.bc.locals (λy=>if y=x then u else m y):=by
  refine g7 q λo es ep a1 z xs C=>mF o es ep a1 z xs λy=>(C y).trans ?_;by_cases e:y=x
  .simp [e]
  .simp [e]
 exact h _<|dh.nam (u:=X) ok I d (λU h=>nq aP h ff) f (λi y w aO U F G=>k i y w aO F G) t<|n.trans r
noncomputable def xR(c:dC)(ea:a8):dC:={c with A:=c.A.mark (O<|.ref ea)}
theorem xS(ok:hW c):hW (xR c ea):=⟨ok.fn,ok.Du,ok.eH,ok.L3,ok.cnd,ok.aad,ok.rj,ok.uw,ok.AH⟩
theorem F0(ok:Ok c Γ):Ok (xR c ea) ⟨Γ.g,O ea,Γ.n⟩:=⟨xS ok.lJ,ok.g,⟨ok.lD.AI,ok.lD.AJ,Z⟩,ok.kf⟩
theorem de.toH(I:de c J Y s):de (xR c ea) J Y s:=⟨⟨I.gD,I.ie,I.fk,I.cu,I.um,I.m8,I.Du⟩,I.uq,I.N2,I.iM,I.sx,I.yS⟩
theorem de.ofH(h:c.A.handled=X)(I:de (xR c ea) J Y s):de c J Y s:=⟨⟨I.gD,I.ie,I.fk,I.cu,I.um,I.m8,I.Du⟩,I.uq,I.N2,I.iM,I.sx,I.yS⟩
theorem dh.ofH(h:c.A.handled=X)(st:dh (xR c ea) Y s J c8 s'):dh c Y s J c8 s':=⟨st.cm.ofH h,st.tR,st.Fw,st.os⟩
theorem Hp.ofT{E:oZ}{e:bb}(h:c.A.handled=X)(st:dh c Y s J c8 s₁)(x:Hp (xR c ea) c8 s₁ E e s'):Hp c Y s E e s':=by obtain⟨a,eP,c8,z,b,q,t⟩:=x;exact⟨a,eP,c8,z,st.aU<|b.ofH h,q,t⟩
def Hs(c:dC)(Y:N)(s:bG)(j:Nat)(Q:VF->bw->N->Prop)(E:oZ):Fb->bG->Prop
 |.ok f,s'=>Sq c Y s (Fq (λu J Y=>Q u (J.set j X) Y) f) s'
 |.error e,s'=>Hp c Y s E e s'
theorem aee{E R:oZ}{hb:List lp}{b0:lp}{x Cn:Str}{np:Pos}{Q:VF->bw->N->Prop}(ok:Ok c Γ)(hh:Γ.hd=X)(F:c.bp[j]?=O x)(G:c.bc.kindOf x=O .local)(hCl:c.bc.kindOf Cn=O .globalImplicit) (hCd:(Cn==("__debug__":Str))=bk) (hCv:BH.lookup Cn=O (.S C))(h:VS c J Y (Ay body c.bc) Q R)(hR:∀ea J Y,R ea J Y->∃i dx at_ cx tb,Y ea=O (.fg i dx at_ cx tb)/\Kn i C=D/\VS (xR c ea) (J.set j<|O<|.S ea) Y (Ay (b0::hb) c.bc) (λfl J Y=>Q fl (J.set j X) Y) (λe J Y=>E e (J.set j X) Y)):
 VS c J Y (xu (.Try body [.ExceptHandler (O<|.Name Cn np) (O x) (b0::hb) pos] [] [] p) c.bc) Q E:=λs I=>by
 have n:c.A.handled=X:=by refine bL (ok.lD.gp)<|rr hh ?_;rfl
 have aB:c.bc.cells.lookup x=X:=by
  refine bV (ok.lJ.rj x<|aW F) (λaE=>fw aE λU q=>?_) λQn=>fw Qn λq U=>?_
  .exact q
  .replace q:=G▸q;refine bV q (λq=>?_) λq=>?_<;>exact nq gA (aJ q) ff
 have hp:(c.bc.scope.kind==.class||(c.bc.scope.kind==.module&&c.bc.locals !=c.bc.globals))=bk:=by refine rr (ok.lJ.fn) ?_;rfl
 refine wpAny_Try_except<|wpAny_mono (h s I) (λf s₁ x=>?_) λe s₁ ⟨ea,o,H,z,st,q⟩=>?_
 .refine iz λP k0=>?_;obtain⟨o,H,st,u,r,q⟩:=x;refine k0 ?_;clear k0;induction f with
  |next=>exact rL ⟨o,H,st,u,r,q⟩
  |_=>exact⟨o,H,st,u,r,q⟩
 refine rr z<|wpAny_mono (tn (E:=λU U U=>False) (Q:=λU b U=>Lv ea H b) ok.lJ q.1 st.cm λb s' l U=>l) (λU s₂ d=>?_) λU U=>We.no;obtain⟨mV,T,l⟩:=d;have xs:=q.lv l;refine wpAny_mono (n9 (E:=λU U U=>False) (Q:=λU b U=>b=mV) xs.1 T.cm λs'=>rfl) (λU aaR d=>?_) λU U=>We.no;obtain⟨oO,V,e⟩:=d;subst e;refine iz λP k0=>uj (hR _ _ _ xs.now) λi dx at_ cx tb W t7=>fw t7 λaG hv=>k0<|have hCx:=((fV ..).mp aG).1;?_;clear hR k0;obtain rfl:i=C:=cR ((fV ..).mp aG).2;have σ:=st.aU<|T.aU V;have aef:=V.cm.toH (ea:=ea);refine wpAny_handleBy_cons ?_ (by intro z;exact nq f9 z ff);refine codeAny_handlers_test (prog:=PR) (w:=c.g.w)<|wpAny_mono (Kw (c:=xR c ea) (J:=o) (Y:=oO) (E:=λU U U=>False) (p:=np) (Q:=λv b=>v=.S i/\b=oO) (F0 (ea:=ea) ok).lJ (F0 (ea:=ea) ok).kf hCl hCd hCv ⟨Z,Z⟩ aaR aef) (λv RZ d=>?_) λU U=>We.no;refine iz λP k0=>?_;obtain⟨Mw,ρ,u,r,e1,e2⟩:=d;refine k0 ?_;clear aef aG k0 T V;subst e1 e2;refine rr (fG r)<|have aO:=ρ.ofH n;iz λP k0=>fw (yW W aO.cm) λaE ns=>e9 aE λL sl ho hz h2 h1=>k0<|have LT:vX c.M RZ.heap (Qu<|.ref ea) (.ref i):=(V6 ho).andThen .now;(exm_one aO.cm.vE LT<|ok.kf.exm i hCx).here<|mZ (R:=Hs c Y s j Q E) ?_ λr K y=>?_
 .have s4':=σ.aU aO;have I4:=ρ.cm;refine codeAny_handlers_suite_as (prog:=PR) (w:=c.g.w)<|wpAny_mono (n9 (c:=xR c ea) (E:=λU U U=>False) (Q:=λU b U=>b=Mw) xs.1 I4 λs'=>rfl) (λU K d=>?_) λU U=>We.no;obtain⟨Es,vs,e⟩:=d;clear I4 W k0 xs σ aO ρ;subst e;refine vs.cm.tS λm hn hm=>xp G hn (λh' hn' hs'=>?_) hp;have R8:dh (xR c ea) Es K (o.set j<|O<|.S ea) Es {K with heap:=h',toks:=K.toks+1}:=.uq (xS ok.lJ) vs.cm F jk aB hm hn' hs';refine wpAny_mono (hv _ R8.cm) (λf aaY ⟨k,H4,aZ,u,r,q⟩=>⟨k,H4,s4'.aU<|(vs.aU<|R8.aU aZ).ofH n,u,r,q⟩) λy aaY d=>?_;refine iz λP k0=>?_;obtain⟨eb,k,H4,z,aZ,q⟩:=d;refine k0 ?_;clear k0;refine rr z<|wpAny_mono (tn (c:=xR c ea) (E:=λU U U=>False) (Q:=λU b U=>Lv eb H4 b/\Tbd eb b) (xS ok.lJ) q.1 aZ.cm λb s' l t=>⟨l,t⟩) (λU aif d=>?_) λU U=>We.no;refine iz λP k0=>?_;obtain⟨YY,YZ,l,tbd⟩:=d;refine k0<|H5 (c:=xR c ea) (xS ok.lJ) YZ.cm F G aB λagx Y0=>have aeg:=s4'.aU<|(vs.aU<|R8.aU<|aZ.aU<|YZ.aU Y0).ofH n;have qE:Cl E eb (k.set j X) YY:=(q.lv l).cp λe Y h=>h;wpAny_mono (HY (c:=xR c ea) (J:=k.set j X) (E:=λa U Y=>E a (k.set j X) Y) Y0.cm (qE.cp λU U h=>h) tbd) (λU U=>Wq.no) λe afX d=>iz λP k0=>?_;obtain⟨ec,aeh,z,R9,q⟩:=d;refine k0 ?_;clear k0 l;exact rr z<|have nt:=BN (c:=xR c ea) (Y:=YY) (s:=agx) (E:=E) (xS ok.lJ) R9<|q.cp (eP:=k.set j X) λU U h=>h;wpAny_mono nt (λU Xe=>Hp.ofT n aeg) λe Xe=>Hp.ofT n aeg
 .clear W k0 l xs σ aO ρ;induction r with
  |ok f=>
   refine iz λP k0=>?_;obtain⟨eP,b,st5,u,r,q⟩:=y;exact k0<|H5 ok.lJ st5.cm F G aB λOh st6=>⟨_,b,st5.aU st6,u,r.cp st6.ik,q⟩
  |error e=>exact Hp.g8 y
end
end
section
open SeqAt
def H6(ce:CE)(e:Expr)(c:dC)(Γ:mM):Prop:=∀J Y Q E,rU Γ E ce J Y Q->VE c J Y (eO e c.bc) Q E
def OkT(ce:CE)(e:Expr)(c:dC)(Γ:mM):Prop:=∀J Y Q E,Q9 Γ E ce J Y Q->VT c J Y (isTrue e c.bc<|eO e c.bc) Q E
def SE(ce:CE):Prop:=∀{e:Expr} {c:dC} {Γ:mM},Ok c Γ->s6 ce e c.bc.scope c.bp=D->H6 ce e c Γ/\OkT ce e c Γ
structure OkL(Y1:List CE)(es:List Expr)(c:dC)(Γ:mM):Prop where
 l:∀J Y Q E,Ra Γ E Y1 J Y Q->VL c J Y (mA<|es.map λe=>(bk,eO e c.bc)) (λL Y=>L.length=es.length/\Q L Y) E
 a:∀op J Y Q E,vcA Γ E op Y1 J Y Q->VT c J Y (acO op es c.bc) Q E
 b:∀op p J Y Q E,vcB Γ E op Y1 J Y Q->VE c J Y (boolOp p op<|Dl es c.bc) Q E
 i:∀J Y Q E,vcI Γ E Y1 J Y Q->VI c J Y es Q E
 n:∀J Y Q E,Ra Γ E Y1 J Y Q->VN c J E es Y Q
def SL(Y1:List CE):Prop:=∀{es:List Expr} {c:dC} {Γ:mM},Ok c Γ->VU Y1 es c.bc.scope c.bp=D->OkL Y1 es c Γ
def SO(co:Option CE):Prop:=∀{o:Option Expr} {c:dC} {Γ:mM},Ok c Γ->ckO co o c.bc.scope c.bp=D->∀J Y Q E,vcO Γ E co J Y Q->VE c J Y (uc<|JG o c.bc) Q E
variable{A':Prop} {ce:CE} {t:aq} {ux:List (Option Nat)}
section
variable{c:dC} {J:bw} {E:Ex}
theorem VE.to{t:Sem bb}(h:VE c J Y t Q E)(b:∀v a,Q v a->Q' v a):VE c J Y t Q' E:=h.cp b λU U x=>x
theorem VT.to{t:Sem Bool}{Q Q':ag}(h:VT c J Y t Q E)(b:∀v a,Q v a->Q' v a):VT c J Y t Q' E:=h.cp b λU U x=>x
theorem VL.to{t:Sem (List bb)}{Q Q':aw->N->Prop}(h:VL c J Y t Q E)(b:∀v a,Q v a->Q' v a):VL c J Y t Q' E:=h.cp b λU U x=>x
theorem H7{o:Option α}{f:α->Option β}{b:β}(h:o.bind f=O b):∃a,o=O a/\f a=O b:=by
 induction o with
 |none=>exact nq aP h ff
 |some a=>exact bX a Z h
theorem aa0{o:Option α}{f:α->β}{b:β}(h:o.map f=O b):∃a,o=O a/\b=f a:=by
 induction o with
 |none=>exact nq aP h ff
 |some a=>exact bX a Z (aJ h).symm
theorem BV{e:Expr}(h:mH e=bk)(x:bb):pf e env x=jg x:=by revert h;cases e<;>first|exactλU=>rfl|exactλh=>nq bP h ff
theorem sC{A xs:Prop}(h:A->A'):(bif q then A else xs)->bif q then A' else xs:=by
 induction q with
 |true=>exact h
 |false=>exact id
theorem BW{A xs B':Prop}(h:A->A')(h':xs->B'):(bif q then A else xs)->bif q then A' else B':=by
 induction q with
 |true=>exact h
 |false=>exact h'
theorem wX{o:Option α}{Q Q':α->Prop}(h:∀x,Q x->Q' x):gX o Q->gX o Q':=by
 induction o with
 |none=>exact id
 |some x=>exact h x
theorem H6.VW{e:Expr}(h:H6 ce e c Γ)(n:∀J Y Q E,Q9 Γ E ce J Y Q->False):H6 ce e c Γ/\OkT ce e c Γ:=⟨h,λU U U U x=>(n _ _ _ _ x).elim⟩
theorem Y2(i:Nat):SE (.dR i):=λ{e c Γ} ok h=>ey (o:=jC e) h λw h=>by
 exact rr (w.2)<|have g:H6 (.dR i) (.Name w.1.1 w.1.2) c Γ:=λU U U U v=>adG ok.lJ (cR h) v;⟨g,λU U U U v=>aas (g _ _ _ _ v) λU=>rfl⟩
theorem Y3(v:V):SE (.dT v):=λ{e c Γ} ok h=>by
 refine H6.VW ?_ λU U U U h=>h
 rcases hX _ _▸h with h|h
 .exact ey (o:=adt e) h λw h=>w.2▸λU U U U v=>WQ (Ri h) v
 .exact ey (o:=jC e) h λw h=>w.2▸λU U U U v=>Kw ok.lJ ok.kf (cR<|nL h) (nt<|nL<|nR h) (Ri<|nR<|nR h) v
theorem Y4(op:lZ)(l r:CE)(a:SE l)(b:SE r):SE (.fh op l r):=λ{e c Γ} ok h=>ey (o:=adu e) h λw h=>by
 refine rr (w.2)<|rr (aI<|nL h) ?_;exact H6.VW (λU U U U v=>adH<|((a ok<|nL<|nR h).1 _ _ _ _ v).to λU U v=>(b ok<|nR<|nR h).1 _ _ _ _ v) λU U U U h=>h
theorem Y5(a:CE)(b:SE a):SE (.jb a):=λ{e c Γ} ok h=>ey (o:=aUn e) h λw h=>by
 refine rr (w.2)<|rr (aI<|nL h) ?_;exact H6.VW (λU U U U v=>adI<|(b ok<|nR h).1 _ _ _ _ v) λU U U U h=>h
theorem Y6(a:CE)(b:SE a):SE (.mh a):=λ{e c Γ} ok h=>ey (o:=aUn e) h λw h=>by
 refine rr (w.2)<|rr (aI<|nL h) ?_;exact⟨λU U U U v=>adJ<|(b ok<|nR h).1 _ _ _ _ v,λU U U U v=>adO<|(b ok<|nR h).2 _ _ _ _ v⟩
theorem Y7(op:qc)(l r:CE)(a:SE l)(b:SE r):SE (.dN op l r):=λ{e c Γ} ok h=>ey (o:=WD e) h λw h=>ey (o:=a1 w.1.2.2.1) (nR h) λy k=>by
 refine rr (w.2)<|rr (aI<|nL h)<|rr (y.2) ?_;exact⟨λU U U U v=>adK ok (nt<|nL k)<|((a ok<|nL<|nR k).1 _ _ _ _ v).to λU U v=>(b ok<|nR<|nR k).1 _ _ _ _ v,λU U U U v=>adL ok (nt<|nL k)<|((a ok<|nL<|nR k).1 _ _ _ _ v).to λU U v=>(b ok<|nR<|nR k).1 _ _ _ _ v⟩
theorem MA(f o2:qc)(l m r:CE)(a:SE l)(b:SE m)(d:SE r):SE (.pU f o2 l m r):=λ{e c Γ} ok h=>ey (o:=WD e) h λw h=>ey (o:=aC w.1.2.2.1) (nR h) λz k=>ey (o:=a1 z.1.2) k λy k=>by
 refine rr (w.2)<|rr (aI<|nL h)<|rr (z.2)<|rr (y.2) ?_;exact⟨λU U U U v=>WR ok (nt<|nL k)<|((a ok<|nL<|nR k).1 _ _ _ _ v).to λU U v=>((b ok<|nL<|nR<|nR k).1 _ _ _ _ v).to λU U v=>wX (λU=>sC λv=>(d ok<|nR<|nR<|nR k).1 _ _ _ _ v) v,
  λU U U U v=>WT ok (nt<|nL k)<|((a ok<|nL<|nR k).1 _ _ _ _ v).to λU U v=>((b ok<|nL<|nR<|nR k).1 _ _ _ _ v).to λU U v=>wX (λU=>sC λv=>(d ok<|nR<|nR<|nR k).1 _ _ _ _ v) v⟩
theorem Y8(op:BoolOp)(es:List CE)(d:SL es):SE (.pK op es):=λ{e c Γ} ok h=>ey (o:=adv e) h λw h=>by
 refine rr (w.2)<|rr (aI<|nL h) ?_;exact⟨λU U U U v=>(d ok<|nR h).b _ w.1.2.2 _ _ _ _ v,λU U U U v=>(d ok<|nR h).a _ _ _ _ _ v⟩
theorem Y9(t a b:CE)(d:SE t)(f:SE a)(g:SE b):SE (.cA t a b):=λ{e c Γ} ok h=>ey (o:=aIf e) h λw h=>by
 exact rr (w.2)<|⟨λU U U U v=>adM<|((d ok<|nL h).2 _ _ _ _ v).to λU U=>BW (λv=>(f ok<|nL<|nR h).1 _ _ _ _ v) λv=>(g ok<|nR<|nR h).1 _ _ _ _ v,
  λU U U U v=>adN<|((d ok<|nL h).2 _ _ _ _ v).to λU U=>BW (λv=>(f ok<|nL<|nR h).2 _ _ _ _ v) λv=>(g ok<|nR<|nR h).2 _ _ _ _ v⟩
theorem R'(a:CE)(i:Nat)(b:SE a):SE (.bK a i):=λ{e c Γ} ok h=>ey (o:=zL e) h λw h=>by
 exact rr (w.2)<|H6.VW (λU U U U v=>aaw ok.kf (nL h) (cR<|nL<|nR h)<|(b ok<|nR<|nR h).1 _ _ _ _ v) λU U U U h=>h
theorem Y'(a i:CE)(b:SE a)(d:SE i):SE (.cW a i):=λ{e c Γ} ok h=>ey (o:=wU e) h λw h=>by
 exact rr (w.2)<|H6.VW (λU U U U v=>adS ok.kf ok.lD.Fz (nt<|nL h)<|((b ok<|nL<|nR h).1 _ _ _ _ v).to λU U v=>(d ok<|nR<|nR h).1 _ _ _ _ v) λU U U U h=>h
theorem MB(a:CE)(lo b:Option CE)(d:SE a)(f:SO lo)(i:SO b):SE (.eC a lo b):=λ{e c Γ} ok h=>ey (o:=wU e) h λw h=>ey (o:=aSl w.1.2.1) h λy h=>by
 refine rr (w.2)<|rr (y.2) ?_;exact H6.VW (λU U U U v=>WY<|((d ok<|nL h).1 _ _ _ _ v).to λU U v=>(f ok (nL<|nR h) _ _ _ _ v).to λU U v=>(i ok (nR<|nR h) _ _ _ _ v).to λU U v=>ok.g▸v) λU U U U h=>h
theorem MC(o:CE)(i:Nat)(as:List CE)(a:SE o)(b:SL as):SE (.cH o i as):=λ{e c Γ} ok h=>ey (o:=vH e) h λw h=>ey (o:=zL w.1.1) h λy h=>by
 refine rr (w.2)<|rr (y.2) ?_;have go:H6 (.cH o i as) (.Call (.Attribute y.1.1 y.1.2.1 y.1.2.2) w.1.2.1 [] w.1.2.2) c Γ:=λU U U U v=>WZ ok (nL h) (cR<|nL<|nR h) (aI<|nL<|nR<|nR h) (nL<|nR<|nR<|nR h) (nL<|nR<|nR<|nR<|nR h)<|((a ok<|nL<|nR<|nR<|nR<|nR<|nR h).1 _ _ _ _ v).to λU U v=>wX (λU v=>((b ok<|nR<|nR<|nR<|nR<|nR<|nR h).l _ _ _ _ v).to λU U v=>v.2) v;exact⟨go,λU U U U v=>aas (go _ _ _ _ v) λU=>rfl⟩
theorem Sa(f:CE)(as:List CE)(b:SE f)(d:SL as):SE (.jA f as):=λ{e c Γ} ok h=>ey (o:=vH e) h λw h=>by
 exact rr (w.2)<|have go:H6 (.jA f as) (.Call w.1.1 w.1.2.1 [] w.1.2.2) c Γ:=λU U U U v=>aay ok (nL<|nR h) (λo n a e=>by have h:=nL h;replace h:=e▸h;exact nq bP h ff)<|((b ok<|nL<|nR<|nR h).1 _ _ _ _ v).to λU U v=>((d ok<|nR<|nR<|nR h).l _ _ _ _ v).to λU U v=>v.2;⟨go,λU U U U v=>aas (go _ _ _ _ v) λU=>rfl⟩
theorem Sd(es:List CE)(a:SL es):SE (.aF es):=λ{e c Γ} ok h=>ey (o:=YH e) h λw h=>by
 exact rr (w.2)<|H6.VW (λU U U U v=>aav (nL h)<|((a ok<|nR<|nR h).l _ _ _ _ v).to λU U v=>⟨v.1▸aI (nL<|nR h),v.2⟩) λU U U U h=>h
theorem Za(es:List CE)(a:SL es):SE (.bD es):=λ{e c Γ} ok h=>ey (o:=y9 e) h λw h=>by
 exact rr (w.2)<|H6.VW (λU U U U v=>adR (nL h)<|((a ok<|nR<|nR h).l _ _ _ _ v).to λU U v=>⟨v.1▸aI (nL<|nR h),v.2⟩) λU U U U h=>h
structure KN(elt:CE)(t:aq)(iter:CE)(ifs:List CE)(ux:List (Option Nat))(x:Expr)(scope:Scope)(y:Str)(it:Expr)(fs:List Expr)(sc:Scope)(ns:List Str):Prop where
 aX:mH it=bk
 ok:FI scope sc ns y=D
 t:t=[(jB scope).idxOf y]
 ux:ux=xH scope ns
 it:s6 iter it sc ns=D
 elt:s6 elt x (FH scope sc) (jB scope)=D
 fs:VU ifs fs (FH scope sc) (jB scope)=D
theorem H8{elt iter:CE}{ifs:List CE}{x:Expr}{gs:List NK}{ns:List Str}(h:s6 (.iB elt t iter ifs ux) (.ListComp x gs scope p) sc ns=D):
 ∃y q it f,gs=[⟨.Name y q,it,f,0⟩]/\KN elt t iter ifs ux x scope y it f sc ns:=ey (o:=a1 gs) h λg h=>by
 obtain⟨⟨a,it,f,as⟩,rfl⟩:=g;exact ey (o:=jC a) h λy h=>⟨y.1.1,y.1.2,it,f,by exact rl (y.2)<|rr (show as=0 from cR (nL h)) Z,nt<|nL<|nR h,nL<|nR<|nR h,cR<|nL<|nR<|nR<|nR h,cR<|nL<|nR<|nR<|nR<|nR h,nL<|nR<|nR<|nR<|nR<|nR h,nL<|nR<|nR<|nR<|nR<|nR<|nR h,nR<|nR<|nR<|nR<|nR<|nR<|nR h⟩
theorem KN.ky{elt iter:CE}{ifs:List CE}{x it:Expr}{y:Str}{fs:List Expr}{ns:List Str}{K:aj}{eP:bw}(h:KN elt t iter ifs ux x scope y it fs c.bc.scope ns)(a:SE elt)(b:SL ifs)(ok:Ok c Γ)(o:hW (i7 c scope C)){K':N->Prop}(v:vcI Γ E ifs eP Y λq Y=>bif q then rU Γ E elt eP Y K else K' Y):VI (i7 c scope C) eP Y fs (λq Y=>bif q then VE (i7 c scope C) eP Y (eO x (i7 c scope C).bc) K E else K' Y) E:=((b (⟨o,ok.g,ok.lD,ok.kf⟩:Ok (i7 c scope C) Γ) h.fs).i _ _ _ _ v).to λU U=>sC λv=>(a (⟨o,ok.g,ok.lD,ok.kf⟩:Ok (i7 c scope C) Γ) h.elt).1 _ _ _ _ v
theorem Sf(elt:CE)(t:aq)(iter:CE)(ifs:List CE)(ux:List (Option Nat))(a:SE elt)(b:SE iter)(d:SL ifs):SE (.iB elt t iter ifs ux):=λ{e c Γ} ok h=>by
 have⟨w,hw⟩:∃w,aLc e=O w:=by
  cases q:aLc e with
  |none=>have h:(aLc e).any _=D:=h;replace h:=q▸h;exact nq bP h ff
  |some w=>exact⟨w,Z⟩
 rw [w.2]at h⊢;refine AD (H8 h) λy q it g f z=>rr f<|rr (z.t)<|rr (z.ux) ?_;exact H6.VW (λJ Y Q E v=>aaS ok (Et ok.lJ Z z.ok) (BV z.aX) ((b ok z.it).1 _ _ _ _ v) λC o y Y K ρ v=>z.ky a d ok o v) λU U U U h=>h
theorem agy(ks:aw):∀{l:List (Option Expr)},sVs ks l=D->∃a:List Dk,ks=a.map (λk=>V.aQ k.1.cps.toList)/\l=a.map λk=>O (kC k):=by
 induction ks with
 |nil=>exactλh=>bX [] Z<|List.isEmpty_iff.mp h
 |cons v r i=>
  exactλ{l} h=>ey (o:=aC l) h λx h=>ey (o:=adx x.1.1) (nL h) λk b=>by
   exact cK (i<|nR h) λa e c=>bX (k.1::a) (by refine rr e<|rr (YN b) ?_;rfl)<|x.2.trans<|congr (aH af5 k.2) c
theorem MD(ks:List Dk):(ks.map λk=>V.aQ k.1.cps.toList).filterMap toK=ks.map kd:=by
 induction ks with
 |nil=>rfl
 |cons k r i=>exact aH (kd k::·) i
theorem Sg(ks:aw)(L:List CE)(g:SL L):SE (.cQ ks L):=λ{e c Γ} ok h=>ey (o:=adw e) h λw h=>by
 refine rr (w.2)<|cK (agy ks<|nL h) λk i d=>?_;obtain rfl:=i;refine rr d<|have a:=cR<|nL<|nR h;have a:=(aT _)▸d▸a;?_;have b:=aI<|nL<|nR<|nR<|nR h;have f:=nL<|nR<|nR h;have l:=(g ok<|nR<|nR<|nR<|nR h).n;clear h d;replace b:=(MD _)▸b;refine H6.VW (λJ Y Q E v=>?_) λU U U U h=>h;have v:=l _ _ _ _ v;unfold kDi at v;replace v:=(MD _)▸v;clear h
 rcases hX _ _▸f with z|z
 .have z:=cR z;clear f;clear b;obtain rfl:=i'<|(aT _).symm.trans z;rw [i' a.symm]at v⊢;exact W0 v
 .exact aaB a ((aT ..).symm.trans<|cR z) b v
theorem Zb:SL []:=λ{es c Γ} ok h=>by
 induction es with
 |cons _ _=>exact nq bP h ff
 |nil=>exact⟨λU U U U h=>VL.jr ⟨Z,h⟩,λU U U U U h=>adP h,λU U U U U U h=>h.elim,λU U U U h=>ad2 h,λU U U U h=>h⟩
theorem Sh(e:CE)(cs:List CE)(g:SE e)(f:SL cs):SL (e::cs):=λ{es c Γ} ok h=>ey (o:=aC es) h λw h=>by
 refine rr (w.2)<|have l:=f ok<|nR h;have d:=g ok<|nL h;⟨λU U U U v=>VL.gu ((d.1 _ _ _ _ v).to λU U v=>(l.l _ _ _ _ v).to λU U v=>⟨aH (·+1) v.1,v.2⟩),λU U U U U v=>aat<|(d.2 _ _ _ _ v).to λU U=>sC λv=>l.a _ _ _ _ _ v,λop p J Y Q E v=>?_,λU U U U v=>aaO<|(d.2 _ _ _ _ v).to λU U=>sC λv=>l.i _ _ _ _ v,λU U U U v=>(d.1 _ _ _ _ v).to λU U v=>l.n _ _ _ _ v⟩;have lb:=l.b op p;have h:=nR h;clear f l;generalize w.1.2=r at*;cases cs with
 |nil=>
  clear lb;induction r with
  |nil=>exact adQ<|d.1 _ _ _ _ v
  |cons _ _=>exact nq bP h ff
 |cons c' j=>
  induction r with
  |nil=>exact nq bP h ff
  |cons k m=>
   refine aau<|(d.1 _ _ _ _ v).to λv q h'=>?_;clear h;clear h;cases v with
   |du b=>exact sC (λv=>lb _ _ _ _ v) h'
   |_=>exact h'.elim
theorem Si:SO X:=λ{o c Γ} ok h J Y Q E v=>by
 induction o with
 |none=>exactλs I=>W.j' I ⟨.bR,oD,v⟩
 |some _=>exact nq bP h ff
theorem Sj(a:CE)(b:SE a):SO (O a):=λ{o c Γ} ok h J Y Q E v=>ey (o:=aS o) h λw h=>by
 exact rr (w.2)<|(b ok h).1 _ _ _ _ v
theorem ny(c:CE):SE c:=CE.rec (motive_1:=SE) (motive_2:=SL) (motive_3:=SO) Y2 Y3 Y4 Y5 Y7 MA Y8 Y6 Y9 R' Y' MB Sa MC Sd Za Sg Sf Zb Sh Si Sj c
theorem aa1(cs:List CE):SL cs:=CE.rec_1 (motive_1:=SE) (motive_2:=SL) (motive_3:=SO) Y2 Y3 Y4 Y5 Y7 MA Y8 Y6 Y9 R' Y' MB Sa MC Sd Za Sg Sf Zb Sh Si Sj cs
end
end
variable{A':Prop} {ce:CE} {t:aq} {ux:List (Option Nat)}
section
open SeqAt
def SS(cs:CS):Prop:=∀{st:lp} {c:dC} {Γ:mM},Ok c Γ->Sc c c.bc.scope->Hj c.bc=bk->cS cs st c.bc.scope c.bp=D->∀J Y Q E,vcS Γ E cs J Y Q->VS c J Y (xu st c.bc) Q E
def Qo(cs:av):Prop:=∀{sts:List lp} {c:dC} {Γ:mM},Ok c Γ->Sc c c.bc.scope->Hj c.bc=bk->N6 cs sts c.bc.scope c.bp=D->∀J Y Q E,iy Γ E cs J Y Q->VS c J Y (Ay sts c.bc) Q E
variable{ct:CT}
section
variable{c:dC}
theorem VS.to{J:bw}{t:Sem ZW}{Q Q':VF->bw->N->Prop}{E:oZ}(h:VS c J Y t Q E)(b:∀v eP a,Q v eP a->Q' v eP a):VS c J Y t Q' E:=h.cp b λU U U x=>x
theorem KO{t:Expr}(ok:Ok c Γ)(aE:Sc c c.bc.scope)(h:YI ct t c.bc.scope c.bp=D){x:V}{J:bw}{Q:bw->N->Prop}{E:oZ}(a:vcG Γ E ct x J Y Q):VG c J Y x (ug t c.bc) Q E:=by
 induction ct with
 |dR i=>
  exact vw t (jC t) h λy U h=>have b:=an (an h).2;adW ok.lJ (cR (an h).1) (aE.st _ (List.contains_iff_mem.mp b.1) b.2) a
 |bD is=>
  refine vw t (y9 t) h λy U h=>?_;cases x with
  |bD B=>exact YU ok aE (cR (an h).1) a.1 a.2.1 a.2.2
  |_=>exact a.elim
 |bK e i=>
  exact vw t (zL t) h λy U h=>aaD ok.kf (cR (an h).1)<|(ny e ok (an h).2).1 _ _ _ _ a
 |cW e i=>
  exact vw t (wU t) h λy U h=>adX ok<|((ny e ok (an (an h).2).1).1 _ _ _ _ a).to λU U v=>(ny i ok (an (an h).2).2).1 _ _ _ _ v
theorem F1{v:Expr}{t:Option Expr}(h:y4 v=bk):sZ v t n env=jg bk:=by revert h;cases v<;>first|exactλU=>rfl|exactλh=>nq bP h ff
theorem Eu{t v:Expr}(h:(y9 t).isSome=D->y9 v=X)(a:∀es p,t≠.List es p):nK [t] v env=jg X:=by
 revert h a;cases t with
 |Tuple es k p=>
  intro h U;have:=h Z;revert this;clear h;cases v<;>first|exactλU=>rfl|exactλh=>nq aP h ff
 |List es p=>exactλU a=>cM Z<|a _ _
 |_=>exactλU U=>rfl
theorem H9{ns:List Str}{t:Expr}(h:YI ct t sc ns=D):(∀e q,t≠.Starred e q)/\(∀es p,t≠.List es p):=by
 induction ct with
 |dR i=>refine vw t (jC t) h λy U h=>?_;exact⟨λU U h=>nq hG h ff,λU U h=>nq hG h ff⟩
 |bD is=>refine vw t (y9 t) h λy U h=>?_;exact⟨λU U h=>nq hG h ff,λU U h=>nq hG h ff⟩
 |bK e i=>refine vw t (zL t) h λy U h=>?_;exact⟨λU U h=>nq hG h ff,λU U h=>nq hG h ff⟩
 |cW e i=>refine vw t (wU t) h λy U h=>?_;exact⟨λU U h=>nq hG h ff,λU U h=>nq hG h ff⟩
theorem Ot{t:CT}{y:Str}{gens:List NK}{J:bw}{Q:VF->bw->N->Prop}{E:oZ}(ok:Ok c Γ)(aE:Sc c c.bc.scope)(a:YI t (.Name y py) c.bc.scope c.bp=D)(h:s6 ce (.ListComp elt gens scope pos) c.bc.scope c.bp=D)(s:sZ (.ListComp elt gens scope pos) (O<|.Name y py) p.line c.bc=jg D) (b:vcS Γ E (.bY t ce) J Y Q):VS c J Y (xu (.Assign [.Name y py] (.ListComp elt gens scope pos) p) c.bc) Q E:=by
 cases ce with
 |iB e tt iter ifs ux=>
  refine AD (H8 h) λx px it f d z=>rr d ?_;clear h;obtain rfl:=z.t;obtain rfl:=z.ux;exact aaT ok (Et ok.lJ Z z.ok) (BV z.aX) s ((ny iter ok z.it).1 _ _ _ _ b) (λC o y Y K ρ v=>z.ky (ny e) (aa1 ifs) ok o v) λr Y v=>KO ok aE a v
 |_=>exact nq bP h ff
theorem Ou(x v:Expr):(∃es n t L m q,x=.Tuple es n t/\v=.Tuple L m q)\/((y9 x).isSome=D->y9 v=X):=by
 induction y9 v with
 |none=>exact .inr λU=>rfl
 |some w=>induction y9 x with
  |none=>exact .inr λh=>nq bP h ff
  |some z=>exact .inl<|sq _ _ _ _ _ _ z.2 w.2
variable{J:bw} {Q:VF->bw->N->Prop} {E:oZ} {t:CT} {x v:Expr}
theorem BX(ok:Ok c Γ)(aE:Sc c c.bc.scope)(h:YI t x c.bc.scope c.bp=D)(a:s6 ce v c.bc.scope c.bp=D)(b:sZ v (O x) p.line c.bc=jg bk)(d:nK [x] v c.bc=jg X)(e:vcS Γ E (.bY t ce) J Y Q):
 VS c J Y (xu (.Assign [x] v p) c.bc) Q E:=RQ b d (H9 h).1<|((ny ce ok a).1 _ _ _ _ e).to λU U v=>KO ok aE h v
theorem Ov(ok:Ok c Γ)(aE:Sc c c.bc.scope)(h:YI t x c.bc.scope c.bp=D)(a:s6 ce v c.bc.scope c.bp=D)(b:y4 v=bk)(f:YG x v=D)(d:vcS Γ E (.bY t ce) J Y Q):VS c J Y (xu (.Assign [x] v p) c.bc) Q E:=by
 refine bV (Ou x v) (λz=>n0 z λes n g L m q i j=>?_) λk=>?_
 .obtain rfl:=i;obtain rfl:=j;induction t with
  |bD is=>
   refine bV (Dz (n:=n) (m:=m) (p:=g) (q:=q) ok.lJ aE (cR (an h).1) f) (λe=>?_) λz=>hV z λnames e al l=>?_
   .exact BX ok aE h a (F1 b) e d
   .exact zc ok aE al l (aI (an (an h).2).1) (F1 b) e (((ny ce ok a).1 _ _ _ _ d).to λx U v=>by
     cases x with
     |bD B=>exact v
     |_=>exact v.elim)
  |_=>exact nq bP h ff
 .exact BX ok aE h a (F1 b) (Eu k (H9 h).2) d
theorem Sk(ok:Ok c Γ)(aE:Sc c c.bc.scope)(h:YI t x c.bc.scope c.bp=D)(a:s6 ce v c.bc.scope c.bp=D)(f:(aLc v).isSome=D)(g:(jC x).isSome=D)(d:vcS Γ E (.bY t ce) J Y Q):VS c J Y (xu (.Assign [x] v p) c.bc) Q E:=xI g λy=>xI f λw=>by
 rw [w.2]at a⊢;rw [y.2]at h⊢;have s:∃b,sZ (.ListComp w.1.1 w.1.2.1 w.1.2.2.1 w.1.2.2.2) (O<|.Name y.1.1 y.1.2) p.line c.bc=jg b:=⟨_,Z⟩;refine ka s λb s=>?_;induction b with
 |false=>exact BX ok aE h a s (Eu (λe=>nq bP e ff) λU U e=>nq hG e ff) d
 |true=>exact Ot ok aE h a s d
theorem Sl(t:CT)(d:CE):SS (.bY t d):=λ{st c Γ} ok aE e h J Y Q E b=>ey (o:=adA st) h λx h=>by
 refine rr (x.2) ?_;have a:=nL h;cases hc:y4 x.1.2.1 with
 |false=>exact Ov ok aE (nL<|nR<|nR h) (nR<|nR<|nR h) hc (nL<|nR h) b
 |true=>rw [hc]at a;exact Sk ok aE (nL<|nR<|nR h) (nR<|nR<|nR h) (nL a) (nR a) b
end
end
variable{ct:CT}
section
open SeqAt
section
variable{c:dC}
theorem DC{t:Expr}(h:(jC t).isSome=D)(x v:bb):afR t x v=jg ():=xI h λw=>by refine rr (w.2) ?_;rfl
theorem Ow{ys:List Expr}(h:zM sc c.bp ys=O [i,j]):∃a p b q,ys=[.Name a p,.Name b q]:=by
 cases nms ys h with|gu _ _ t=>
 clear h;cases t with|gu _ _ t=>
 cases t
 exact J8 _ _ _ _ Z
theorem aa2(a:CE):SS (.dw a):=λ{st c Γ} ok aE b h J Y Q E d=>ey (o:=ady st) h λw h=>by
 exact rr (w.2)<|aaF b (F1<|nt<|nL h)<|(ny a ok<|nR h).1 _ _ _ _ d
theorem aei(o:Option CE):SS (.j7 o):=λ{st c Γ} ok aE d h J Y Q E a=>ey (o:=adz st) h λw h=>by
 refine rr (w.2) ?_;generalize w.1.1=v at*;induction o with
 |none=>induction v with
  |none=>exact aaI a
  |some _=>exact nq bP h ff
 |some b=>exact ey (o:=aS v) h λy h=>by refine rr (y.2) ?_;exact adY<|(ny b ok h).1 _ _ _ _ a
theorem agz(t:CE)(a b:av)(e:Qo a)(f:Qo b):SS (.cA t a b):=λ{st c Γ} ok aE d h J Y Q E g=>ey (o:=sIf st) h λw h=>by
 exact rr (w.2)<|agr<|((ny t ok<|nL h).2 _ _ _ _ g).to λU U=>BW (e ok aE d (nL<|nR h) _ _ _ _)<|f ok aE d (nR<|nR h) _ _ _ _
theorem Xf(t:CE)(a:av)(b:Qo a):SS (.nh t a):=λ{st c Γ} ok aE d h J Y Q E e=>ey (o:=adB st) h λw h=>by
 exact rr (w.2)<|W5 ok.lJ e (λU U U v=>(ny t ok<|nL h).2 _ _ _ _ v) λU U U v=>b ok aE d (nR h) _ _ _ _ v
theorem aa3(i j:Nat)(d:CE)(b:av)(g:Qo b):SS (.BA i j d b):=λ{st c Γ} ok aE k h J Y Q E l=>ey (o:=WE st) h λw h=>ey (o:=y9 w.1.1) h λy h=>ey (o:=vH w.1.2.1) h λz h=>ey (o:=jC z.1.1) h λn h=>ey (o:=a1 z.1.2.1) h λa h=>by
 have f:=cR<|nL<|nR h;refine Bj (Ow f) λx p m q e=>rr (w.2)<|rr (y.2)<|rr (z.2)<|rr (n.2)<|rr (a.2)<|rr e ?_;exact aaU ok aE (e▸f) (nL h) (cR<|nL<|nR<|nR<|nR<|nR h) (nt<|nL<|nR<|nR<|nR<|nR<|nR h) ((ny d ok<|nL<|nR<|nR<|nR<|nR<|nR<|nR h).1 _ _ _ _ l) λU U U U U v=>g ok aE k (nR<|nR<|nR<|nR<|nR<|nR<|nR h) _ _ _ _ v
theorem aej(t:CT)(a:CE)(b:av)(d:Qo b):SS (.HG t a b):=λ{st c Γ} ok aE e h J Y Q E f=>ey (o:=WE st) h λw h=>by
 exact rr (w.2)<|ad0 ok (BV<|nt<|nL h) (DC<|nL<|nR h) ((ny a ok<|nL<|nR<|nR<|nR h).1 _ _ _ _ f) λU U U U v s u I r=>WS.cp (KO ok aE (nL<|nR<|nR h) v s u I r) (λU U U U U q=>d ok aE e (nR<|nR<|nR<|nR h) _ _ _ _ q) λU U U x=>x
theorem Xg(a:CE):SS (.pV a):=λ{st c Γ} ok aE d h J Y Q E b=>ey (o:=adC st) h λw h=>by
 exact rr (w.2)<|Xd ok<|(ny a ok h).1 _ _ _ _ b
theorem aek(b:av)(C:a8)(i:Nat)(a:av)(f:Qo b)(j:Qo a):SS (.Ed b C i a):=λ{st c Γ} ok aE d h J Y Q E e=>ey (o:=adD st) h λw h=>ey (o:=adE w.1.2.1) h λy h=>ey (o:=jC y.1.1) h λz h=>by
 refine rr (w.2)<|rr (y.2)<|rr (z.2) ?_;have g:=nR<|nR<|nR<|nR<|nR<|nR<|nR h;have k:=nL<|nR<|nR<|nR<|nR<|nR<|nR h;have l:=cR<|nL h;have m:=cR<|nL<|nR h;have n:=cR<|nL<|nR<|nR<|nR h;have p:=nt<|nL<|nR<|nR<|nR<|nR h;have q:=Ri<|nL<|nR<|nR<|nR<|nR<|nR h;clear h;clear h;generalize y.1.2.2.1=w at*;clear h;induction w with
 |nil=>exact nq bP k ff
 |cons aO w=>
  exact aee ok e.1 l m n p q (f ok aE d (nL g) _ _ _ _ e.2) λea F G r=>uj r λs dx t u tb v x=>fw x λA xs=>vA s dx t u tb v A<|j (F0 ok) ⟨aE.sco,aE.st⟩ d (nR g) _ _ _ _ xs
theorem aa4:SS .Km:=λ{st c Γ} ok aE b h J Y Q E a=>xI (o:=YJ st) h λw=>by refine rr (w.2) ?_;exact aaG a
theorem aa5:SS .mN:=λ{st c Γ} ok aE b h J Y Q E a=>xI (o:=YL st) h λw=>by refine rr (w.2) ?_;exact aaH a
theorem aa6:Qo []:=λ{s c Γ} ok aE b h J Y Q E a=>by
 induction s with
 |nil=>exact aaJ a
 |cons _ _=>exact nq bP h ff
theorem Xh(a:CS)(r:av)(d:SS a)(e:Qo r):Qo (a::r):=λ{s c Γ} ok aE b h J Y Q E f=>ey (o:=aC s) h λw h=>by
 refine rr (w.2)<|W4<|(d ok aE b (nL h) _ _ _ _ f).to λfl eP g h'=>?_;induction fl with
 |eR=>exact e ok aE b (nR h) _ _ _ _ h'
 |_=>exact h'
theorem Xi(cs:av):Qo cs:=CS.rec_1 (motive_1:=SS) (motive_2:=Qo) Sl aa2 aei agz Xf aej aa3 aa4 aa5 Xg aek aa6 Xh cs
end
end
section
open SeqAt
noncomputable def ro:lp->zE
 |.FunctionDef (args:=a) ..=>a
 |_=>default
noncomputable def Sm:lp->List lp
 |.FunctionDef (body:=b) ..=>b
 |_=>[]
noncomputable def jP:lp->Scope
 |.FunctionDef (scope:=s) ..=>s
 |_=>default
def xT(st:lp):List Str:=(ro st).args.map (·.arg)
def JO(st:lp):List Str:=((jP st).names.filter λp=>(p.2==.local||p.2==.cell)&&!(xT st).contains p.1).map (·.1)
noncomputable def F4(ps:List Str)(L dl:List bb):List (Str×bb):=((ps.drop<|ps.length-dl.length).zip dl).foldl (λsl p=>if(sl.lookup p.1).isNone then sl++[(p.1,p.2)]else sl) (ps.zip L)
def KQ(ps:List Str)(L dl:List bb):List (Str×bb):=ps.filterMap λn=>((F4 ps L dl).lookup n).map (n,·)
structure F5(p:zE):Prop where
 po:p.posonlyargs=[]
 va:p.vararg=X
 ko:p.kwonlyargs=[]
 kw:p.kwarg=X
theorem KR(f:α->β->Sem (ForInStep β))(g:β->α->β)(h:∀a b,f a b=jg (.yield<|g b a)):∀(l:List α) (b:β),(Qb l b f:Sem β)=jg (l.foldl g b):=by
 intro l0;induction l0 with
 |nil=>
  intro b;exact Z
 |cons a l ih=>
  intro b;refine rr (qe _ _ _ _)<|rr (h _ _) ?_;exact ih<|g b a
theorem Ox{l:List α}(h:l=[]):decide ((!l.isEmpty)=D)=bk:=by refine rr h ?_;rfl
theorem Sn{p:zE}(h:F5 p):p={p with posonlyargs:=[],vararg:=X,kwonlyargs:=[],kwarg:=X}:=by obtain⟨a,b,c,d,e,f,g⟩:=p;obtain⟨rfl,rfl,rfl,rfl⟩:=h;rfl
variable{dl:List bb}
theorem Oy{o:Option (Array bb)}(hp:F5 fd.params)(ho:(o.getD #[]).toList=dl)(hd:∀(M:yF) (A:kr) (E:bb->bG->Prop) (Q:Option (Array bb)->bG->Prop),Q o s->ee M A (seqItems? fd.defaults) Q E s)(h1:L.length<=(fd.params.args.map (·.arg)).length) (h0:dl.length<=(fd.params.args.map (·.arg)).length)(h2:(((fd.params.args.map (·.arg)).take ((fd.params.args.map (·.arg)).length-dl.length)).filter λn=>(((fd.params.args.map (·.arg)).zip L).lookup n).isNone)=[]):
 BindsTo s fd ⟨L,[]⟩ (KQ (fd.params.args.map (·.arg)) L dl):=λM A E Q hq=>by
 induction fd with|mk nm q pa=>
 have hp:=Sn hp;dsimp only at h1 h0 h2 hd hq;generalize pa.args=p2 at hp h1 h0 h2 hq;generalize pa.kw_defaults=p5 at hp;generalize pa.defaults=p7 at hp;subst hp;refine pb<|db (λU U k=>hd _ _ _ _ k)<|rr ho<|afT (bj λh=>cM (aI (an h).1)<|Nat.not_lt.mpr h1) ?_;show ee M A (have defaults:=dl.drop<|dl.length-(lG (λx:Arg=>x.arg) ([]:List Arg)++lG (λx=>x.arg) p2).length;_) Q E s;refine rr (by refine rr (wc h0) ?_;rfl:dl.drop (dl.length-(lG (λx:Arg=>x.arg) ([]:List Arg)++lG (λx=>x.arg) p2).length)=dl) ?_;refine afT (c:=(!(List.filter _ _).isEmpty)=D) ?_ ?_
 .exact Ox h2
 refine wpAny_bind<|V9 (KR _ (λsl p=>if(sl.lookup p.1).isNone then sl++[(p.1,p.2)]else sl) (λa b=>?_) _ _)<|bZ ?_
 .by_cases h:(pI a.1 b).isNone=D
  .exact rr (bI h)<|bI h
  .exact rr (bu h)<|bu h
 .have e:=aH (λl=>Q (l.filterMap λn=>((F4 (lG (λx:Arg=>x.arg) p2) L dl).lookup n).map (n,·)) s)<|dS<|lG (λx:Arg=>x.arg) p2;exact e.mpr hq
variable{vs:List (Str×bb)}
theorem H'{b:List (Str×bb)}(h:∀p∈vs,(b.lookup p.1).isSome=D):vs.foldl (λsl p=>if(sl.lookup p.1).isNone then sl++[(p.1,p.2)]else sl) b=b:=by
 induction vs with
 |nil=>rfl
 |cons p r i=>
  refine bL (C4) ?_;have:=h p<|.head _;have e:(b.lookup p.1).isNone=bk:=by
   cases q:b.lookup p.1 with
   |none=>replace this:=q▸this;exact nq bP this ff
   |some _=>rfl
  exact rr (bu<|by exact rr e dc)<|i λq a=>h q<|.tail _ a
theorem F6{l:List (Str×bb)}{x:Str}(h:x∉l.map (·.1)):l.lookup x=X:=by refine ri (tO) ?_;intro p a;have:x≠p.1:=λe=>h (e▸dm (f:=(·.1)) a);simpa using this
theorem So:∀{b:List (Str×bb)},((b++vs).map (·.1)).Nodup->vs.foldl (λsl p=>if(sl.lookup p.1).isNone then sl++[(p.1,p.2)]else sl) b=b++vs:=by
 induction vs with
 |nil=>intro b _;simp
 |cons p r i=>
  intro b n;refine rr (C4) ?_;have h:p.1∉b.map (·.1):=by
   rw [bN,jq]at n;intro a;exact n.2.2 _ a _ (bS) Z
  refine rr (bI<|rr (F6 h) Z)<|bL (i<|bF ..▸n) ?_;simp
theorem DD{ps:List Str}{w:List bb}(b:ps.Nodup)(h:w.length=ps.length):(ps.filterMap λn=>((ps.zip w).lookup n).map (n,·))=ps.zip w:=by
 induction ps generalizing w with
 |nil=>rfl
 |cons p ps i=>
  cases w with
  |nil=>cases h
  |cons v w=>
   replace b:=List.nodup_cons.mp b;refine bL (iJ)<|rr (bL eS (rr (beq_self_eq_true p) Z):(LU (p::ps)<|v::w).lookup p=O v) ?_;refine aH ((p,v)::·)<|bL ?_<|i b.2<|eQ h;have d:=b.1;clear i b h;show(YB (λn=>(pI n<|(p,v)::LU ps w).map (n,·)) ps)=_;generalize LU ps w=z;induction ps with
   |nil=>rfl
   |cons a l i=>
    have c:=not_or.mp<|(not_congr xq).mp d;exact bL (iJ)<|rr (i c.2)<|rr (eS)<|rr (beq_eq_false_iff_ne.mpr λe=>c.1 e.symm:(a==p)=bk)<|rr iJ rfl
theorem AN{ps:List Str}{w:List bb}(h:w.length<=ps.length):(ps.zip w).map (·.1)=ps.take w.length:=by
 induction w generalizing ps with
 |nil=>simp
 |cons v w i=>
  induction ps with
  |nil=>cases h
  |cons p ps=>exact aH (p::·)<|i<|jN h
theorem Xj{ps:List Str}{w:List bb}(h:w.length=ps.length):(ps.zip w).map (·.2)=w:=by
 induction ps generalizing w with
 |nil=>exact(i' h).symm
 |cons p ps i=>
  induction w with
  |nil=>cases h
  |cons v w=>exact aH (v::·)<|i<|eQ h
theorem Ew{ps:List Str}{r:List bb}(h:L.length<=ps.length):ps.zip (L++r)=ps.zip L++(ps.drop L.length).zip r:=by
 induction L generalizing ps with
 |nil=>simp
 |cons v L i=>
  induction ps with
  |nil=>cases h
  |cons p ps=>exact aH ((p,v)::·)<|i<|jN h
theorem Oz:∀(n:Nat) (a:List α) (b:List β),(a.zip b).drop n=(a.drop n).zip (b.drop n):=by
 intro l;induction l with
 |zero=>
  intro U U;exact Z
 |succ n i=>
  exact @λ
  |[],b=>rfl
  |_::_,[]=>by simp
  |_::a,_::b=>by simp [i a b]
theorem OA:∀(n:Nat) (a:List α) (b:List β),(a.zip b).take n=(a.take n).zip (b.take n):=by
 intro l;induction l with
 |zero=>
  intro U U;exact Z
 |succ n i=>
  exact @λ
  |[],b=>rfl
  |_::_,[]=>rfl
  |_::a,_::b=>by simp [i a b]
theorem ael{a d p:Nat}(b:a<=p)(c:d<=p)(h:p-d<=a):a+(d-(a-(p-d)))=p:=by refine ka (JJ c) λk z=>?_;obtain rfl:=z;rw [tX]at h⊢;refine ka (JJ h) λj z=>?_;obtain rfl:=z;exact rr (tX _ _)<|rr (ku _ _ _)<|rr (iL<|si<|aD b<|cC<|fO d k)<|fO _ _
theorem OB{ps:List Str}(n:ps.Nodup)(h:L.length<=ps.length)(d:dl.length<=ps.length)(a:ps.length-dl.length<=L.length):
 KQ ps L dl=ps.zip (L++dl.drop (L.length-(ps.length-dl.length))):=by
 have c:(L++dl.drop (L.length-(ps.length-dl.length))).length=ps.length:=by refine bL (aY)<|rr (gw) ?_;exact ael h d a
 have f:F4 ps L dl=ps.zip (L++dl.drop (L.length-(ps.length-dl.length))):=by
  unfold F4;have s:=H' (vs:=((ps.drop<|ps.length-dl.length).zip dl).take<|L.length-(ps.length-dl.length)) (b:=ps.zip L) (by
   intro p g;have i:=(List.of_mem_zip<|(OA _ _ _)▸g).1;refine mm ((AN h)▸(List.mem_of_mem_drop ((iL a)▸(List.take_drop)▸i):p.1∈ps.take L.length)) λq j e=>?_;cases z:(ps.zip L).lookup p.1 with
   |some _=>rfl
   |none=>
    rw [tO]at z;have:=z q j;replace this:=e▸this;simp at this)
  refine rr ((hO ..).symm:(ps.drop<|ps.length-dl.length).zip dl=((ps.drop<|ps.length-dl.length).zip dl).take (L.length-(ps.length-dl.length))++((ps.drop<|ps.length-dl.length).zip dl).drop (L.length-(ps.length-dl.length)))<|bL (Qz)<|rr s<|rr (Oz _ _ _)<|rr (wt)<|rr (iL a)<|rr (Ew h) ?_;refine So<|rl (Ew h)<|rr (AN<|cC c)<|rr c<|rr (dD) ?_;exact n
 unfold KQ;exact rr f<|DD n c
end
variable{dl:List bb} {vs:List (Str×bb)}
section
open SeqAt
structure Zc(g:Gd)(f:a8)(st:lp)(ds:aw):Prop where
 fn:∃qual fd yE,Q0 g.K f qual (ro st) (Sm st) (jP st) ds fd yE
 kp:A8 g.K (.ref f)=D
def Ey(st:lp):Bool:=
 (jP st).kind==.function&&!(jP st).isCoroutine&&!(jP st).isGenerator&&
 ((xT st).all λy=>(jP st).names.lookup y==O .local||(jP st).names.lookup y==O .cell)&&
 decide ((fy 0 (jP st).names []).map (·.1)).Nodup&&
 ((fy 0 (jP st).names []).all λp=>(jP st).names.lookup p.1==O .cell)&&
 decide (xT st++JO st).Nodup&&
 ((xT st++JO st).all λy=>(jP st).names.lookup y==O .local||((jP st).names.lookup y==O .cell&&((fy 0 (jP st).names []).lookup y).isSome))&&
 ((xT st++JO st).all λy=>!(y==("__debug__":Str))&&!(y==("__classdict__":Str)))&&
 (ro st).posonlyargs.isEmpty&&(ro st).vararg.isNone&&(ro st).kwonlyargs.isEmpty&&(ro st).kwarg.isNone
theorem KS{st:lp}(h:Ey st=D):aah (jP st) (xT st) (JO st)/\F5 (ro st):=by unfold Ey at h;simp only [eT,beq_iff_eq,decide_eq_true_eq,sf,List.isEmpty_iff,Option.isNone_iff_eq_none]at h;obtain⟨⟨⟨⟨⟨⟨⟨⟨⟨⟨⟨⟨a1,a⟩,b⟩,c⟩,d⟩,e⟩,f⟩,g⟩,i⟩,j⟩,k⟩,l⟩,m⟩:=h;exact⟨⟨a1,a,b,c,d,e,f,g,i⟩,⟨j,k,l,m⟩⟩
theorem sy.def{f:a8}{st:lp}{code:av}{E:Ex}(b:Zc g f st ds)(P:KF g)(t:Ey st=D)(R:N6 code (Sm st) (jP st) (xT st++JO st)=D) (W:args.length<=(xT st).length/\ds.length<=(xT st).length/\(xT st).length<=args.length+ds.length) (i:args++ds.drop (args.length-((xT st).length-ds.length))=args')(h:iy ⟨g,hd,n⟩ (kU E) code (args'.map O++bg (JO st).length X) Y (yZ Q)):sy ⟨g,hd,n+1⟩ (.S f) args Y Q E:=by
 refine fw (KS t) λxs aG=>xA (b.fn) λu fd v F=>m7 W λσ l j=>have k:=F;n4 (k.fd_) λname dV kV doc pm an ct hfd=>?_;have p:fd.params=ro st:=by exact rr hfd Z
 refine sy.Wx (args':=args') F (Ww b.kp) xs (λL s r K=>?_) λA vs room aZ=>?_
 .have lv:=r.ez;have key:∃dl:List bb,eX s.heap ds dl/\∃o:Option (Array bb),(o.getD #[]).toList=dl/\∀(M:yF) (A:kr) (E:bb->bG->Prop) (Q:Option (Array bb)->bG->Prop),Q o s->ee M A (seqItems? fd.defaults) Q E s:=by
   have tv:=F.tv;clear F k b l j;clear h i;induction ds with
   |nil=>
    dsimp only at tv;exact J7 [] iA X Z (λM A E Q q=>by refine rr tv ?_;exact bZ q)
   |cons d r=>
    dsimp only at tv;exact n0 tv λT oc od m sl aB e1 C=>fw C λe2 e3=>J7 aB (e3 s.heap K) (O aB.toArray) Z (λM A E Q q=>by refine rr e1 ?_;exact yG (K _ _ e2) Z q)
  refine cK key λdl rd t7=>cK t7 λo ho agA=>have aO:=rd.ez;have a1:=aD (cC lv) σ;have G:=aD (cC aO) l;have H:(xT st).length-dl.length<=L.length:=Nat.sub_le_of_le_add (by refine rr lv<|rr aO ?_;exact j);?_;have I:=Oy (s:=s) (fd:=fd) (L:=L) (dl:=dl) (o:=o) (p▸aG) ho agA (rr p a1) (rr p G) (by
   refine rr p<|ri (List.filter_eq_nil_iff) ?_;intro y hy;have hy':y∈((xT st).zip L).map (·.1):=by
    exact rr (AN a1)<|(List.take_sublist_take_left H).subset hy
   refine mm hy' λq hq e=>?_;show¬(pI y<|(xT st).zip L).isNone=D;clear F k b l j;clear h i;cases z:((xT st).zip L).lookup y with
   |some _=>simp
   |none=>
    rw [tO]at z;have:=z q hq;replace this:=e▸this;simp at this)
  replace I:=p▸I;have ρ:(L++dl.drop (L.length-((xT st).length-dl.length))).length=(xT st).length:=by refine bL (aY)<|rr (gw) ?_;exact ael a1 G H
  refine fW _ ((OB (ps:=xT st) (L:=L) (dl:=dl) ((List.nodup_append.mp xs.nb).1:(xT st).Nodup) a1 G H)▸I) ?_ ?_
  .exact rr (AN<|cC ρ)<|rr ρ<|rr (dD) Z
  .refine rr (Xj ρ) ?_;clear F k b l j;clear h;subst i;refine rl lv<|rl aO ?_;exact r.oL<|rd.QO _
 .have aE:Sc (Aj g A f u (jP st) v (xT st++JO st) vs) (jP st):=⟨Z,λx hx w=>by
   clear F k b l j;clear h;refine bV (aZ.rj x hx) (λq=>?_) λC=>xy C λq a i=>?_
   .exact .inl q
   .have t:(Aj g A f u (jP st) v (xT st++JO st) vs).bc.kindOf x=(jP st).names.lookup x:=rfl;replace q:=t▸q;unfold BJ at w;refine bV q (λq=>?_) λq=>?_
    .exact .inr (Bl (t.trans q) a i (dm (f:=(·.2))<|eI i))
    .replace w:=q▸w;exact nq bP w ff⟩
  have hi:Hj (Aj g A f u (jP st) v (xT st++JO st) vs).bc=bk:=by
   show((jP st).kind==.module&&_)=bk;exact rr (xs.fn) Z
  exact Xi code (c:=Aj g A f u (jP st) v (xT st++JO st) vs) (Γ:=⟨g,hd,n⟩) ⟨aZ,Z,room,P⟩ aE hi R _ _ _ _ h
end
open PySem.NumText
section
open SeqAt
section
variable{E:Ex}
theorem eM.qt(i:iO g A Y s)(q:Qt s s'):eM g A Y s Y s':=⟨i.qt q,q.tR _ _,λb k h=>.inl ⟨k,h⟩,q.os⟩
def noE:bb->bG->Prop:=λU U=>False
theorem bE.F7{f:V}{u:V}(a:FA f=D)(k:Kp Γ.g (xC f))(q:Q u Y)(h:∀A s L,iO Γ.g A Y s->pT A Γ.hd Γ.n->eX s.heap args L->ee (gy PR Γ.g.w) A (call (xC f) L) (λv s'=>Qt s s'/\cY s'.heap u v) noE s):bE Γ f args Y Q E:=(dW a k λA s L i r e=>wpAny_mono (h A s L i r e) (λv s' y=>fw y λqt b=>⟨Y,u,.qt i qt,b,q⟩) λU U x=>x.elim)
theorem bE.DE{f:String}{a u:V}(q:Q u Y)(h:∀A s v,iO Γ.g A Y s->pT A Γ.hd Γ.n->cY s.heap a v->ee (gy PR Γ.g.w) A (call (.builtin f) [v]) (λv s'=>Qt s s'/\cY s'.heap u v) noE s):bE Γ (.eH f) [a] Y Q E:=
 .F7 Z (mL f) q λA s L i r e=>by
  exact n6 e λv d b c=>rr (fP c)<|h A s v i r b
theorem bE.OC{f:String}{a u:V}(q:Q u Y)(h:∀A s v,iO Γ.g A Y s->pT A Γ.hd Γ.n->cY s.heap a v->ee (gy PR Γ.g.w) A (call (.type f) [v]) (λv s'=>Qt s s'/\cY s'.heap u v) noE s):bE Γ (.fK f) [a] Y Q E:=
 .F7 Z (AK f) q λA s L i r e=>by
  exact n6 e λv d b c=>rr (fP c)<|h A s v i r b
theorem bE.Sp{f:String}{a b u:V}(q:Q u Y)(h:∀A s v w,iO Γ.g A Y s->pT A Γ.hd Γ.n->cY s.heap a v->cY s.heap b w->ee (gy PR Γ.g.w) A (call (.builtin f) [v,w]) (λv s'=>Qt s s'/\cY s'.heap u v) noE s):bE Γ (.eH f) [a,b] Y Q E:=
 .F7 Z (mL f) q λA s L i r e=>by
  refine n6 e λv j d c=>?_;obtain⟨w,k,rfl,rb,c⟩:=kb c;exact rr (fP c)<|h A s v w i r d rb
theorem Sr(h:n<=cE):(n:Int)<2^63:=by rw [fA]at h;lia
theorem jQ{x:a8}(h:Y x=O (.aF B))(q:Q (.aL B.length) Y):bE Γ (.eH "len") [.S x] Y Q E:=
 .DE q λA s v i r a=>by
  refine rr (fG a)<|i.zJ h λL n e rl z=>call_len_list (lR _ e Z n Z) (Sr<|z) ⟨.m9 s _,?_⟩;exact rr (show((L.toArray.size:Nat):Int)=(B.length:Int) by simp [rl.ez]) gW
theorem ei{x:a8}(h:Y x=O (.aF B))(e:B.length=m)(q:Q (.aL m) Y):bE Γ (.eH "len") [.S x] Y Q E:=jQ h<|e▸q
theorem l7{l:aq}(q:Q (.aL l.length) Y):bE Γ (.eH "len") [.aQ l] Y Q E:=
 .DE q λA s v i r a=>by
  refine D' a λt=>have e:(tx l).length=l.length:=rfl;len_str (by have:=Sr<|th a;exact wj ‹_›) ⟨.m9 s _,?_⟩;exact gW
theorem OD(q:Q (.aL B.length) Y):bE Γ (.eH "len") [.bD B] Y Q E:=
 .DE q λA s v i r b=>by
  refine Wm b λa L h rl z=>len_tuple h (Sr<|z) ⟨.m9 s _,?_⟩;exact rr (show((L.toArray.size:Nat):Int)=(B.length:Int) by simp [rl.ez]) gW
theorem BY{x:a8}{kv:ak}(h:Y x=O (.cQ kv))(b:kv.length<=1000000)(q:Q (.aL kv.length) Y):bE Γ (.eH "len") [.S x] Y Q E:=
 .DE q λA s v i r a=>by
  refine rr (fG a)<|gU (i.gD _ _ h) λkvs d rl z ns=>have l:=rl.ez;call_len_dict (knd:=Bs Γ.g.w) ns d (by lia) ⟨.m9 s _,?_⟩;exact rr (show(kvs.length:Int)=(kv.length:Int) by exact rr l Z) gW
theorem ME{n:Int}(h:-(cE:Int)<=n)(h':n<=cE)(q:Q (.wk 0 n) Y):bE Γ (.fK "range") [.aL n] Y Q E:=
 .OC q λA s v i r a=>by
  obtain⟨t,rfl⟩:=rh a;refine call_range_1 ⟨.nf s _ _,?_⟩;exact qo _ _ _ _ Z (IsRange.new ..)<|JB (fb 0) ⟨dc,h,h'⟩
theorem uL{n:Int}(q:Q (.aL n) Y):bE Γ (.fK "int") [.aL n] Y Q E:=
 .OC q λA s v i r a=>by
  exact Ah a λt=>call_int_int ⟨.cL s,gW⟩
theorem BZ(q:Q (.aL<|if b then 1 else 0) Y):bE Γ (.fK "int") [.du b] Y Q E:=
 .OC q λA s v i r a=>by
  exact rr (su a)<|call_int_bool ⟨.m9 s _,gW⟩
noncomputable def eF(n:Int):aq:=(qT<|toString n).cps.toList
theorem xU{n:Int}(h:n.natAbs.log2<1920)(a:(eF n).length<=cE)(q:Q (.aQ<|eF n) Y):bE Γ (.fK "str") [.aL n] Y Q E:=
 .OC q λA s v i r b=>by
  obtain⟨t,rfl⟩:=rh b;exact PySem.P.str_of_int h ⟨.m9 s _,L1<|a⟩
theorem OE{l:aq}(hd:∀d∈l,48<=d/\d<=57)(h:l≠[])(a:l.length<=640)(q:Q (.aL<|digitsVal l) Y):bE Γ (.fK "int") [.aQ l] Y Q E:=
 .OC q λA s v i r b=>by
  obtain⟨t,rfl⟩:=AG b;refine PySem.W.KIN.call_text (n:=digitsVal l) (x:=tx l) ?_ (a) ⟨.m9 s _,gW⟩;have:=intText_digits (x:=tx l) (hd) (h) (by simp [tx,Ff];exact aD ‹_› dc);exact this
theorem Zd{n:Int}(q:Q (.aL<|if n<0 then-n else n) Y):bE Γ (.eH "abs") [.aL n] Y Q E:=
 .DE q λA s v i r a=>by
  exact Ah a λt=>call_abs_int λu tk=>⟨.m9 s _,gW⟩
theorem aem{d:Nat}(q:Q (.aL d) Y):bE Γ (.eH "ord") [.aQ [d]] Y Q E:=
 .DE q λA s v i r a=>by
  obtain⟨t,rfl⟩:=AG a;exact ord_of_one Z ⟨.m9 s _,gW⟩
theorem aen{n:Int}(h:0<=n)(a:n<=1114111)(q:Q (.aQ [n.toNat]) Y):bE Γ (.eH "chr") [.aL n] Y Q E:=
 .DE q λA s v i r b=>by
  obtain⟨t,rfl⟩:=rh b;exact chr_of_range h a ⟨.m9 s _,qq (by show 1<=cE;exact dc)⟩
end
end
section
open SeqAt
variable{Tx:String} {tp:a8}
section
variable{w:fZ}
theorem B0{P:bG->Prop}(c:∀s tk,P s->P {s with toks:=tk}){x:bb}{cs:List bb}{L:List Bool}{tk:Tok}{Q:Fin->bG->Prop}{dd:Option a8}{nn:Nat}{sl:Array (Option bb)}(j:s.TypeIs x Tx) (e:s.heap.get? tp=O {cls:=.type "tuple",dict:=dd,data:=.seq cs.toArray nn,slots:=sl}) (f:AnswersAll P x cs L) (i:P s)(b:∀a,Q (.done<|.ret<|.bool<|L.any id) {s with toks:=a}):ee (gy prog w) A (qO.«isinstance.nested» ⟨[x,.ref tp,.int 0 tk],[]⟩) Q E s:=by
 obtain⟨h,g,d,t,o⟩:=s;have k:(⟨h,g,d,t,o⟩:bG).TypeIs (.ref tp) "tuple":=bX _ e Z;have l:=F.isi_sub_tuple
 repeat(any_goals(first|assumption|wp_step))
 refine wpAny_arrayLoop<|isinstance_items (dep:=0) c cs L _ _ f i λa=>?_;cases hv:L.any id with
 |true=>
  repeat(any_goals(first|assumption|wp_step))
  exact hv▸b a
 |false=>
  repeat(any_goals(first|assumption|wp_step))
  exact hv▸b a
theorem Xk{x:bb}{cs:List bb}{L:List Bool}{Q:bb->bG->Prop}(c:AnswersAll (λs=>s.TypeIs x Tx) x cs L)(d:s.TypeIs x Tx)(e:Aw s.heap tp cs.toArray)(h:∀tk,Q (.bool<|L.any id) {s with toks:=tk}):
 ee (gy prog w) A (call (.builtin "isinstance") [x,.ref tp]) Q E s:=by
 refine rO e λz f b n hd=>?_;obtain⟨i,od,j,o⟩:=z;dsimp only at b hd;subst b hd;have g:Meets (qO.«isinstance» ⟨[x,.ref tp],[]⟩) (λU R s=>s.TypeIs x Tx/\s.heap.get? tp=O {cls:=.type "tuple",dict:=od,data:=.seq cs.toArray n,slots:=o}/\∀t,R (.ok<|.ret<|.bool<|L.any id) {s with toks:=t}):=
  λU U U U U a=>ade (B0 (P:=λs=>s.TypeIs x Tx) (λs tk h=>Shared.TypeIs.toks tk h) a.1 a.2.1 c a.1 a.2.2)<|wu a.1
 exact afU g<|dW d f h
end
noncomputable def tyV(Y:N):V->Option String
 |.bR=>O "NoneType"
 |.aL _=>O "int"
 |.aQ _=>O "str"
 |.bD _=>O "tuple"
 |.S x=>match Y x with
  |some (.aF _)=>O "list"
  |_=>X
 |_=>X
noncomputable def Ze(T:String):Bool:=T=="int"||T=="str"||T=="tuple"||T=="list"
section
variable{E:Ex}
theorem aa7{x:a8}(h:tyV Y (.S x)=O Tx):Tx="list"/\∃B,Y x=O (.aF B):=by
 have h:(match Y x with|some (.aF _)=>O "list"|_=>X)=O Tx:=h;cases e:Y x with
 |none=>replace h:=e▸h;exact nq aP h ff
 |some k=>
  replace h:=e▸h;clear e;induction k with
  |aF B=>exact rP (aJ h).symm B Z
  |_=>exact nq aP h ff
theorem KU{a:V}(i:iO Γ.g A Y s)(h:tyV Y a=O Tx)(r:cY s.heap a v):s.TypeIs v Tx/\ ((Tx="NoneType"/\v=.none)\/(Tx="int"/\∃n t,v=.int n t)\/(Tx="str"/\∃x t,v=.str x t)\/(Tx="tuple"/\∃p o,v=.ref p/\s.heap.get? p=O o/\o.cls=.type "tuple")\/(Tx="list"/\∃p o,v=.ref p/\s.heap.get? p=O o/\o.cls=.type "list")):=by
 cases a with
 |bR=>obtain rfl:=aJ h;obtain rfl:=qp r;exact⟨Z,.inl ⟨Z,Z⟩⟩
 |aL n=>obtain rfl:=aJ h;(refine Ah r λt=>?_);exact⟨Z,.inr<|.inl<|tQ Z _ _ Z⟩
 |aQ l=>obtain rfl:=aJ h;(refine D' r λt=>?_);exact⟨Z,.inr<|.inr<|.inl<|tQ Z _ _ Z⟩
 |bD B=>obtain rfl:=aJ h;(refine Wm r λp L z U U=>?_;refine rO z λo b c n hd=>?_);exact⟨bX o b c,.inr<|.inr<|.inr<|.inl<|tQ Z p o<|dW Z b c⟩
 |S x=>
  obtain rfl:=fG r;refine xy (aa7 h) λf B e=>?_;obtain rfl:=f;exact i.zJ e λL n d U U=>⟨bX _ d Z,.inr<|.inr<|.inr<|.inr<|tQ Z x _<|dW Z d Z⟩
 |_=>exact nq aP h ff
theorem agB{a b:String}(c:a="NoneType"\/a="int"\/a="str"\/a="tuple"\/a="list")(h:Ze b=D):isSubtype (.type a) (.type b)=jg (a==b):=by
 simp only [Ze,hX,beq_iff_eq]at h
 rcases c with rfl|rfl|rfl|rfl|rfl<;>rcases h with((rfl|rfl)|rfl)|rfl<;>(kernel_rfl)
theorem Ez{b:String}(h:Ze b=D):Qu (.type b)=jg (.type "type"):=by
 simp only [Ze,hX,beq_iff_eq]at h
 rcases h with((rfl|rfl)|rfl)|rfl<;>kernel_rfl
theorem ans{a:V}{T:String}(i:iO Γ.g A Y s)(h:tyV Y a=O Tx)(r:cY s.heap a v)(c:Ze T=D):Answers (λs=>s.TypeIs v Tx) v (.type T) (Tx==T):=by
 refine fw (KU i h r) λj cs=>?_;have k:Tx="NoneType"\/Tx="int"\/Tx="str"\/Tx="tuple"\/Tx="list":=by
  clear h j r;refine bV cs (λz=>fw z λe U=>?_) λl=>bV l (λm=>fw m λe U=>?_) λq=>bV q (λu=>fw u λe U=>?_) λw=>bV w (λy=>fw y λe U=>?_) λxs=>fw xs λe U=>?_<;>simp [e]
 have b:=agB k c;clear h k j r;cases d:Tx==T with
 |true=>exact .of_true (Ez c)<|d▸b
 |false=>
  have f:(adf Tx==adf T)=bk:=by
   refine beq_eq_false_iff_ne.mpr λe=>?_;injection e with e
   replace d:=e▸d;simp at d
  replace b:=d▸b;clear d
  rcases cs with⟨e,e2⟩|⟨e,n,t,e2⟩|⟨e,x,t,e2⟩|⟨e,p,o,e2,_⟩|⟨e,p,o,e2,_⟩
  .subst e e2;exact .of_false_none f (Ez c) b
  .subst e e2;exact .of_false_int f (Ez c) b
  .subst e e2;exact .of_false_str f (Ez c) b
  .subst e e2;exact .of_false_tuple f (Ez c) b
  .subst e e2;exact .of_false_list f (Ez c) b
theorem kz{a:V}{T:String}(h:tyV Y a=O Tx)(d:Ze T=D)(q:Q (.du<|Tx==T) Y):bE Γ (.eH "isinstance") [a,.fK T] Y Q E:=
 .Sp q λA s v w i r b rb=>by
  refine rr (vD rb) ?_;have g:Meets (qO.«isinstance» ⟨[v,.type T],[]⟩) (λU R s=>s.TypeIs v Tx/\∀t,R (.ok<|.ret<|.bool<|Tx==T) {s with toks:=t}):=
   λU U U U U c=>ade ((ans i h b d) 0 0 _ _ _ _ _ c)<|wu c.1
  exact afU g ⟨(KU i h b).1,λt=>⟨.m9 s _,tl⟩⟩
theorem B1{a:V}{T1 T2:String}(h:tyV Y a=O Tx)(c:Ze T1=D)(d:Ze T2=D)(q:Q (.du<|Tx==T1||Tx==T2) Y):bE Γ (.eH "isinstance") [a,.bD [.fK T1,.fK T2]] Y Q E:=
 .Sp q λA s v w i r b rb=>by
  refine e9 (xB rb) λt L z e rl f=>?_;clear f;obtain rfl:=z;clear rb;obtain⟨k,l,rfl,r1,rl⟩:=kb rl;obtain⟨m,n,rfl,g,rl⟩:=kb rl;obtain rfl:=fP rl;clear rl;obtain rfl:=vD r1;clear r1 rl;clear rl;obtain rfl:=vD g;have j:=(KU i h b).1;refine Xk (L:=[Tx==T1,Tx==T2]) (JX (ans i h b c)<|JX (ans i h b d) AnswersAll.nil) j e λtk=>⟨.m9 s _,?_⟩;simp only [Z1,List.any_nil,id,Hk];exact tl
end
end
variable{Tx:String} {tp:a8}
section
open SeqAt
section
variable{E:Ex}
theorem bE.mut{f:String}{u:V}{x:a8}(d:Y x=O (.aF B))(q:Q u (Y.aX x<|.aF ys))(h:∀A s L a n,iO Γ.g A Y s->eX s.heap args L->s.heap.get? x=O {cls:=.type "list",data:=.seq (iZ a) n}->eX s.heap B a->a.length<=cE->
  ee (gy PR Γ.g.w) A (call (.builtin f) L) (λv s'=>∃h' b c,s'={s with heap:=h',toks:=s'.toks}/\f7 x s.heap h'/\h'.get? x=O {cls:=.type "list",data:=.seq (iZ b) c}/\eX s.heap ys b/\b.length<=cE/\cY s.heap u v) noE s):bE Γ (.eH f) args Y Q E:=
 (dW Z (mL f) (λA s L i r e=>by
  refine i.zJ d λa n j rl z=>wpAny_mono (h A s L a n i e j rl z) (λv s' k=>?_) λU U x=>x.elim;refine l5 k λh' b c es l m p t=>fw t λy xs=>?_;have st:eM Γ.g A Y s (Y.aX x<|.aF ys) {s with heap:=h',toks:=s'.toks}:=.Bw i d x (.inl Z) l (λik=>fe b c m (p.cp ik) y) Z (λo e=>by exact nq Internal.cP.ctorIdx e ff);exact rr es<|⟨_,u,st,xs.cp (st.tR.2.1:IK s.heap h'),q⟩))
theorem OF{y:α}:∀(us:List α),(us++[y]).eraseIdx us.length=us:=by
 intro l;induction l with
 |nil=>
  exact Z
 |cons u us i=>
  simp [i]
theorem Ia{a b:Array bb}(h:a=b):({cls:=.type "list",data:=.seq a n}:Obj)={cls:=.type "list",data:=.seq b n}:=by exact rr h Z
theorem jR{x:a8}{v:V}(h:Y x=O (.aF B))(g:B.length<cE)(q:Q .bR (Y.aX x<|.aF<|B++[v])):bE Γ (.eH "list.append") [.S x,v] Y Q E:=
 .mut h q λA s L w n i r e rl z=>by
  obtain⟨j,k,rfl,r1,r⟩:=kb r;obtain⟨a,m,rfl,b,r⟩:=kb r;exact rr (fP r)<|rr (fG r1)<|have l:=rl.ez;Qe ⟨n,e⟩ (λh' y c=>ka y λd f=>ja h' (w++[a]) d Z c (by simpa using f) (rl.jO b) ⟨by simp;lia,oD⟩) (z)
theorem aeo{x:a8}{v:V}(h:Y x=O (.aF<|B++[v]))(q:Q v (Y.aX x<|.aF B)):bE Γ (.eH "list.pop") [.S x] Y Q E:=
 .mut h q λA s L w n i r e rl z=>by
  obtain⟨f,g,rfl,r1,r⟩:=kb r;obtain rfl:=fP r;obtain rfl:=fG r1;refine fE (rl.Wn) λus j a b rb=>?_;obtain rfl:=a;refine rlc rb λy k a c d=>?_;obtain rfl:=a;obtain rfl:=fP d;refine qm F.slot_list_pop (bX _ e Z) F.entry_list_pop (F.args_list_pop_1 _) (PySem.MeetsSeq.list_pop_last x _ n y (by simp:(us++[y]).toArray[(us++[y]).toArray.size-1]?=O y)<|z) ⟨e,?_⟩;refine ja _ us _ Z (gF ..) ((eV _ e Z).trans<|aH O<|Ia<|show Array.eraseIdxIfInBounds _ _=us.toArray by simp [OF]) b ⟨by simp at z;exact dH ‹_›,c⟩
theorem Ss{x:a8}(h:Y x=O (.aF B))(c:Y y=O (.aF ys))(j:B.length+ys.length<=100000)(q:Q .bR (Y.aX x<|.aF<|B++ys)):bE Γ (.eH "list.extend") [.S x,.S y] Y Q E:=
 .mut h q λA s L w n i r a rl z=>by
  obtain⟨v,k,rfl,r1,r⟩:=kb r;obtain⟨o,p,rfl,d,r⟩:=kb r;refine rr (fP r)<|rr (fG r1)<|rr (fG d)<|i.zJ c λus m f b t=>have l:=rl.ez;have u:=b.ez;?_;have g:¬(!w.toArray.isEmpty&&qf (w.toArray.size+us.toArray.size))=D:=by
   have e:qf (w.toArray.size+us.toArray.size)=bk:=by
    unfold qf;simp only [g6,decide_eq_false_iff_not];refine rr fA ?_;lia
   refine rr e<|rr (kP _) ?_;exact dc
  refine qm F.slot_list_extend (bX _ a Z) F.entry_list_extend (F.args_list_extend_2 _ _) (AutoSeq1.list_extend_list_list_0 x _ n y _ m g (z) (by simp;refine rr fA ?_;lia))<|dW a f ?_;exact ja _ (w++us) _ Z (gF ..) ((eV _ a Z).trans<|aH O<|Ia<|show _++_=(w++us).toArray by simp) (rl.oL b) ⟨by simp;refine rr fA ?_;lia,oD⟩
theorem Su(q:∀r,Y r=X->Q (.S r) (Y.aX r<|.aF B)):bE Γ (.fK "list") [.bD B] Y Q E:=
 (dW Z (AK _) (λA s L i r e=>by
  refine n6 e λv k r1 b=>rr (fP b)<|Wm r1 λt w c rl z=>rO c λo d f n hd=>call_list_seq t (.inr Z) d f hd (λh' c' h j=>?_)<|z;have st:eM Γ.g A Y s (Y.aX s.heap.objs.size<|.aF B) {s with heap:=h'}:=.oE i ⟨h,Z,Z⟩ (dZ s.heap) (fe w c' j (rl.cp λa o e U=>h a o e) z) Z;exact⟨_,.S _,st,jk,q _<|i.gx<|dZ s.heap⟩))
theorem MF{x:a8}(h:Y x=O (.aF B))(q:Q (.bD B) Y):bE Γ (.fK "tuple") [.S x] Y Q E:=
 .OC q λA s v i r a=>by
  refine rr (fG a)<|i.zJ h λw n c rl z=>call_tuple_list (lR _ c Z n Z) (λh' d=>?_)<|z;have q:Qt s {s with heap:=h'.push {cls:=.type "tuple",data:=.seq w.toArray}}:=⟨λb o e=>bM _<|d b o e,Z,Z⟩;exact⟨q,Bq (lR _ (cJ _ Z) Z _ Z) (rl.cp q.ik) z⟩
end
end
section
open SeqAt
open PySem.Builtin
open PySem.Builtin.Str
noncomputable def bQ(l:aa):aw:=l.map .aQ
noncomputable def iC(sep:aq):aa->aq
 |[]=>[]
 |[x]=>x
 |x::r=>x++sep++iC sep r
variable{sep:aq}
section
variable{E:Ex}
theorem aep:∀{l:aa} {L:List bb},eX h (bQ l) L->∃q:List (Str×Tok),L=Fg q/\q.map (·.1)=l.map tx:=by
 intro a;induction a with
 |nil=>
  intro L r;exact bX [] (fP r) Z
 |cons x l i=>
  intro L r;exact n6 r λv c r1 b=>D' r1 λt=>cK (i b) λq z e=>rr z<|(bX ((tx x,t)::q) Z<|by simp [e])
theorem aeq:∀{l:aa} {q:List (Str×Tok)},(∀x∈l,x.length<=cE)->q.map (·.1)=l.map tx->eX h (bQ l) (Fg q):=by
 intro a;induction a with
 |nil=>
  exact @λ
  |[],_,_=>iA
  |_::_,_,e=>by exact nq ek e ff
 |cons x l i=>
  exact @λ
  |(y,t)::q,hz,e=>by
   simp only [eL,List.cons.injEq]at e;obtain⟨rfl,e⟩:=e;exact fQ (qq<|hz x<|.head _)<|i (λz b=>hz z<|.tail _ b) e
  |[],_,e=>by exact nq ek e ff
theorem wY(s x:aq)(r:aa):iC s (x::r)=x++(r.map (s++·)).flatten:=by
 induction r generalizing x with
 |nil=>exact(dS x).symm
 |cons y r i=>
  show x++s++iC s (y::r)=x++(s++y++(r.map (s++·)).flatten);exact rr (i y)<|rr (bF ..)<|rr (bF s y _) Z
theorem OG(s:aq):∀(r:aa) (a:Array Nat),(r.map tx).foldl (λb p=>b++(tx s).cps++p.cps) a=a++((r.map (s++·)).flatten).toArray:=by
 intro l;induction l with
 |nil=>
  intro a;rfl
 |cons y r i=>
  intro a;refine bL (i _) ?_;apply ac5;simp
theorem Sv(s:aq)(l:aa):Txt.join (tx s) (l.map tx)=tx (iC s l):=by
 unfold Txt.join glued;induction l with
 |nil=>rfl
 |cons x r=>
  refine rr (wY _ _ _)<|rr (OG _ _ _) ?_;simp
theorem Sw(k:Nat):∀(l:aa) (b:Nat),(l.map tx).foldl (λa (x:Str)=>a+x.length+k) b=b+(l.map bW).sum+l.length*k:=by
 intro c;induction c with
 |nil=>
  intro b;simp
 |cons x l i=>
  intro b;refine bL (C4)<|bL (i _)<|rr (vC _) ?_;simp only [eL,i1,gP,C5];lia
theorem mW(s:aq)(l:aa):(iC s l).length<=(l.map bW).sum+l.length*s.length:=by
 induction l with
 |nil=>exact dA _
 |cons x r i=>
  induction r with
  |nil=>exact d7 x.length _
  |cons y r=>
   show(x++s++iC s (y::r)).length<=_;refine rr (aY)<|rr (aY)<|rr (C5 _ _ _)<|rr (NR _)<|rr (ku _ _ _)<|rr (ku _ _ _) ?_;exact eZ (by refine rl (ku _ _ _)<|rr (fO _ _) ?_;exact cG i _) _
theorem KV{x y p:Str}(h:p∈Txt.split x y):p.length<=x.length:=by
 unfold Txt.split at h;split at h
 .simp at h;exact rr h<|bO _
 .split at h
  .simp at h;exact rr h<|bO _
  .unfold partsBetween at h;exact vB h λq U=>strSub_length_le ..
theorem Ib(x y:Str):(Txt.split x y).length<=x.length+2:=by
 unfold Txt.split;split
 .simp
 .split
  .simp
  .refine rr (PySem.length_partsBetween _ _ _) ?_;have:=PySem.StrLaws.occ_length_le x y 0 x.length<|x.length+1;exact cg ‹_›
theorem tC{x:a8}{l:aa}(h:Y x=O (.aF<|bQ l))(f:(l.map bW).sum+l.length*sep.length<=10000000)(q:Q (.aQ<|iC sep l) Y):bE Γ (.eH "str.join") [.aQ sep,.S x] Y Q E:=
 .Sp q λA s v w i r b rb=>by
  refine D' b λt=>rr (fG rb)<|i.zJ h λg n c rl z=>cK (aep rl) λj d e=>?_;obtain rfl:=d;refine SC.join (lR _ c Z n Z) e ?_ λt' k=>⟨.m9 s _,?_⟩
  .unfold JoinOk;rw [(by rw [<-Sw];simp:(l.map tx).toArray.foldl (λa (x:Str)=>a+x.length+(tx sep).length) 0=0+(l.map bW).sum+l.length*(tx sep).length)];refine rr (vC _) ?_;unfold tooLong;simp only [sf,decide_eq_false_iff_not];refine rr fA ?_;lia
  .refine rr (Sv _ _)<|qq ?_;have:=mW sep l;exact aD ‹_› (aD ‹_› dc)
theorem MG{l:aq}(hne:sep≠[])(hz:l.length<=1000000)(q:∀r,Y r=X->Q (.S r) (Y.aX r (.aF (bQ ((Txt.split (tx l) (tx sep)).map (·.cps.toList)))))):bE Γ (.eH "str.split") [.aQ l,.aQ sep] Y Q E:=
 (dW Z (mL _) (λA s L i r e=>by
  refine n6 e λv1 vs1 r1 rn=>?_;obtain⟨v2,vs2,rfl,r2,rn⟩:=kb rn;refine rr (fP rn)<|D' r1 λt=>D' r2 λu=>?_;have hy:((tx sep).length==0)=bk:=by simpa [Ff,tx]using hne
  have hlen:∀x∈(Txt.split (tx l) (tx sep)).map (·.cps.toList),x.length<=cE:=by
   intro x hx;refine vB hx λp hp=>?_;have:=KV hp;refine rr fA ?_;rw [<-(by simp [Ff]:p.length=p.cps.toList.length)];exact aD ‹_› (aD ‹_› dc)
  have aa8:(Txt.split (tx l) (tx sep)).length<=cE:=by
   have:=Ib (tx l)<|tx sep;refine rr fA ?_;simp at this;lia
  have fin:∀(q':List (Str×Tok)) (tk:Nat),q'.map (·.1)=Txt.split (tx l) (tx sep)->Cq Γ.g A Y s Q (.ref s.heap.objs.size) {s with heap:=s.heap.push {cls:=.type "list",data:=.seq (Fg q').toArray},toks:=tk}:=λq' tk e=>by
   have st:eM Γ.g A Y s (Y.aX s.heap.objs.size (.aF (bQ ((Txt.split (tx l) (tx sep)).map (·.cps.toList))))) {s with heap:=s.heap.push {cls:=.type "list",data:=.seq (Fg q').toArray},toks:=tk}:=
    .oE i (.nf s _ _) (dZ s.heap) (fe _ _ (cJ _ Z) (aeq hlen (by refine bL e<|rr (eE) ?_;exact(List.map_id' _).symm▸(rfl):q'.map (·.1)=((Txt.split (tx l) (tx sep)).map (·.cps.toList)).map tx)) (by have:=aH bW e;simp at this;simp [Fg];lia)) Z
   exact⟨_,.S _,st,jk,q _<|i.gx<|dZ s.heap⟩
  cases h1:(decide ((tx l).length<(tx sep).length)||decide (strKind (tx l)<strKind (tx sep)))
  .cases hf:(occurrences (tx l) (tx sep) 0 (tx l).length<|(tx l).length+1).isEmpty
   .have es:Txt.split (tx l) (tx sep)=partsBetween (tx l) (occurrences (tx l) (tx sep) 0 (tx l).length<|(tx l).length+1) (tx sep).length:=by
     unfold Txt.split;exact rr (bu (by rw [h1];decide))<|bu (by refine rr hf ?_;decide)
    refine qm Dp (td _ _ _) Be (Ad _ _) (meets_str_split_sep (tx l) (tx sep) t u h1 hy hf (by simp [Ff];refine rr fA ?_;exact aD ‹_› dc:(tx l).length<=cE)<|rl es aa8) ?_;exact rr (strsFrom_eq _ _)<|fin (numbered s.toks _) _<|(numbered_texts _ _).trans es.symm
   .exact qm Dp (td _ _ _) Be (Ad _ _) (meets_str_split_not_found (tx l) (tx sep) t u h1 hy hf)<|fin [(tx l,t)] _ (by unfold Txt.split;refine rr (bu (by rw [h1];decide))<|rr (bI hf) ?_;rfl)
  .exact qm Dp (td _ _ _) Be (Ad _ _) (meets_str_split_cannot_occur (tx l) (tx sep) t u h1)<|fin [(tx l,t)] _ (by unfold Txt.split;refine rr (bI h1) ?_;rfl)))
end
end
variable{sep:aq}
section
open SeqAt
section
variable{w:fZ}
theorem F8{it t h:a8}{Q:Option bb->bG->Prop}(p:A.handled=O (.ref h))(g:s.heap.get? h=O oh)(r:oh.data=.fields hvs)(u:hvs[2]?=O .none)(j:h≠it)(d:s.heap.IsTupleIter it t i) (v:s.heap.IsTuple t items) (y:items[i]?=X)(z:∀h',LW it s.heap h'->Q X {s with heap:=h'}):ee (gy prog w) A (ZZ<|.ref it) Q E s:=by
 refine hV (id d) λo f aO hd=>rO v λG xs U nl C=>wpAny_bind (NO (wg (name:=qT "__next__") d.typeIs Hy
  (lA Hy d.typeIs F.entry_tuple_iterator_next ?_<|F.args_tuple_iterator_next_1 _)))
 show ee _ _ (field (.ref it) 0>>=_) _ _ s;refine db (λU U k=>mI f hd (x:=.ref t) Z k)<|db (λU U k=>mI f hd (x:=.int i 0) Z k)<|db (λU U k=>yG xs C k) ?_;simp only [lX,y];refine wpAny_bind<|A7<|wpAny_bind<|yJ f hd (by simp) ?_;refine wpAny_bind<|wpAny_bind (iR ?_<|by size_fits);refine wpAny_bind (m:=yM _ _) (V9 (a:=xr) (by first|rfl|(simp only [yM];rfl)) ?_);refine iR ?_ (by size_fits);generalize hH:s.heap.update it (kx (·.setIfInBounds 0 .none))=H;have c:∀b o,b≠it->s.heap.get? b=O o->H.get? b=O o:=λb o nb e=>by refine rl hH<|rr (gf _ _<|lF nb) ?_;exact e
 have l:∀b o,H.get? b=O o->((H.push {cls:=.type "tuple",data:=.seq ([]:List bb).toArray}).push {cls:=.type "StopIteration",data:=.fields (#[.ref H.objs.size,.none,.none,.none,.bool bk,.none]++Dm (.type "StopIteration") [])}).get? b=O o:=λb o e=>bM _<|bM _ e;have ne:(H.push {cls:=.type "tuple",data:=.seq ([]:List bb).toArray}).objs.size≠h:=by
  intro e;have:=fN (c _ _ j g:H.get? h=O oh);replace this:=(fj _ _)▸e▸this;exact iG _<|Aa this
 have n:=cJ (H.push {cls:=.type "tuple",data:=.seq ([]:List bb).toArray}) (o:={cls:=.type "StopIteration",data:=.fields (#[.ref H.objs.size,.none,.none,.none,.bool bk,.none]++Dm (.type "StopIteration") [])}) Z;refine uI (h:=h) p n Z (rr (Qc)<|cD (show 2<6 by decide)<|d7 _ _) (l _ _ (c _ _ j g:H.get? h=O oh)) r u ne<|wpAny_bind (wb (T:="StopIteration") (b:=D) (bX _ (eV (kx (·.setIfInBounds 2<|.ref h)) n Z) Z) af4 ?_);refine bZ<|z _ λb o nb e=>?_;rw [gf]
 .exact l b o<|c b o nb e
 .exact rr (fj _ _) λq=>iG b<|mD (fN<|c b o nb e)<|rl q<|dM _
theorem F9{h:a8}(t:A.handled=O (.ref h))(I j:a8)(u:j≠I)(q:h≠I)(l:Array bb):
 Walks prog w A I [I,j,h] [I] l.size (λi v=>l[i]?=O v) (λi m=>m.IsTupleIter I j i/\m.IsTuple j l/\∃d f,m.get? h=O d/\d.data=.fields f/\f[2]?=O .none) where
 sub:=λb g=>by simp at g;simp [g]
 frame:=λU U U st n=>dW (st.1.at λo e=>n I (by simp) o e) (st.2.1.at λo e=>n j (by simp) o e)<|fE (st.2.2) λd f a b c=>fe d f (n h (by simp) d a) b c
 item:=λi s Q E r st k=>by
  exact Qd st.1 st.2.1 (x:=l[i]) (by simp [r]) λh' y p=>fE (st.2.2) λd f a b c=>k _ h' s.toks (by simp [r]) (dW y (st.2.1.extBut p.extBut u)<|fe d f (p.extBut h d q a) b c) λb o g e=>p.extBut b o (λh=>g<|by simp [h]) e
 done:=λs Q E st k=>by
  exact fE (st.2.2) λd f a b c=>F8 t a b c q st.1 st.2.1 (by simp) λh' z=>k h' s.toks λb o g e=>z b o (λh=>g<|by simp [h]) e
 self:=λU U U U st k=>Qy st.1 k
end
section
variable{E:Ex}
theorem B2(i:iO g A Y s)(r:pT A hd n)(l:FF hd Y)(t:a8)(I:a8)(f:t≠I)(m:s.heap.get? I=X)(c:Array bb):
 ∃(j:List a8) (aE:Nat->j9->Prop),Walks PR g.w A.in1 I j [I] c.size (λi v=>c[i]?=O v) aE/\(∀b∈j,b=I\/b=t\/∃o,s.heap.get? b=O o)/\
  ∀h':j9,(∀b o,s.heap.get? b=O o->h'.get? b=O o)->h'.IsTupleIter I t 0->h'.IsTuple t c->aE 0 h':=by
 cases hh:hd with
 |none=>
  refine fe [I,t] _ (Walks.tuple (A:=A.in1) (by show A.handled=X;refine bL (r.gp)<|rr hh ?_;rfl) I t f c) (λb d=>?_) λh' k a b=>⟨a,b⟩;simp at d;rcases d with h|h<;>simp [h]
 |some ea=>
  refine Bj (l ea hh) λC dx u tb p=>fw (i.gD _ _ p) λz U=>e9 z λL sl e x q y=>fe [I,t,ea] _ (F9 (A:=A.in1) (by refine bL (r.gp)<|rr hh ?_;rfl:A.handled=O (.ref ea)) I t f (by rintro rfl;replace e:=m.symm.trans e;exact nq aP e ff:ea≠I) c) (λb d=>?_) λh' k a b=>dW a b<|fe _ _ (k _ _ e) Z q;simp at d
  rcases d with h|h|h
  .simp [h]
  .simp [h]
  .exact .inr<|.inr ⟨_,h▸e⟩
theorem ii2(a b:Int)(t u:Tok):l4 #[(a,t),(b,u)]=#[.int a t,.int b u]:=by simp [l4]
theorem Zf{a b:Int}{t u:Tok}{p:Prop} [Decidable p]{bt:Nat->Nat->Bool}(e:bt 1 0=decide p)(c:(l4 #[(a,t),(b,u)])[JK bt<|(l4 #[(a,t),(b,u)]).size-1]?=O v):cY h (.aL<|if p then b else a) v:=by
 rw [ii2]at c;replace c:(#[Ae a t,.int b u]:Array bb)[JK bt 1]?=O v:=c;by_cases d:p
 .replace c:=(show JK bt 1=1 from bI (e.trans<|aN d))▸c;exact rr (bI d)<|rl (aJ c) gW
 .replace c:=(show JK bt 1=0 from bu λz=>d<|aI<|e.symm.trans z)▸c;exact rr (bu d)<|rl (aJ c) gW
theorem aa9{a b:Int}(d:FF Γ.hd Y)(q:Q (.aL<|if b>a then b else a) Y):bE Γ (.eH "max") [.aL a,.aL b] Y Q E:=
 .Sp q λA s v w i r k rb=>by
  refine Ah k λt=>Ah rb λu=>have g:(s.heap.push {cls:=.type "tuple",data:=.seq #[.int a t,.int b u]}).IsTuple s.heap.objs.size (l4 #[(a,t),(b,u)]):=(lR _ (cJ _ Z) Z 0 (aH (Data.seq · 0) (ii2 a b t u).symm));?_;have h:(s.heap.push {cls:=.type "tuple",data:=.seq #[.int a t,.int b u]}).objs.size=s.heap.objs.size+1:=fj ..;have j:s.heap.get? (s.heap.push {cls:=.type "tuple",data:=.seq #[.int a t,.int b u]}).objs.size=X:=d6<|rr h<|ej _;refine fE (B2 i r d s.heap.objs.size (s.heap.push {cls:=.type "tuple",data:=.seq #[.int a t,.int b u]}).objs.size (rr h<|hY<|dM _) j<|l4 #[(a,t),(b,u)]) λl aE W m n=>call_max_two<|Bc g ?_;refine sr _ l [_] _ _ aE _ ⟨Z,W,n _ (λb o e=>bM _<|bM _ e) (fW _ (cJ _ Z) Z Z)<|g.push _,λc p=>?_,rr (ii2 a b t u)<|ej 1,CmpOf.ints_gt (Hl #[(a,t),(b,u)]) λU U=>Hm,λv h' tk d x=>?_⟩
  .refine rr (fj _ _)<|rr h ?_
   rcases m c p with rfl|rfl|⟨o,e⟩
   .exact rr h<|dM _
   .exact gB<|dM _
   .exact gB<|gB<|fN e
  .have y:∀c o,s.heap.get? c=O o->h'.get? c=O o:=λc o e=>by
    refine x c o (λf=>?_)<|bM _<|bM _ e
    rcases mc f with e1|f
    .replace e:=j▸e1▸e;exact nq aP e ff
    .cases f
   exact⟨⟨y,Z,Z⟩,Zf Z d⟩
theorem aa'{a b:Int}(d:FF Γ.hd Y)(q:Q (.aL<|if b<a then b else a) Y):bE Γ (.eH "min") [.aL a,.aL b] Y Q E:=
 .Sp q λA s v w i r k rb=>by
  refine Ah k λt=>Ah rb λu=>have g:(s.heap.push {cls:=.type "tuple",data:=.seq #[.int a t,.int b u]}).IsTuple s.heap.objs.size (l4 #[(a,t),(b,u)]):=(lR _ (cJ _ Z) Z 0 (aH (Data.seq · 0) (ii2 a b t u).symm));?_;have h:(s.heap.push {cls:=.type "tuple",data:=.seq #[.int a t,.int b u]}).objs.size=s.heap.objs.size+1:=fj ..;have j:s.heap.get? (s.heap.push {cls:=.type "tuple",data:=.seq #[.int a t,.int b u]}).objs.size=X:=d6<|rr h<|ej _;refine fE (B2 i r d s.heap.objs.size (s.heap.push {cls:=.type "tuple",data:=.seq #[.int a t,.int b u]}).objs.size (rr h<|hY<|dM _) j<|l4 #[(a,t),(b,u)]) λl aE W m n=>call_min_two<|Bc g ?_;refine sr _ l [_] _ _ aE _ ⟨Z,W,n _ (λb o e=>bM _<|bM _ e) (fW _ (cJ _ Z) Z Z)<|g.push _,λc p=>?_,rr (ii2 a b t u)<|ej 1,CmpOf.ints_lt (Hl #[(a,t),(b,u)]) λU U=>Hm,λv h' tk d x=>?_⟩
  .refine rr (fj _ _)<|rr h ?_
   rcases m c p with rfl|rfl|⟨o,e⟩
   .exact rr h<|dM _
   .exact gB<|dM _
   .exact gB<|gB<|fN e
  .have y:∀c o,s.heap.get? c=O o->h'.get? c=O o:=λc o e=>by
    refine x c o (λf=>?_)<|bM _<|bM _ e
    rcases mc f with e1|f
    .replace e:=j▸e1▸e;exact nq aP e ff
    .cases f
   exact⟨⟨y,Z,Z⟩,Zf Z d⟩
end
end
section
open SeqAt
noncomputable def bh(l:ar):aw:=l.map .aL
theorem Sx:∀{l:ar} {L:List bb},eX h (bh l) L->∃q:List (Int×Tok),L=q.map (λp=>Ae p.1 p.2)/\q.map (·.1)=l:=by
 intro a;induction a with
 |nil=>
  intro L r;exact bX [] (fP r) Z
 |cons x l i=>
  intro L r;exact n6 r λv c r1 b=>Ah r1 λt=>cK (i b) λq z e=>rr z<|(bX ((x,t)::q) Z<|by simp [e])
noncomputable def B3:ar->Int
 |[]=>0
 |[x]=>x
 |x::r=>if B3 r<x then B3 r else x
noncomputable def lx:ar->Int
 |[]=>0
 |[x]=>x
 |x::r=>if x<lx r then lx r else x
theorem aba(x y:Int)(r:ar):B3 (x::y::r)=if B3 (y::r)<x then B3 (y::r)else x:=rfl
theorem zf:∀{l:ar},l≠[]->B3 l∈l/\∀a∈l,B3 l<=a:=by
 intro l;induction l with
 |nil=>exactλh=>cM Z h
 |cons x r c=>
  intro U;induction r with
  |nil=>exact⟨.head _,λa h=>(ms h)▸fb _⟩
  |cons y r=>
   have i:=c<|dy _ _;refine rr (aba x y r) ?_;by_cases h:B3 (y::r)<x
   .exact rr (bI h) ⟨.tail _ i.1,λa b=>(List.mem_cons.mp b).elim (λe=>e▸ew h)<|i.2 a⟩
   .exact rr (bu h) ⟨.head _,λa b=>(List.mem_cons.mp b).elim (λe=>e▸fb _) λb=>bA (Ka h)<|i.2 a b⟩
theorem abb(x y:Int)(r:ar):lx (x::y::r)=if x<lx (y::r)then lx (y::r)else x:=rfl
theorem OH:∀{l:ar},l≠[]->lx l∈l/\∀a∈l,a<=lx l:=by
 intro l;induction l with
 |nil=>exactλh=>cM Z h
 |cons x r c=>
  intro U;induction r with
  |nil=>exact⟨.head _,λa h=>(ms h)▸fb _⟩
  |cons y r=>
   have i:=c<|dy _ _;refine rr (abb x y r) ?_;by_cases h:x<lx (y::r)
   .exact rr (bI h) ⟨.tail _ i.1,λa b=>(List.mem_cons.mp b).elim (λe=>e▸ew h)<|i.2 a⟩
   .exact rr (bu h) ⟨.head _,λa b=>(List.mem_cons.mp b).elim (λe=>e▸fb _) λb=>bA (i.2 a b)<|Ka h⟩
section
variable{E:Ex}
theorem Sy{x:a8}{ns:ar}(hd:Γ.hd=X)(h:Y x=O (.aF<|bh ns))(q:Q (.aL ns.sum) Y):bE Γ (.eH "sum") [.S x] Y Q E:=
 .DE q λA s v i r a=>by
  refine rr (fG a)<|i.zJ h λL n b rl z=>cK (Sx rl) λc d e=>?_;obtain rfl:=d;refine sum_intListG (by refine bL (r.gp)<|rr hd ?_;rfl:A.handled=X) ((lR _ b Z n<|by simp [l4]):s.heap.IsList x (l4 c.toArray)) λh' tk t' f=>⟨⟨f,Z,Z⟩,?_⟩;refine rr (preSum_eq _ _)<|rr (jM<|by simp) ?_;simp only [e];exact gW
theorem Zg{x:a8}{ns:ar}(hd:Γ.hd=X)(g:Y x=O (.aF<|bh ns))(h:ns≠[])(q:Q (.aL<|B3 ns) Y):bE Γ (.eH "min") [.S x] Y Q E:=
 .DE q λA s v i r l=>by
  clear q;refine rr (fG l)<|i.zJ g λL n c rl z=>?_;clear g l z;refine cK (Sx rl) λa b e=>?_;obtain rfl:=b;clear rl;induction e
  have d:s.heap.IsList x (l4 a.toArray):=(lR _ c Z n<|by simp [l4]);have m:0<a.toArray.size:=by
   clear c;clear d;induction a with
   |nil=>exact cM Z h
   |cons _ _=>simp
  refine min_intList (by refine bL (r.gp)<|rr hd ?_;rfl:A.handled=X) d m λv h' tk o C=>⟨⟨C,Z,Z⟩,?_⟩;clear c d;refine ka (Hm o) λt b=>rr b<|fw (argBest_lt (Hl a.toArray)<|a.toArray.size-1) λu w=>fw (zf h) λaO F=>?_;clear h;generalize JK _ _=k at u w o;have y:k<a.length:=cw u<|QA m NS;have G:Hl a.toArray k∈a.map (·.1):=by
   refine rr (V' _ _) ?_;simp only [bx,bz];refine rr (aV y) ?_;exact dm (f:=(·.1))<|eU y
  have H:Hl a.toArray k=B3 (a.map (·.1)):=by
   refine mm aO λp I e=>ka (List.mem_iff_getElem.mp I) λj b=>ka b λxs ρ=>?_;have K:Hl a.toArray j=B3 (a.map (·.1)):=by
    refine bL (V' _ _)<|rl e ?_;simp only [bx,bz];refine rr (aV xs)<|rr ρ ?_;rfl
   exact Dq (K▸(w j<|NT xs))<|F _ G
  exact rr H gW
theorem aer{x:a8}{ns:ar}(hd:Γ.hd=X)(g:Y x=O (.aF<|bh ns))(h:ns≠[])(q:Q (.aL<|lx ns) Y):bE Γ (.eH "max") [.S x] Y Q E:=
 .DE q λA s v i r l=>by
  clear q;refine rr (fG l)<|i.zJ g λL n c rl z=>?_;clear g l z;refine cK (Sx rl) λa b e=>?_;obtain rfl:=b;clear rl;induction e
  have d:s.heap.IsList x (l4 a.toArray):=(lR _ c Z n<|by simp [l4]);have m:0<a.toArray.size:=by
   clear c;clear d;induction a with
   |nil=>exact cM Z h
   |cons _ _=>simp
  refine max_intList (by refine bL (r.gp)<|rr hd ?_;rfl:A.handled=X) d m λv h' tk o aO=>⟨⟨aO,Z,Z⟩,?_⟩;clear c d;refine ka (Hm o) λt b=>rr b<|fw (argBest_gt (Hl a.toArray)<|a.toArray.size-1) λu w=>fw (OH h) λF G=>?_;clear h;generalize JK _ _=k at u w o;have y:k<a.length:=cw u<|QA m NS;have H:Hl a.toArray k∈a.map (·.1):=by
   refine rr (V' _ _) ?_;simp only [bx,bz];refine rr (aV y) ?_;exact dm (f:=(·.1))<|eU y
  have I:Hl a.toArray k=lx (a.map (·.1)):=by
   have a1:=G _ H;refine mm F λp ρ e=>ka (List.mem_iff_getElem.mp ρ) λj b=>ka b λxs K=>have C:=w j<|NT xs;?_;have vs:Hl a.toArray j=lx (a.map (·.1)):=by
    refine bL (V' _ _)<|rl e ?_;simp only [bx,bz];refine rr (aV xs)<|rr K ?_;rfl
   replace C:=vs▸C;exact Dq ‹_› ‹_›
  exact rr I gW
end
end
section
open SeqAt
noncomputable def zg(x:Int):ar->ar
 |[]=>[x]
 |y::r=>if x<=y then x::y::r else y::zg x r
theorem Sz(x y:Int)(r:ar):zg x (y::r)=if x<=y then x::y::r else y::zg x r:=rfl
noncomputable def jY:ar->ar
 |[]=>[]
 |x::r=>zg x<|jY r
theorem zP(x:Int):∀l:ar,(zg x l).Perm (x::l):=by
 intro a;induction a with
 |nil=>
  exact .refl _
 |cons y r i=>
  refine rr (Sz x y r) ?_;by_cases h:x<=y
  .exact rr (bI h)<|.refl _
  .exact rr (bu h)<|(i.cons y).trans<|.swap x y r
theorem iD:∀l:ar,(jY l).Perm l:=by
 intro a;induction a with
 |nil=>
  exact .refl _
 |cons x r i=>
  exact(zP x<|jY r).trans<|(i).cons x
theorem Ic(x:Int):∀{l:ar},l.Pairwise (·<=·)->(zg x l).Pairwise (·<=·):=by
 intro c;induction c with
 |nil=>
  intro U;exact kQ ..
 |cons y r i=>
  intro h;rw [Qf]at h;refine rr (Sz x y r) ?_;by_cases e:x<=y
  .exact rr (bI e)<|List.pairwise_cons.mpr ⟨λa b=>(mc b).elim (λz=>z▸e) λb=>bA e<|h.1 a b,List.pairwise_cons.mpr h⟩
  .exact rr (bu e)<|List.pairwise_cons.mpr ⟨λa b=>(mc<|(zP x r).mem_iff.mp b).elim (λz=>z▸ew (nle e))<|h.1 a,i h.2⟩
theorem xV:∀l:ar,(jY l).Pairwise (·<=·):=by
 intro a;induction a with
 |nil=>
  exact .nil
 |cons x r i=>
  exact Ic x<|i
theorem EA:∀{a b:ar},a.Perm b->a.Pairwise (·<=·)->b.Pairwise (·<=·)->a=b:=by
 intro l;induction l with
 |nil=>
  intro b p U U;exact p.nil_eq
 |cons x a i=>
  exact @λ
  |[],p,_,_=>by have:=p.length_eq;simp at this
  |y::b,p,ha,hb=>by
   rw [Qf]at ha hb;have h:x∈y::b:=p.mem_iff.mp<|.head _;have c:y∈x::a:=p.mem_iff.mpr<|.head _;have e:x=y:=by
    refine bV (mc h) (λe=>?_) λh=>?_
    .exact e
    .refine bV (mc c) (λe=>?_) λc=>?_
     .exact e.symm
     .have:=ha.1 y c;have:=hb.1 x h;exact Dq ‹_› ‹_›
   subst e;exact rr (i p.cons_inv ha.2 hb.2) Z
theorem Ga:∀{L:List bb} {ks:ar},L.length=ks.length->(∀(j:Nat) (v:bb),L[j]?=O v->∃k t,ks[j]?=O k/\v=.int k t)->acW L ks:=by
 intro l;induction l with
 |nil=>
  exact @λ
  |[],_,_=>.nil
  |_::_,hl,_=>by cases hl
 |cons v L i=>
  exact @λ
  |k::ks,hl,h=>by
   refine j6 (h 0 v Z) λk' t e a=>?_;simp at e;subst e a;exact .cons _ t<|i (eQ hl) λj u b=>h (j+1) u<|b
  |[],hl,_=>by cases hl
theorem zQ:∀{L:List bb} {ks:ar},acW L ks->eX h (bh ks) L
 |_,_,.nil=>iA
 |_,_,.cons n t r=>fQ gW<|zQ r
section
variable{E:Ex}
theorem SA{xs:kr}{ks:ar}(i:iO Γ.g A Y s)(a:Qt s s₁)(c:acW L ks)(j:L.length<64)(q:∀r,Y r=X->Q (.S r) (Y.aX r<|.aF<|bh<|jY ks)):
 ee (gy PR Γ.g.w) xs (do let l<-newList L;let _<-jL [l] (call (.builtin "list.sort") [l] []);ret l) (λfin s'=>match fin with|.done (.ret v)=>Cq Γ.g A Y s Q v s'|_=>False) (λU U=>False) s₁:=by
 refine db (λU U k=>AA k (aD (dH ‹_›) dc:L.length<=cE))<|have h:(s₁.heap.push {cls:=.type "list",data:=.seq L.toArray}).get? s₁.heap.objs.size=O (dG "list" L.toArray 0):=cJ _ Z;?_;refine wpAny_bind<|eY<|lA af6 (bX _ h Z) afV (list_sort_tree h c j λout n a1 m p=>bX _ Z ?_)<|af7 _;refine bZ<|have e:n=jY ks:=EA (m.trans (iD ks).symm) p<|xV ks;?_;subst e;obtain⟨e,t⟩:=sortedHeap_at (vs:=L) (out:=out) h;have keep:∀b o,s.heap.get? b=O o->(te (s₁.heap.push {cls:=.type "list",data:=.seq L.toArray}) s₁.heap.objs.size L out).get? b=O o:=λb o d=>by
  have f:=fN<|a.fk b o d;refine bL (af8 (hY f)<|rr (fj _ _)<|gB f)<|bM _<|a.fk b o d
 have st:eM Γ.g A Y s (Y.aX s₁.heap.objs.size<|.aF<|bh<|jY ks) {s₁ with heap:=te (s₁.heap.push {cls:=.type "list",data:=.seq L.toArray}) s₁.heap.objs.size L out}:=
  .oE i ⟨keep,a.m8,a.os⟩ (a.vF _ (dZ _):s.heap.get? s₁.heap.objs.size=X) (fe out.toList e (t) (zQ a1) (by have:=a1.length;have:=c.length;have:=(iD ks).length_eq;refine rr fA ?_;lia)) Z
 exact⟨_,.S _,st,jk,q _<|i.gx (a.vF _ (dZ _):s.heap.get? s₁.heap.objs.size=X)⟩
theorem AO:∀{kv:ak} {kvs:List (KK×bb)},lr h kv kvs->kvs.map (·.1)=kv.map (·.1):=by
 intro l;induction l with
 |nil=>
  intro U r;exact rr r Z
 |cons a kv i=>
  obtain⟨k,v⟩:=a;intro U r;obtain⟨u,q,rfl,_,r⟩:=r;simp [i r]
theorem lz{x:a8}{kv:ak}{ks:ar}(hd:Γ.hd=X)(l:Y x=O (.cQ kv))(o:kv.map (·.1)=ks.map KK.i)(K:ks.length<64)(q:∀r,Y r=X->Q (.S r) (Y.aX r<|.aF<|bh<|jY ks)):bE Γ (.eH "sorted") [.S x] Y Q E:=
 (dW Z (mL _) (λA s L i r e=>by
  refine n6 e λvs M r1 p=>rr (fP p)<|rr (fG r1)<|gU (i.gD _ _ l) λkvs d rl z ns=>have h:kvs.map (·.1)=ks.map KK.i:=(AO rl).trans o;?_;have aZ:kvs.length=ks.length:=by have:=aH bW h;simpa using this
  refine ka (d.dictAt) λep u=>D4 kind_sorted plain_sorted entry_sorted (args_sorted1 _)<|wpAny_bind (m:=checkCount "sorted" 1 1 _)<|bZ ?_;refine wpAny_bind<|kdu_collect (A:=A.in1) (kdl_dict (knd:=Bs Γ.g.w) (kvs:=kvs) (ep:=ep) ns) (by refine bL (r.gp)<|rr hd ?_;rfl:A.handled=X) u (by refine rr fA ?_;lia) λh' tk xs C b=>?_;have c:acW xs.toList ks:=Ga (by have:=b.1;simp;lia) λj v aO=>by
   refine j6 (b.2 j v<|by simpa using aO) λk y F G=>?_;have a:(kvs.map (·.1))[j]?=O k:=by refine bL (bz)<|rr F ?_;rfl
   replace a:=(bz)▸h▸a;refine om a λn H I=>?_;induction I
   exact ka (KK.Dt G) λt ρ=>rr ρ<|lq n t H Z
  exact wpAny_mono (SA i ⟨C,Z,Z⟩ c (by have:=c.length;lia) q) (λfin s' z=>by
   induction fin with
   |done f=>induction f with
    |ret v=>exact bX v Z z
    |_=>exact z.elim
   |again _=>exact z.elim) λU U z=>z.elim))
end
end
section
open SeqAt
theorem eM.abc(i:iO g A Y s){d:a8}{k:cP}(q:Qt s s')(c:s.heap.get? a=X)(hd:s.heap.get? d=X)(t:a≠d)(x:k.fU g.w s'.heap a)(l:k.tm=O d)(u:(cP.fu a).fU g.w s'.heap d)(v:∀o,k≠.fu o):
 eM g A Y s ((Y.aX d<|.fu a).aX a k) s':=by
 have j:=i.qt q;have f:=i.gx c;have m:=i.gx hd;have p:∀b k',((Y.aX d<|.fu a).aX a k) b=O k'->(b=a/\k'=k)\/(b=d/\b≠a/\k'=.fu a)\/(b≠a/\b≠d/\Y b=O k'):=λb k' h=>by
  unfold N.aX at h;clear v;clear f m c hd l u;split at h
  .obtain rfl:=aJ h;exact .inl ⟨by assumption,Z⟩
  .split at h
   .obtain rfl:=aJ h;exact .inr<|.inl<|dW (by assumption) (by assumption) Z
   .exact .inr<|.inr<|dW (by assumption) (by assumption) h
 have r:((Y.aX d<|.fu a).aX a k) d=O (.fu a):=by exact rr (N.da _ _ t.symm)<|N.aM _ _ _
 refine⟨j.yV j.fk (λb k' h=>?_) (λb k' e h y=>?_) (λb k' h=>?_) (λvs z=>?_) Z,q.tR _ _,λb k' h=>?_,q.os⟩
 .clear t v;clear r f m c hd l
  rcases p b k' h with⟨rfl,rfl⟩|⟨rfl,_,rfl⟩|⟨_,_,h⟩
  .exact x
  .exact u
  .exact j.gD b k' h
 .clear x t v u;clear c hd
  rcases p b k' h with⟨rfl,rfl⟩|⟨rfl,_,rfl⟩|⟨n1,n2,h⟩
  .replace y:=l.symm.trans y;obtain rfl:=aJ y;exact r
  .clear r l;clear f m h p;exact nq aP y ff
  .have:=j.ie b k' e h y;rw [N.da,N.da]
   .exact this
   .clear r l n1 n2;clear f h p;clear h;rintro rfl;replace this:=m▸this;exact nq aP this ff
   .clear r m l n1 n2;clear h p;clear h;rintro rfl;replace this:=f▸this;exact nq aP this ff
 .clear r f m x l t v u
  rcases p b k' h with⟨rfl,rfl⟩|⟨rfl,_,rfl⟩|⟨_,_,h⟩
  .exact i.qr c
  .exact i.qr hd
  .exact i.cu b k' h
 .refine iz λP k0=>m7 (j.uu z) λC E aO=>i.QT z λU U o es n xs U=>k0 ⟨aO,?_⟩;rw [N.da,N.da]
  .exact C
  .clear r f m x l t v u k0;clear c p;rintro rfl;replace hd:=xs▸hd;exact nq aP hd ff
  .clear r f m x l t v u k0;clear hd p;rintro rfl;replace c:=xs▸c;exact nq aP c ff
 .clear r f m x l t v u
  rcases p b k' h with⟨rfl,rfl⟩|⟨rfl,_,rfl⟩|⟨_,_,h⟩
  .exact .inr c
  .exact .inr hd
  .exact .inl ⟨k',h⟩
noncomputable def SD(A:kr)(C:a8)(L:List bb):kr:=A.under<|.builtin "type.__call__" ⟨.ref C::L,[]⟩
theorem iO.SD(i:iO g A Y s):iO g (Internal.SD A C L) Y s:=⟨i.gD,i.ie,i.fk,i.cu,i.um,i.m8,i.Du⟩
theorem eM.MH(x:eM g (Internal.SD A C L) Y s c8 s'):eM g A Y s c8 s':=⟨⟨x.cm.gD,x.cm.ie,x.cm.fk,x.cm.cu,x.cm.um,x.cm.m8,x.cm.Du⟩,x.tR,x.Fw,x.os⟩
theorem pT.SD(r:pT A hd (n+1)):pT (Internal.SD A C L) hd n:=⟨by have:=r.AI;show A.depth+1+n<=900;lia,by have:=r.AJ;show A.units+1+10*n<=9000;lia,r.gp⟩
variable{fI:a8}
theorem bE.cu{E:Ex}(p:A8 g.K (.ref C)=D)(w:makesIn g.K C=D)(y:ji g.K (.ref C) "__init__"=O (O<|.ref fI)) (xs:Bb g.K (.ref fI)=O (.type "function"))(h:∀x dx,Y x=X->Y dx=X->x≠dx->sy ⟨g,hd,n⟩ (.S fI) (.S x::args) ((Y.aX dx<|.fu x).aX x<|.d8 C dx []) (λv c=>v=.bR/\Q (.S x) c) E):bE ⟨g,hd,n+1⟩ (.S C) args Y Q E:=
 (dW Z (Ww p) (λA s L i r e=>by
  obtain⟨a,k,d,t,l⟩:=s;have m:((a.push zH).push<|JL C a.objs.size).get? a.objs.size=O zH:=bM _<|cJ _ Z;have aO:((a.push zH).push<|JL C a.objs.size).get? (a.objs.size+1)=O (JL C a.objs.size):=by
   have:=cJ (a.push zH) (o:=JL C a.objs.size) Z
   rwa [fj]at this
  have st:eM g A Y ⟨a,k,d,t,l⟩ ((Y.aX a.objs.size<|.fu<|a.objs.size+1).aX (a.objs.size+1)<|.d8 C a.objs.size []) ⟨(a.push zH).push<|JL C a.objs.size,k,d,t,l⟩:=
   .abc i ⟨(λb o e=>bM _ (bM _ e):∀b o,a.get? b=O o->((a.push zH).push<|JL C a.objs.size).get? b=O o),Z,Z⟩ (d6 (ej _):a.get? (a.objs.size+1)=X) (dZ _:a.get? a.objs.size=X) (Bd _:a.objs.size+1≠a.objs.size) ⟨⟨_,aO⟩,.Mi m Z⟩ Z (kY _ _ _ m Z) (λo e=>by exact nq Internal.cP.ctorIdx e ff)
  refine A9<|make_core (makes_of i.vE w) (wK i.vE y) (λF=>bind_fn i.vE F xs) (.inl Z) ?_;refine mZ ((h (a.objs.size+1) a.objs.size (i.gx (d6 (ej _):a.get? (a.objs.size+1)=X)) (i.gx (dZ _:a.get? a.objs.size=X)) (Bd _:a.objs.size+1≠a.objs.size)).2.2 (SD A C L) _ (.ref (a.objs.size+1)::L) st.cm.SD r.SD<|fQ jk<|e.cp st.tR.2.1) λG s' z=>?_;induction G with
  |ok f=>
   induction f with
   |ret v=>
    obtain⟨c,u,j,H,rfl,q⟩:=z;exact⟨qp H,c,.S _,st.aU j.MH,jk,q⟩
   |_=>exact z.elim
  |error e=>
   obtain⟨ea,c,rfl,j,q⟩:=z;exact⟨ea,c,Z,st.aU j.MH,q⟩))
end
variable{fI:a8}
section
open Sem (wp)
open SeqAt
section
variable{w:fZ} {M:yF} {R:Fb->bG->Prop} {g:Array GenState} {d:Drawn} {t:Nat} {os:acX} {nm q:Str} {aZ:a8} {bs bm:List bb} {Ie:Bool} {sn:List Str} {sub:List bb} {ab:Bool} {col:ai} {dd:Option a8} {k0 k1 k2 k3 k5:Option bb} {Bn newId inN:String} {bmN:List bb}
theorem DF(F:wM Bn newId inN bmN)(b:(gL C::bm).contains (.type Bn)=D){Q:Unit->bG->Prop}(a:h.get? C=O (ud nm q C aZ bs bm Ie sn sub ab col dd k0 k1 k2 k3 k5 newId))(c:Q () ⟨h,g,d,t,os⟩):ee M A (wh newId ⟨.ref C::rest,[]⟩) Q E ⟨h,g,d,t,os⟩:=by
 have e:=F.noStar;unfold wh;refine rr (F.newKind)<|rr (F.newSplit) ?_;refine vZ rfl ?_
 repeat(first|with_reducible refine pb ?_|with_reducible refine db (λU U k=>fJ a k) ?_|refine fJ a ?_|(refine r8 a ?_;refine rr b ?_)|refine wpAny_staticBase_exc a ?_|refine Fh a ?_|wp_step|simp only [bne_self_eq_false,q7,if_false])
 refine rr (F.newRow) ?_
 repeat(first|with_reducible refine pb ?_|wp_step)
 exact c
theorem Ig(F:wM Bn newId inN bmN)(b:(gL C::bm).contains (.type Bn)=D)(c:(gL C::bm).contains (.type "AttributeError")=bk)(e:(gL C::bm).contains (.type "NameError")=bk)(a:h.get? C=O (ud nm q C aZ bs bm Ie sn sub ab col dd k0 k1 k2 k3 k5 newId))(f:R (.ok<|.ret<|.ref<|h.objs.size+1) ⟨(h.push {cls:=.type "tuple",data:=.seq rest.toArray}).push {cls:=.ref C,data:=.fields #[.ref h.objs.size,.none,.none,.none,.bool bk,.none]},g,d,t,os⟩) (i:rest.length<=cE):
 JC (gy prog w) A (.builtin newId ⟨.ref C::rest,[]⟩) R ⟨h,g,d,t,os⟩:=by
 have j:=F.ends;refine codeAny_builtinAt F.entry<|VJ<|VJ<|PySem.wpAt_stack λp l=>LY ?_
 wp_walk
 refine LY<|rr (F.owner) ?_
 repeat(first|with_reducible refine pb ?_|with_reducible refine db (λU U k=>fJ a k) ?_|with_reducible refine wpAny_madeHere_exc F.canon a ?_|with_reducible refine fJ a ?_|(with_reducible refine r8 a ?_;first|rw [b]|rw [c]|refine rr e ?_)|wp_step)
 show R _ _;exact rr (fj _ _) f
theorem DG(F:wM Bn newId inN bmN)(c:(gL C::bm).contains (.type Bn)=D)(i:(gL C::bm).contains (.type "AttributeError")=bk)(j:(gL C::bm).contains (.type "NameError")=bk){Q:Fin->bG->Prop} (a:h.get? C=O (ud nm q C aZ bs bm Ie sn sub ab col dd k0 k1 k2 k3 k5 newId))(l:vX (gy prog w) h (JV (.ref C) "__init__") (O<|.ref fI)) (m:∀s,vX (gy prog w) h (bindSpecial (.ref fI) s) (.ref fI,[s]))(n:ee (gy prog w) A (call (.ref fI)<|.ref (h.objs.size+1)::rest) (λr s'=>r=.none/\Q (.done<|.ret<|.ref<|h.objs.size+1) s') E ⟨(h.push {cls:=.type "tuple",data:=.seq rest.toArray}).push {cls:=.ref C,data:=.fields #[.ref h.objs.size,.none,.none,.none,.bool bk,.none]},g,d,t,os⟩) (p:rest.length<=cE):
 ee (gy prog w) A (qO.«type.__call__» ⟨.ref C::rest,[]⟩) Q E ⟨h,g,d,t,os⟩:=by
 repeat(first|with_reducible refine pb ?_|with_reducible refine db (λU U k=>fJ a k) ?_|with_reducible refine db (λU U k=>Fh a k) ?_|with_reducible refine fJ a ?_|with_reducible refine Fh a ?_|wp_step)
 refine codeAny_call_builtin_code (q8 _ F.quiet)<|DF F c a ?_;refine Ig F c i j a ?_ p;have k:∀b o,h.get? b=O o->((h.push {cls:=.type "tuple",data:=.seq rest.toArray}).push {cls:=.ref C,data:=.fields #[.ref h.objs.size,.none,.none,.none,.bool bk,.none]}).get? b=O o:=λb o e=>bM _<|bM _ e;have f:((h.push {cls:=.type "tuple",data:=.seq rest.toArray}).push
  {cls:=.ref C,data:=.fields #[.ref h.objs.size,.none,.none,.none,.bool bk,.none]}).get? (h.objs.size+1)=O
  {cls:=.ref C,data:=.fields #[.ref h.objs.size,.none,.none,.none,.bool bk,.none]}:=by heap_get
 have u:(gL C::bm).contains (.ref C)=D:=by simp
 repeat(first|with_reducible refine pb ?_|with_reducible refine db (λU U k=>fJ f k) ?_|with_reducible refine fJ f ?_|(with_reducible refine r8 (k _ _ a) ?_;refine rr u ?_)|wp_step)
 refine(l.keeps k).here<|eY<|lb ((m _).keeps k) ?_;refine wpAny_bind<|wpAny_mono n (λr s' v=>?_) λU U x=>x;obtain⟨rfl,y⟩:=v
 wp_walk
 exact y
theorem SF(F:wM Bn newId inN bmN)(b:(gL C::bm).contains (.type Bn)=D)(c:(gL C::bm).contains (.type "AttributeError")=bk)(e:(gL C::bm).contains (.type "NameError")=bk){Q:bb->bG->Prop} (a:h.get? C=O (ud nm q C aZ bs bm Ie sn sub ab col dd k0 k1 k2 k3 k5 newId))(f:vX (gy prog w) h (JV (.ref C) "__init__") (O<|.ref fI)) (i:∀s,vX (gy prog w) h (bindSpecial (.ref fI) s) (.ref fI,[s]))(j:ee (gy prog w) (A.under<|.builtin "type.__call__" ⟨.ref C::rest,[]⟩) (call (.ref fI)<|.ref (h.objs.size+1)::rest) (λr s'=>r=.none/\Q (.ref<|h.objs.size+1) s') E ⟨(h.push {cls:=.type "tuple",data:=.seq rest.toArray}).push {cls:=.ref C,data:=.fields #[.ref h.objs.size,.none,.none,.none,.bool bk,.none]},g,d,t,os⟩) (l:rest.length<=cE):
 ee (gy prog w) A (call (.ref C) rest) Q E ⟨h,g,d,t,os⟩:=by
 have m:=tc_lookup;have f2:=tc_bind<|.ref C;have n:(⟨h,g,d,t,os⟩:bG).TypeIs (.ref C) "type":=bX _ a Z;refine A9<|codeAny_of_tree ?_;show ee _ _ (callAny (.ref C) _) _ _ _
 repeat(any_goals(first|assumption|with_reducible refine pb ?_|with_reducible refine db (λU U k=>fJ a k) ?_|with_reducible refine fJ a ?_|wp_step))
 refine⟨Z,?_⟩;exact codeAny_call_builtin_at (q8 _<|by decide+kernel) PySem.entry_typeCall<|wpAny_check_type_call_sub a<|DG F b c e a f i j l
end
def Gb(K:nH)(C:a8):Prop:=∃nm q aZ bs bm Ie sn sub ab col dd k0 k1 k2 k3 k5,K.lookup C=O (ud nm q C aZ bs bm Ie sn sub ab col dd k0 k1 k2 k3 k5 "Exception.__new__")/\ (gL C::bm).contains (.type "Exception")=D/\(gL C::bm).contains (.type "AttributeError")=bk/\(gL C::bm).contains (.type "NameError")=bk
theorem bE.SG{E:Ex}(m:A8 g.K (.ref C)=D)(p:Gb g.K C)(y:ji g.K (.ref C) "__init__"=O (O<|.ref fI)) (xs:Bb g.K (.ref fI)=O (.type "function")) (M:args.length<=100)(h:∀x,Y x=X->bE ⟨g,hd,n⟩ (.S fI) (.S x::args) (Y.aX x<|.Ai C) (λv c=>v=.bR/\Q (.S x) c) E):bE ⟨g,hd,n+1⟩ (.S C) args Y Q E:=
 (dW Z (Ww m) (λA s L i r e=>by
  obtain⟨a,k,d,t,l⟩:=s;refine n4 p λnm q aZ bs aB P R f=>?_;(refine n4 f λT W aG σ k0 k1 k2 f=>?_;refine e9 f λk3 k5 aO c1 c2 c3=>?_);have lv:=e.ez;have keep:∀b o,a.get? b=O o->((a.push {cls:=.type "tuple",data:=.seq L.toArray}).push {cls:=.ref C,data:=.fields #[.ref a.objs.size,.none,.none,.none,.bool bk,.none]}).get? b=O o:=λb o e=>bM _<|bM _ e;have G:((a.push {cls:=.type "tuple",data:=.seq L.toArray}).push {cls:=.ref C,data:=.fields #[.ref a.objs.size,.none,.none,.none,.bool bk,.none]}).get? (a.objs.size+1)=O {cls:=.ref C,data:=.fields #[.ref a.objs.size,.none,.none,.none,.bool bk,.none]}:=by
   have:=cJ (a.push {cls:=.type "tuple",data:=.seq L.toArray}) (o:={cls:=.ref C,data:=.fields #[.ref a.objs.size,.none,.none,.none,.bool bk,.none]}) Z
   rwa [fj]at this
  have st:eM g A Y ⟨a,k,d,t,l⟩ (Y.aX (a.objs.size+1)<|.Ai C) ⟨(a.push {cls:=.type "tuple",data:=.seq L.toArray}).push {cls:=.ref C,data:=.fields #[.ref a.objs.size,.none,.none,.none,.bool bk,.none]},k,d,t,l⟩:=
   .oE i ⟨keep,Z,Z⟩ (d6 (ej _):a.get? (a.objs.size+1)=X) (gk _ _ G Z Z Z) Z
  have aE:=h (a.objs.size+1)<|i.gx (d6 (ej _):a.get? (a.objs.size+1)=X);refine SF (prog:=PR) (w:=g.w) C7 c1 c2 c3 (i.vE _ _ aO) (wK i.vE y) (λH=>bind_fn i.vE H xs) ?_ (by refine rr fA ?_;lia);refine wpAny_mono (aE.2.2 (SD A C L) _ (.ref (a.objs.size+1)::L) st.cm.SD r.SD<|fQ jk<|e.cp st.tR.2.1) (λv s' I=>?_) λev s' ⟨ea,c,z,j,q⟩=>⟨ea,c,z,st.aU j.MH,q⟩;obtain⟨c,u,j,ρ,vs,q⟩:=I;subst vs;exact⟨qp ρ,c,.S _,st.aU j.MH,jk,q⟩))
end
section
open SeqAt
section
variable{w:fZ} {M:yF} {g:Array GenState} {d:Drawn} {t:Nat} {os:acX} {nm q:Str} {aZ:a8} {bs bm:List bb} {Ie:Bool} {sn:List Str} {sub:List bb} {ab:Bool} {col:ai} {dd:Option a8} {k0 k1 k2 k3 k5:Option bb} {xs newId nid SH:String} {bmB:List bb}
theorem B4(F:wM xs nid SH bmB)(f:(gL C::bm).contains (.type xs)=D){e:a8}{Q:Unit->bG->Prop}(c:h.get? C=O (ud nm q C aZ bs bm Ie sn sub ab col dd k0 k1 k2 k3 k5 newId)) (i:h.get? e=O oe) (j:oe.cls=.ref C) (l:Q () ⟨h,g,d,t,os⟩):
 ee M A (wh SH ⟨.ref e::rest,[]⟩) Q E ⟨h,g,d,t,os⟩:=by
 have m:=F.noStar;simp only [wh,F.initKind,F.initSplit,F.initRow]
 repeat(first|with_reducible refine pb ?_|with_reducible refine db (λU U k=>fJ c k) ?_|(with_reducible refine fJ i ?_;refine rr j ?_)|with_reducible refine fJ c ?_|(with_reducible refine r8 c ?_;refine rr f ?_)|wp_step)
 refine wpAny_onRaise ?_;rw [show∀(a b:String) (n:Nat),Bind.check ⟨.positional,"*",xs,.self,[⟨"args",.varPos,bk⟩]⟩ a b n (lG (λx=>x.fst) ({pos:=gL e::rest}:Args).kw)=jg ()from
  λa b n=>check_star_args _ _ _ _ _ _]
 exact bZ l
end
theorem OI{E:Ex}{x:a8}{a:V}(y:Gb Γ.g.K C)(k:Y x=O (.Ai C))(q:Q .bR Y):bE Γ (.eH "Exception.__init__") [.S x,a] Y Q E:=
 (dW Z (mL _) (λA s L i r e=>by
  obtain⟨c,f,d,t,j⟩:=s;refine n4 y λnm I aZ bs ρ vs M z=>?_;(refine n4 z λaB P R aE k0 T W z=>?_;refine e9 z λaG σ xs c1 c2 c3=>?_);refine n6 e λv1 vs1 r1 l=>?_;obtain⟨v,vs2,rfl,r2,l⟩:=kb l;obtain rfl:=fP l;obtain rfl:=fG r1;refine e9 (i.gD _ _ k) λw sl n aO G H=>A9<|yK PySem.F.excBase_Exception.init.plain PySem.F.excBase_Exception.initEntry<|B4 C7 c1 (i.vE _ _ xs) n Z ?_;unfold qO.«BaseException.__init__»;unfold newTuple Builtin.BaseException.bexcPut;have m:=bM (h:=c) {cls:=.type "tuple",data:=.seq [v].toArray} n;refine wpAny_bind (iR (wpAny_bind (wpAny_bind (mI m Z (D2 _:w[0]?=O (w[0]'(by lia))) (wpAny_bind (yJ m Z (by lia) ?_))))) (by show [v].toArray.size<=_;refine rr fA ?_;simp));have p:eM Γ.g A Y ⟨c,f,d,t,j⟩ Y ⟨c.push {cls:=.type "tuple",data:=.seq [v].toArray},f,d,t,j⟩:=.qt i ⟨λb o e=>bM _ e,Z,Z⟩;have u:eM Γ.g A Y ⟨c.push {cls:=.type "tuple",data:=.seq [v].toArray},f,d,t,j⟩ (Y.aX x<|.Ai C) ⟨(c.push {cls:=.type "tuple",data:=.seq [v].toArray}).update x (kx (·.setIfInBounds 0<|.ref c.objs.size)),f,d,t,j⟩:=
   .Bw p.cm k x (.inl Z) (gF ..) (λik=>gk (w.setIfInBounds 0<|.ref c.objs.size) sl (eV _ m Z) (by simpa using aO) (by refine rr (kl dc) ?_;exact G) (by refine rr (kl dc) ?_;exact H)) Z (λo e=>by exact nq Internal.cP.ctorIdx e ff)
  rw [N.yR Y k]at u;have fin:Cq Γ.g A Y ⟨c,f,d,t,j⟩ Q .none ⟨(c.push {cls:=.type "tuple",data:=.seq [v].toArray}).update x (kx (·.setIfInBounds 0<|.ref c.objs.size)),f,d,t,j⟩:=⟨Y,.bR,p.aU u,oD,q⟩;induction(w[0]'(by lia))with
  |ref _=>exact wpAny_letGo<|bZ fin
  |_=>exact bZ<|bZ fin))
end
section
open SeqAt
variable{ps:af}
section
variable{E:Ex}
theorem Ih{x:a8}{kv:ak}(hx:Y x=O (.cQ kv))(q:∀r,Y r=X->Q (.S r) (Y.aX r<|.cQ kv)):bE Γ (.fK "dict") [.S x] Y Q E:=
 (dW Z (AK _) (λA s L i r e=>by
  refine n6 e λv1 vs1 r1 rn=>rr (fP rn)<|rr (fG r1)<|gU (i.gD _ _ hx) λkvs d rl z ns=>?_;have hl:kvs.length=kv.length:=by have:=aH bW<|AO rl;simpa using this
  refine kt_call_dict ns d (by refine rr fA ?_;lia) λh' hd hs=>?_;have keep:∀b o,s.heap.get? b=O o->h'.get? b=O o:=λb o eb=>by
   exact bL (hs.2 b<|n5 eb (dZ s.heap) λh=>nq aP h ff)<|bM _ eb
  have hns:(s.heap.objs.size==lP)=bk:=beq_eq_false_iff_ne.mpr λz=>by
   have:lP<s.heap.objs.size:=modules_low i.yU;exact cM z<|mC this
  have st:eM Γ.g A Y s (Y.aX s.heap.objs.size<|.cQ kv) {s with heap:=h'}:=.oE i ⟨keep,Z,Z⟩ (dZ s.heap) (lQ kvs hd (rl.cp λb o e U=>keep b o e) z hns) Z;exact⟨_,.S _,st,jk,q _<|i.gx<|dZ s.heap⟩))
theorem lr.jO{k:KK}{v:V}{u:bb}:∀{kv:ak} {kvs:List (KK×bb)},lr h kv kvs->cY h v u->lr h (kv++[(k,v)]) (kvs++[(k,u)]):=by
 intro l0;induction l0 with
 |nil=>
  intro U r a;exact rr r<|fe u [] Z a Z
 |cons h0 r ih=>
  obtain⟨x,w⟩:=h0;intro U q a;exact fE q λu' q o9 b d=>rr o9<|fe u' _ Z b<|ih d a
theorem EB:entryFor table "dict.update.loop"=O qO.«dict.update.loop»:=entryFor_of_tree (by kernel_rfl)
theorem Xl{prog:zD}{w:fZ}{A:kr}{E:bb->bG->Prop}{s:bG}{a:a8}{B:Array bb}{k:Nat}{Q:Option bb->bG->Prop}(hx:s.heap.get? a=O {cls:=.type "list",data:=.seq B k}) (hA:A.handled=X) (h:∀h' tk,(∀b o,s.heap.get? b=O o->h'.get? b=O o)->Q X {s with heap:=h',toks:=tk}):
 ee (gy prog w) A (getAttr? (.ref a) "keys") Q E s:=by
 obtain⟨hp,g,d,tk,os⟩:=s;have hT:∀tk',(⟨hp,g,d,tk',os⟩:bG).TypeIs (.ref a) "list":=λU=>bX _ hx Z;have f1:=sub_AttributeError;have f3:=PySem.F.slot_list_getattribute.lookup;have f4:=PySem.F.slot_list_getattribute.bind<|.ref a;have f5:=am_list_getattr_none;have aes:JV (.type "list") "keys"=jg X:=am_miss_of_fast (by kernel_rfl);unfold getAttr? getAttrBy? getAttrBy
 repeat(any_goals(first|assumption|exact hT _|((with_reducible show ee _ _ (call (xl "list.__getattribute__") _ _) _ _ _);refine qm PySem.F.slot_list_getattribute (hT _) am_entry_list_getattribute (PySem.F.args_list_getattribute_2 _ _) (meets_getattribute_miss_list a B k #[] "keys" _ aes (by decide+kernel) (by decide+kernel)) (dW hx hA (λh' tk' e hx'=>?_)))|wp_step))
 refine mK (hx'.there) λt' u' he=>?_;unfold getattributeRaised
 repeat(any_goals(first|assumption|wp_step))
 exact h _ _ hx'.of.keeps
noncomputable def jZ(h:j9):af->List bb->Prop
 |[],L=>L=[]
 |p::r,L=>∃a t u q,L=.ref a::q/\Aw h a #[.int p.1 t,.int p.2 u]/\jZ h r q
noncomputable def fC(ps:af):aw:=ps.map λp=>.bD [.aL p.1,.aL p.2]
theorem EC:∀{ps:af} {L:List bb},eX h (fC ps) L->jZ h ps L:=by
 intro l0;induction l0 with
 |nil=>
  intro U r;exact fP r
 |cons p r ih=>
  intro L q;refine n6 q λv ws a b=>Wm a λad us t rl Qn=>?_;obtain⟨x,us,rfl,rx,rl⟩:=kb rl;obtain⟨y,us,rfl,ry,rl⟩:=kb rl;obtain rfl:=fP rl;refine ka (rh rx) λt1 o9=>?_;obtain rfl:=o9;refine ka (rh ry) λt2 o9=>?_;obtain rfl:=o9;exact qo ad t1 t2 ws Z t<|ih b
theorem OJ:∀{ps:af} {L:List bb},jZ h ps L->eX h (fC ps) L:=by
 intro l0;induction l0 with
 |nil=>
  intro U r;exact rr r iA
 |cons p r ih=>
  intro L q;exact kh q λa t u q o9 tu b=>rr o9<|fQ (Bq (L:=[.int p.1 t,.int p.2 u]) tu (fQ gW<|fQ gW iA) (by refine rr fA ?_;simp))<|ih b
theorem jZ.cp(k:IK h h')(q:jZ h ps L):jZ h' ps L:=by
 induction ps generalizing L with
 |nil=>exact q
 |cons p r ih=>exact kh q λa t u q e tu b=>qo a t u q e (k.bD tu)<|ih b
theorem jZ.at:∀{ps:af} {L:List bb} {n:Nat} {p:Int×Int},jZ h ps L->ps[n]?=O p->∃a t u,L[n]?=O (.ref a)/\Aw h a #[.int p.1 t,.int p.2 u]:=by
 intro l0;induction l0 with
 |nil=>
  intro U U U U e;simp at e
 |cons y ys ih=>
  exact @λ
  |_,0,x,r,e=>by
   refine kh r λa t u q o9 tu b=>rr o9 ?_;simp at e;subst e;exact kY a t u Z tu
  |_,n+1,x,r,e=>by
   refine kh r λa t u q o9 tu b=>rr o9 ?_;simpa using ih b (e)
theorem jZ.ez(q:jZ h ps L):L.length=ps.length:=by
 induction ps generalizing L with
 |nil=>exact aH bW<|show L=[]from q
 |cons p r ih=>exact kh q λa t u q e tu b=>e▸aH (·+1) (ih b)
noncomputable def r9(ps:af):ak:=ps.map λp=>(.i p.1,.aL p.2)
theorem MI{it vs:a8}(x:h.IsListIter it vs i){o:Obj}(e:h.get? it=O o):¬Fu o:=λim=>by
 refine hV x λo' ho' hc' hd'=>?_;obtain rfl:=aJ<|e.symm.trans ho';exact im.elim (λc=>cM (LZ<|hc'.symm.trans c.1) dc) λc=>cM (LZ<|hc'.symm.trans c.1) dc
theorem Xm(nd:(ps.map (·.1)).Nodup)(hi:i<ps.length):∀p∈ps.take i,p.1≠ps[i].1:=λp hp e=>by
 have s:=nd.sublist ((zG (i+1) ps).map (·.1));rw [dK,aV hi,bN]at s;exact(List.nodup_append.mp s).2.2 _ (dm hp) _ (List.mem_singleton.mpr Z) e
theorem SI{w:fZ}{vs it d:a8}{h₀:j9}(hA:A.handled=X)(nd:(ps.map (·.1)).Nodup)(aet:ps.length<=100)(hL:h₀.get? vs=O {cls:=.type "list",data:=.seq L.toArray m}) (hv:jZ h₀ ps L) (n1:it≠vs) (n2:d≠vs) (n3:it≠d) (W9:h₀.get? it=X) (MJ:h₀.get? d=X) {R:Fb->bG->Prop}:
 ∀(k i:Nat) (s:bG) (n:Int) (t:Tok) (kvs:List (KK×bb)),ps.length-i=k->i<=ps.length->(∀b o,h₀.get? b=O o->s.heap.get? b=O o)->s.heap.IsListIter it vs i->s.heap.DictOf (Bs w) d kvs->lr s.heap (r9<|ps.take i) kvs->
  (∀h' tk kvs,(∀b o,h₀.get? b=O o->h'.get? b=O o)->h'.DictOf (Bs w) d kvs->lr h' (r9 ps) kvs->R (.ok<|.ret .none) {s with heap:=h',toks:=tk})->
  JC (gy PR w) A (.builtin "dict.update.loop" ⟨[.ref d,.ref it,.int n t,.none],[]⟩) R s:=by
 intro k;induction k with
 |zero=>
  intro i s n t kvs hk hi kp hIt hD hR hF;have hin:i=ps.length:=vr hi<|wi hk;subst hin;refine Ht EB<|wpAny_bind<|VD hA hIt (gI<|kp _ _ hL) (by simp [hv.ez]) λh' he=>?_;refine pb<|bZ ?_;exact hF h' s.toks kvs (λb o e=>he b o (n5 e W9 λh=>nq aP h ff) (kp b o e):∀b o,h₀.get? b=O o->h'.get? b=O o) (jz hD λo es ep ho r=>kY o es ep (he d o n3.symm ho) r)<|((jM<|bO _)▸hR).cp λb o e im=>he b o (λz=>MI hIt (rl z e) im) e
 |succ k ih=>
  intro i s n t kvs hk hi kp hIt hD hR hF;have YW:i<ps.length:=Nat.lt_of_sub_eq_succ hk;refine Ht EB<|jz (hv.at (aV YW)) λa t1 t2 hx tu=>?_;show ee _ A.in1 (ZZ (.ref it)>>=_) _ _ s;refine wpAny_bind<|Qx hIt (gI<|kp _ _ hL) (by simpa using hx) λh' VV hs=>?_;have ik1:IK s.heap h':=λb o e im=>(hs.2 b λz=>(λo e=>MI hIt e:∀o,s.heap.get? it=O o->¬Fu o) o (z▸e) im).trans e;have kp':∀b o,h₀.get? b=O o->h'.get? b=O o:=λb o e=>(hs.2 b<|n5 e W9 λh=>nq aP h ff).trans<|kp b o e;have hD':h'.DictOf (Bs w) d kvs:=by
   exact jz hD λo es ep ho r=>kY o es ep ((hs.2 d n3.symm).trans ho) r
  obtain⟨o,ho,hc,nn,hdt⟩:=(hV tu λo ho hc hd=>(fW o (kp' _ _ ho) hc hd):Aw h' a #[.int ps[i].1 t1,.int ps[i].2 t2]);refine wpAny_bind<|eY ?_;refine wpAny_bind<|wpAny_tryCatch ?_;refine db (λU U k=>wpAny_typeOf (bX o ho hc) k)<|db (λU U k=>yG ho hdt k)<|bZ ?_;refine eY (YA (knd:=Bs w) (k:=.i ps[i].1) (by simp [Bs,KK.is,Ax]) hD' (λh'' agC abd=>?_) (by
   have:kvs.length=(ps.take i).length:=by have:=aH bW<|AO hR;simpa [r9]using this
   refine rr this<|rr (jV) ?_;exact aD (V4 ..)<|aD ‹_› dc))
  refine bZ ⟨q8 _ (by decide+kernel),?_⟩;have imD:∀o,h'.get? d=O o->¬Fu o:=λo e im=>by
   refine g7 hD' λo' es ep ho' hx hd' U=>have ho':=e.symm.trans ho';?_;obtain rfl:=aJ ho'
   rcases im with⟨_,_,_,h⟩|⟨_,_,h⟩<;>replace h:=hd'▸h<;>exact nq gz h ff
  have ik2:IK h' h'':=λb o e im=>(abd.2 b λz=>imD o (z▸e) im).trans e;have hst:nJ kvs (.i ps[i].1) (Ae ps[i].2 t2)=kvs++[(.i ps[i].1,Ae ps[i].2 t2)]:=by
   refine bu λa=>?_;refine cK (List.any_eq_true.mp a) λq hq e=>?_;have h1:q.1∈kvs.map (·.1):=dm hq;replace h1:=(aI e)▸(AO hR)▸h1;refine iz λP0 k0=>?_;refine mm h1 λr hr e2=>?_;clear hi hk hx;refine mm hr λp hp o9=>?_;obtain rfl:=o9;refine k0 ?_;exact Xm nd YW p hp<|KK.i.inj e2
  refine ih (i+1) _ _ _ _ (by refine bL (pP<|Nat.sub_sub _ _ _)<|rr hk ?_;rfl) YW (λb o e=>(abd.2 b<|n5 e MJ λh=>nq aP h ff).trans<|kp' b o e) ?_ (hst▸agC) ?_ λh3 tk agD a b c=>hF h3 tk agD a b c
  .refine cK VV λo' ho' r'=>?_;exact bX o' ((abd.2 it n3).trans ho') r'
  .have e1:r9 (ps.take<|i+1)=r9 (ps.take i)++[(.i ps[i].1,.aL ps[i].2)]:=by
    refine rr (dK)<|rr (aV YW) ?_;rw [r9];refine rr (bN) ?_;rfl
   refine rr e1 ?_;exact lr.jO (hR.cp<|ik1.aU ik2) gW
theorem Ge{x:a8}(hd:Γ.hd=X)(hx:Y x=O (.aF<|fC ps))(nd:(ps.map (·.1)).Nodup)(aet:ps.length<=100)(q:∀r,Y r=X->Q (.S r) (Y.aX r<|.cQ<|r9 ps)):bE Γ (.fK "dict") [.S x] Y Q E:=
 (dW Z (AK _) (λA s L i r e=>by
  refine n6 e λv1 vs1 r1 rn=>rr (fP rn)<|rr (fG r1)<|i.zJ hx λws m el rl z=>?_;have hA:A.handled=X:=by refine bL (r.gp)<|rr hd ?_;rfl
  refine callType_codes (Q₁:=λobj s₁=>obj=.ref s.heap.objs.size/\s₁={s with heap:=s.heap.push {cls:=.type "dict",data:=.dict #[]}}) PySem.F.kt_called_dict (PySem.F.kt_typeCall_dict_1 _) PySem.F.entry_dict_init (kt_code_dict_new _ ⟨Z,Z⟩) ?_;intro obj s₁ zy1;obtain⟨rfl,rfl⟩:=zy1;have abe:(s.heap.push {cls:=.type "dict",data:=.dict #[]}).DictOf (Bs Γ.g.w) s.heap.objs.size []:=JH s.heap;refine dW abe.typeIs (PySem.F.args_dict_init_2 _ _) ?_;refine wpAny_bind<|wpAny_bind<|wpAny_notOrdered_dict abe.typeIs ?_;refine bZ ?_;show ee _ _ (Builtin.Dict.updateFrom "dict.__init__" s.heap.objs.size (.ref x) [] .none) _ _ _;have el':(s.heap.push {cls:=.type "dict",data:=.dict #[]}).get? x=O {cls:=.type "list",data:=.seq ws.toArray m}:=bM _ el;refine db (λU U k=>wpAny_typeOf (bX _ el' Z) k)<|wpAny_bind<|Xl el' hA λh' tk hk=>?_;refine wpAny_bind<|A7<|wpAny_bind<|acQ (gI<|hk _ _ el') ?_;refine bZ ⟨q8 _ (by decide+kernel),?_⟩;have nfh:s.heap.get? h'.objs.size=X:=by
   cases q:s.heap.get? h'.objs.size with
   |none=>rfl
   |some o=>have:=hk _ _<|bM _ q;replace this:=(dZ h')▸this;exact nq aP this ff
  have eD:=hk _ _<|cJ s.heap (o:={cls:=.type "dict",data:=.dict #[]}) Z;have keep:∀b o,s.heap.get? b=O o->(h'.push {cls:=.type "list_iterator",data:=.fields #[.ref x,.int 0 0]}).get? b=O o:=λb o eb=>bM _<|hk _ _<|bM _ eb;refine SI (A:=A.in1) (w:=Γ.g.w) (h₀:=s.heap) hA nd aet el (EC rl) (n5 nfh el λh=>nq aP h ff) (mC (fN el:x<s.heap.objs.size)) (λz=>by replace eD:=(dZ h')▸z▸eD;exact nq aP eD ff) nfh (dZ s.heap) ps.length 0 _ _ _ [] (rfl) (dA _) keep ?_ ?_ Z λh2 tk2 kvs a b c=>?_
  .exact fW _ (cJ _ Z) Z Z
  .refine g7 abe λo es ep ho hx hd r=>?_;rw [cJ _ Z]at ho;obtain rfl:=aJ ho;exact mF _ es ep (bM _ eD) hx hd r
  .have hns:(s.heap.objs.size==lP)=bk:=beq_eq_false_iff_ne.mpr λz=>by
    have:lP<s.heap.objs.size:=modules_low i.yU;exact cM z<|mC this
   have st:eM Γ.g A Y s (Y.aX s.heap.objs.size<|.cQ<|r9 ps) {s with heap:=h2,toks:=tk2}:=.oE i ⟨a,Z,Z⟩ (dZ s.heap) (lQ kvs b c (by simp [r9];exact aD ‹_› dc) hns) Z;exact⟨Z,_,.S _,st,jk,q _<|i.gx<|dZ s.heap⟩))
end
end
variable{ps:af}
section
open SeqAt
noncomputable def KW(n:Nat)(P:α->Bool):KasT α->Bool
 |.ret a=>P a
 |.ask i j k=>decide (i<n)&&decide (j<n)&&KW n P (k D)&&KW n P (k bk)
theorem MK{P:α->Bool}{cmp:Nat->Nat->(Bool->bG->Prop)->bG->Prop}(g:∀i j C,i<n->j<n->(∀b,C b s)->cmp i j C s)(t:KasT α)(h:KW n P t=D):t.kasWp cmp (λa s'=>P a=D/\s'=s) s:=by
 induction t with
 |ret a=>exact⟨h,Z⟩
 |ask i j k c=>
  have d:=(fV ..).mp (h:(decide (i<n)&&decide (j<n)&&KW n P (k D)&&KW n P (k bk))=D);have e:=(fV ..).mp d.1;have f:=(fV ..).mp e.1;refine g i j _ (aI f.1) (aI f.2) λb=>?_;induction b with
  |true=>exact c D e.2
  |false=>exact c bk d.2
theorem aeu:KW 2 (λp=>p.toList.isPerm [0,1]) (kas_sort 2)=D:=by decide+kernel
theorem aev:KW 3 (λp=>p.toList.isPerm [0,1,2]) (kas_sort 3)=D:=by decide+kernel
theorem jZ.agE(q:jZ h ps L):∃f,KatTups h L f/\f.length=ps.length/\∀v∈f,∃n t,v=Ae n t:=by
 induction ps generalizing L with
 |nil=>exact rr q (fW [] trivial Z λv c=>by cases c)
 |cons p r i=>
  exact kh q λa t u q z d b=>rr z<|rO d λo g j n hd=>hV (i b) λf k l m=>(fW (.int p.1 t::f) (.cons g j hd Z k) (aH (·+1) l) λv c=>bV (mc c) (λe=>Bk _ _ e)<|m v)
theorem OK{w:fZ}(c:jZ s.heap ps L)(i j:Nat)(C:Bool->bG->Prop)(l:i<L.length)(m:j<L.length)(h:∀b,C b s):kas_ask PR w A (tuples' D) L i j C s:=by
 have o:=c.ez;refine jz (c.at (n:=i) (aV<|cI ‹_› ‹_›)) λa p q e t=>hV t λr d U z=>?_;obtain⟨u,f⟩:=z;refine jz (c.at (n:=j) (aV<|cI ‹_› ‹_›)) λb v x g t=>hV t λy k U z=>?_;obtain⟨nb,db⟩:=z;unfold kas_ask;rw [(by refine rr (bx)<|rr e ?_;rfl:L.getD i xr=.ref a),(by refine rr (bx)<|rr g ?_;rfl:L.getD j xr=.ref b)];refine kat_lt d f k db<|kat_cons<|E8 ?_;unfold KatGo;split
 .refine kat_cons<|E8 ?_;unfold KatGo;split
  .exact kat_nil<|h _
  .exact kat_one _ _<|lt_int<|h _
 .exact oneLt_int<|h _
theorem SJ{L:List α}{p:aq}(a:p.Perm (dk L.length))(d:α):(p.map λi=>L.getD i d).Perm L:=by
 have e:(dk L.length).map (λi=>L.getD i d)=L:=by
  apply QB;intro k;refine bL (bz) ?_;by_cases h:k<L.length
  .refine rr (jI h) ?_;simp [h]
  .refine rr (lM<|by simpa using h)<|rr (lM<|by simpa using h) ?_;rfl
 have:=a.map λi=>L.getD i d
 rwa [e]at this
theorem jZ.perm{out:List bb}(p:out.Perm L):∀{ps:af},jZ h ps L->∃c,jZ h c out/\c.Perm ps:=by
 induction p with
 |nil=>intro ps q;exact bX ps q<|.refl _
 |cons x _ i=>
  intro ps q;cases ps with
  |nil=>exact nq ek q ff
  |cons y ps=>
   refine kh q λa t u j e d b=>?_;injection e with e1 e2
   subst e1 e2;exact cK (i b) λc f g=>bX (y::c) (qo a t u _ Z d f)<|g.cons _
 |swap x y l=>
  intro ps q;cases ps with
  |nil=>exact nq ek q ff
  |cons z ps=>
   refine kh q λa t u j e d b=>?_;injection e with e1 e2
   subst e1 e2;induction ps with
   |nil=>exact nq ek b ff
   |cons k ps=>
    refine kh b λm t' n xs e o b=>?_;injection e with e1 e2
    subst e1 e2;exact bX (k::z::ps) ⟨m,t',n,_,Z,o,a,t,u,_,Z,d,b⟩<|.swap ..
 |trans _ _ r s=>
  intro ps q;exact cK (s q) λC f g=>cK (r f) λv w A=>bX v w<|A.trans g
theorem KX{w:fZ}{P:afO->bG->Prop}(d:s.heap.get? a=O (dG "list" L.toArray n))(f:jZ s.heap ps L)(h3:ps.length<=3)(h:∀out:List bb,out.Perm L->P (.done<|.ret .none) {s with heap:=te s.heap a L out.toArray}):ee (gy PR w) A (qO.«list.sort» ⟨[.ref a],[]⟩) P E s:=by
 have hl:=f.ez;have hls:=qu;refine rr (list_sort_plain _)<|db (λU U k=>listItems_at d Z k)<|wpAny_bind<|NU d Z ?_ (by refine rr (g6)<|rr fA ?_;lia)<|dA _;obtain⟨u,y⟩:∃u,(s.heap.update a<|lB λU=>(#[]:Array bb)).get? a=O (dG "list" #[] u):=⟨_,get?_update_seq d λU=>#[]⟩;refine db (λU U k=>Wa y Z k)<|db (λU U k=>af1 k (by show L.length<=_;refine rr fA ?_;lia)) ?_;refine wpAny_bind<|AA ?_<|dA _;refine eY ?_;have l:(((s.heap.update a<|lB λU=>#[]).push<|dG "tuple" L.toArray 0).push<|dG "list" #[] 0).get? a=O (dG "list" #[] u):=by
  refine rr (QC _ _ _ (by refine rr (size_push' _ _)<|rr (VK _ _ _) ?_;exact hY<|gB (fN d:a<s.heap.objs.size)))<|rr (QC _ _ _<|rr (VK _ _ _)<|hY (fN d:a<s.heap.objs.size)) ?_;exact y
 have xs:IK s.heap (((s.heap.update a<|lB λU=>#[]).push<|dG "tuple" L.toArray 0).push<|dG "list" #[] 0):=λb o e F=>by
  refine bM _<|bM _ ?_;refine rr (gf _ _ (λz=>by
   rw [<-z,d]at e;obtain rfl:=aJ e
   rcases F with⟨c,_⟩|⟨c,_⟩<;>simp at c)) ?_
  exact e
 show ee (gy PR w) A _ P E {s with heap:=((s.heap.update a<|lB λU=>#[]).push<|dG "tuple" L.toArray 0).push (dG "list" #[] 0)};dsimp only;by_cases g:L.toArray.size<2
 .refine rr (bI g)<|rr (bI g) ?_;refine pb<|rr (StateT.run_pure _ _)<|pb ?_;dsimp only;have e:(arrOf<|SortSt.mk' general' (L.toArray.zip L.toArray) #[] 7 X).map (·.2)=L.toArray:=by
   show(L.toArray.zip L.toArray).map (·.2)=_;apply Array.toList_inj.mp;simp;exact List.map_snd_zip (by simp)
  refine rr e<|wpAny_bind<|Wa l Z ?_;refine wpAny_bind<|NU l Z ?_ (dA _) (by refine rr (g6)<|rr fA ?_;lia);simp only [bne_self_eq_false,q7,if_false];exact bZ<|h L<|.refl _
 .refine rr (bu g)<|rr (bu g) ?_;have G:2<=L.length:=by simpa using g
  refine hV ((f.cp xs).agE) λfs H k2 I=>db (λU U k=>kat_kind (T:=.type "int") H (by lia) (λv f=>?_) dc k) ?_
  .exact mK (I v f) λm t ρ=>rr ρ<|oX rfl
  have K:(kas_sort L.length).kasWp (kas_ask PR w A (tuples' D) L) (λp s'=>p.toList.Perm (dk L.length)/\s'={s with heap:=((s.heap.update a<|lB λU=>#[]).push<|dG "tuple" L.toArray 0).push (dG "list" #[] 0)}) {s with heap:=((s.heap.update a<|lB λU=>#[]).push<|dG "tuple" L.toArray 0).push (dG "list" #[] 0)}:=by
   have q:=λi j C vs M=>OK (w:=w) (A:=A) (s:={s with heap:=((s.heap.update a<|lB λU=>#[]).push<|dG "tuple" L.toArray 0).push (dG "list" #[] 0)}) (f.cp xs) i j C vs M;have:L.length=2\/L.length=3:=by lia
   rcases this with e|e
   .rw [e]at q⊢;have:=MK q _ aeu;rw [kat_ask_eq Z]at this⊢;exact kas_wp_mono this λp s' aZ=>fw aZ λa b=>⟨List.isPerm_iff.mp a,b⟩
   .rw [e]at q⊢;have:=MK q _ aev;rw [kat_ask_eq Z]at this⊢;exact kas_wp_mono this λp s' aB=>fw aB λa b=>⟨List.isPerm_iff.mp a,b⟩
  refine wpAny_bind<|kat_run (Q:=λr s'=>∃p:Array Nat,arrOf r=p.map (kas_item<|L.toArray.zip L.toArray)/\failedOf r=X/\p.toList.Perm (dk L.length)/\s'=_) Z G (by lia) (λp' r s' a1 R aE V=>fW p' R aE V) K|>λx=>wpAny_mono x ?_ λU U e=>e;rintro⟨⟨⟩,r⟩ s' ⟨p,W,aG,aO,rfl⟩;refine rr (kat_snds Z W)<|db (λU U k=>Wa l Z k) ?_;have σ:(iZ<|p.toList.map λi=>L.getD i xr).size=L.length:=by exact rr (g6)<|rr (aT _)<|rr (aO.length_eq)<|rr (et) Z
  refine wpAny_bind<|NU l Z ?_ (dA _) (by refine rr σ<|rr fA ?_;lia);refine rr aG ?_;simp only [bne_self_eq_false,q7,if_false];exact bZ<|h _<|SJ aO _
section
variable{E:Ex}
theorem B5{x:a8}(u:Y x=O (.aF<|fC ps))(v:ps.length<=3)(q:∀r p,Y r=X->p.Perm ps->Q (.S r) (Y.aX r<|.aF<|fC p)):bE Γ (.eH "sorted") [.S x] Y Q E:=
 (dW Z (mL _) (λA s L i r e=>by
  refine n6 e λI ρ r1 y=>rr (fP y)<|rr (fG r1)<|i.zJ u λw n xs rl z=>have c:=EC rl;have K:=c.ez;have vs:=qu;D4 kind_sorted plain_sorted entry_sorted (args_sorted1 _)<|wpAny_bind (m:=checkCount "sorted" 1 1 _)<|bZ ?_;refine wpAny_bind<|collect_list (gI xs) ?_ z;have k:∀b o,s.heap.get? b=O o->((s.heap.push<|dG "list" #[] 0).update s.heap.objs.size (lB (·++w.toArray))).get? b=O o:=λb o a=>by
   refine rr (gf _ _ λh=>iG _<|h▸fN a) ?_;exact bM _ a
  generalize hH:(s.heap.push<|dG "list" #[] 0).update s.heap.objs.size (lB (·++w.toArray))=H at k;refine wpAny_bind<|AA ?_<|aD ‹_› dc;have d:(H.push {cls:=.type "list",data:=.seq w.toArray}).get? H.objs.size=O (dG "list" w.toArray 0):=cJ _ Z;have f:∀b o,s.heap.get? b=O o->(H.push {cls:=.type "list",data:=.seq w.toArray}).get? b=O o:=λb o a=>bM _<|k b o a;refine wpAny_bind<|eY<|lA af6 (bX _ d Z) afV (KX d (c.cp (h':=H.push {cls:=.type "list",data:=.seq w.toArray}) λb o e U=>f b o e) v λout j=>bX _ Z ?_)<|af7 _;refine cK (c.perm j) λp C aO=>ka (sortedHeap_at (vs:=w) (out:=out.toArray) d) λe F=>?_;have G:∀b o,b<H.objs.size->(H.push {cls:=.type "list",data:=.seq w.toArray}).get? b=O o->(te (H.push {cls:=.type "list",data:=.seq w.toArray}) H.objs.size w out.toArray).get? b=O o:=λb o l a=>by
   exact rr (af8 (hY l)<|rr (fj _ _)<|gB l) a
  have keep:∀b o,s.heap.get? b=O o->(te (H.push {cls:=.type "list",data:=.seq w.toArray}) H.objs.size w out.toArray).get? b=O o:=λb o a=>G b o (fN<|k b o a)<|f b o a;have t:s.heap.get? H.objs.size=X:=by
   cases q:s.heap.get? H.objs.size with
   |none=>rfl
   |some o=>have:=k _ _ q;replace this:=(dZ H).symm.trans this;exact nq aP this ff
  have st:eM Γ.g A Y s (Y.aX H.objs.size<|.aF<|fC p) {s with heap:=te (H.push {cls:=.type "list",data:=.seq w.toArray}) H.objs.size w out.toArray}:=
   .oE i ⟨keep,Z,Z⟩ t (fe out e F (OJ<|C.cp (h':=te (H.push {cls:=.type "list",data:=.seq w.toArray}) H.objs.size w out.toArray) λb o e U=>keep b o e)<|rr (j.length_eq) z) Z
  exact bZ<|bX _ Z ⟨_,.S _,st,jk,q _ p (i.gx t) aO⟩))
end
end
def Comp(st:lp)(np nl:Nat)(k:av):Prop:=Ey st=D/\N6 k (Sm st) (jP st) (xT st++JO st)=D/\(xT st).length=np/\(JO st).length=nl
structure Dn(g:Gd)(f:a8)(np nl:Nat)(ds:aw)(k:av):Prop where
 st:∃st,Zc g f st ds/\Comp st np nl k
variable{np:Nat}
theorem Dn.Zh{nl:Nat}{f:a8}{k:av}{E:Ex}(aO:Dn g f np nl ds k)(a:KF g)(b:1<=n)(c:args.length<=np/\ds.length<=np/\np<=args.length+ds.length)(e:args++ds.drop (args.length-(np-ds.length))=args')(h:iy ⟨g,hd,n-1⟩ (kU E) k (args'.map O++bg nl X) Y (yZ Q)):sy ⟨g,hd,n⟩ (.S f) args Y Q E:=by
 refine pS (aO.st) λst d i j l m=>?_;clear aO;subst l m;have:=sy.def d a i j c e h
 rwa [m6 b]at this
theorem Dn.go{nl:Nat}{f:a8}{k:av}{E:Ex}(aO:Dn g f np nl ds k)(a:KF g)(b:1<=n)(c:args.length<=np/\ds.length<=np/\np<=args.length+ds.length)(d:args++ds.drop (args.length-(np-ds.length))=args')(h:iy ⟨g,hd,n-1⟩ (kU E) k (args'.map O++bg nl X) Y (yZ Q)):bE ⟨g,hd,n⟩ (.S f) args Y Q E:=(aO.Zh a b c d h).spec
noncomputable abbrev lN(n:Int):CE:=.dT<|.aL n
abbrev fo:=lN 0
abbrev dU:=lN 1
abbrev mr:=lN 2
noncomputable abbrev dY(l:aq):CE:=.dT<|.aQ l
noncomputable abbrev iS(a:a8)(l:List CE):CE:=.jA (.dT<|.S a) l
noncomputable abbrev xW(n:String)(l:List CE):CE:=.jA (.dT<|.eH n) l
abbrev lY:=xW "len"
noncomputable abbrev nQ(n:String)(l:List CE):CE:=.jA (.dT<|.fK n) l
noncomputable abbrev hZ(i:Nat)(e:CE):CS:=.bY (.dR i) e
noncomputable abbrev zR(i:Nat)(e:CE)(l:av):CS:=.HG (.dR i) e l
noncomputable abbrev g9:=CE.fh .Add
noncomputable abbrev uf:=CE.fh .Sub
noncomputable abbrev kJ:=CE.dN .Eq
noncomputable abbrev Dc:=CE.dN .In
noncomputable abbrev gM(e:CE):CS:=.j7<|O e
noncomputable abbrev dB:=CE.dR 0
noncomputable abbrev eJ:=CE.dR 1
noncomputable abbrev fL:=CE.dR 2
noncomputable abbrev g4:=CE.dR 3
noncomputable abbrev lU:=CE.dR 4
noncomputable abbrev nM:=CE.dR 5
noncomputable abbrev sD:=CE.dR 6
noncomputable abbrev DH:=CE.dR 7
noncomputable abbrev Dd:=CE.dR 8
noncomputable abbrev zv9:=CE.dR 9
noncomputable abbrev An:=CE.dR 10
noncomputable abbrev Gf:=CE.dR 11
noncomputable abbrev OL:=CE.dR 12
noncomputable abbrev OM:=CE.dR 13
def k36:av:=[.bY (.bK dB 0) eJ,.bY (.bK dB 1) fL,.bY (.bK dB 2) g4]
def k57:av:=[hZ 2<|xW "min" [xW "max" [eJ,fo],lY [dB]],hZ 3 dU,hZ 4 fo,zR 5 (nQ "range" [fL]) [.cA (kJ (.cW dB nM)<|dY [10]) [hZ 3<|g9 g4 dU,hZ 4<|g9 nM dU] []],gM<|iS 46 [fL,g4,g9 (uf fL lU) dU]]
def k72:av:=[.dw<|.cH (.dT<|.fK "Exception") 39 [dB,eJ],.bY (.bK dB 3) eJ,.bY (.bK dB 4) fL]
def agF:av:=[.bY (.bK dB 5) eJ,.bY (.bK dB 4) fL]
def agG:av:=[gM<|.dN .GtE (.bK dB 4)<|lY [.bK dB 5]]
def agH:av:=[hZ 2<|g9 (.bK dB 4) eJ,.cA (.dN .Lt fL<|lY [.bK dB 5]) [gM<|.cW (.bK dB 5) fL] [],gM<|dY []]
def agI:av:=[gM<|kJ (.eC (.bK dB 5) (O<|.bK dB 4)<|O<|g9 (.bK dB 4)<|lY [eJ]) eJ]
def agJ:av:=[.cA (.cH dB 41 []) [gM<|dY []] [],hZ 1<|.cW (.bK dB 5)<|.bK dB 4,.bY (.bK dB 4)<|g9 (.bK dB 4) dU,gM eJ]
def agK:av:=[.cA (.mh<|.cH dB 58 [eJ]) [gM<|.dT<|.du bk] [],.bY (.bK dB 4)<|g9 (.bK dB 4)<|lY [eJ],gM<|.dT<|.du D]
def agL:av:=[hZ 2<|.bK dB 4,.nh (.pK .And [.dN .Lt (.bK dB 4)<|lY [.bK dB 5],Dc (.cW (.bK dB 5)<|.bK dB 4) eJ]) [.bY (.bK dB 4)<|g9 (.bK dB 4) dU],gM<|.eC (.bK dB 5) (O fL)<|O<|.bK dB 4]
def agM:av:=[gM<|iS 57 [.bK dB 5,.bK dB 4]]
def agN:av:=[hZ 1<|.cH dB 42 [],.cA (kJ eJ<|dY []) [gM<|dY []] [],.cA (Dc eJ<|.dT<|.ph 22) [.dw<|.cH dB 44 [],gM<|xW "chr" [.cW (.dT<|.ph 22) eJ]] [],.cA (Dc eJ<|dY [48,49,50,51,52,53,54,55]) [gM<|.cH dB 59 [dY [48,49,50,51,52,53,54,55],lN 3,lN 8]] [],.cA (.pK .And [kJ eJ<|dY [120],.dN .NotEq (.cH dB 42 [dU])<|dY [],Dc (.cH dB 42 [dU])<|dY [48,49,50,51,52,53,54,55,56,57,97,98,99,100,101,102,65,66,67,68,69,70]]) [.dw<|.cH dB 44 [],gM<|.cH dB 59 [dY [48,49,50,51,52,53,54,55,56,57,97,98,99,100,101,102,65,66,67,68,69,70],mr,lN 16]] [],gM<|.cH dB 44 []]
def agO:av:=[hZ 2<|.aF [],.nh (.mh<|.cH dB 41 []) [hZ 3<|.cH dB 44 [],.cA (kJ g4 eJ) [gM<|.cH (dY []) 6 [fL]] [],.cA (kJ g4<|dY [92]) [hZ 3<|.cH dB 68 [],.cA (kJ g4<|dY []) [gM<|.dT .bR] []] [],.dw<|.cH fL 37 [g4]],gM<|.dT .bR]
def agP:av:=[.cA (kJ dB<|dY [10]) [gM<|dY [92,110]] [],.cA (kJ dB<|dY [9]) [gM<|dY [92,116]] [],.cA (.pK .Or [Dc dB eJ,kJ dB<|dY [92]]) [gM<|g9 (dY [92]) dB] [],hZ 2<|xW "ord" [dB],.cA (.pK .And [.pK .Or [.dN .Lt fL<|lN 32,.dN .Gt fL<|lN 126],.dN .Lt fL<|lN 256]) [gM<|iS 245 [fL]] [],gM dB]
def agQ:av:=[gM<|.cH (dY []) 6 [.iB (iS 252 [eJ,fL]) [1] dB [] [X,X,O 1]]]
def agR:av:=[.bY (.bK dB 7) eJ,.bY (.bK dB 8) fL,.bY (.bK dB 9) g4,.bY (.bK dB 10) lU,.bY (.bK dB 11) nM,.bY (.bK dB 12)<|.aF [],.bY (.bK dB 13)<|.cQ [] [],zR 6 (nQ "range" [fL]) [.bY (.cW (.bK dB 13)<|.cW eJ sD) sD]]
def agS:av:=[gM<|nQ "tuple" [.iB (.bD [eJ,.cW fL eJ]) [1] (xW "sorted" [dB]) [] [X,X,O 0]]]
def agT:av:=[hZ 1<|.cQ [] [],hZ 2<|.aF [],zR 3 (nQ "range" [lY [dB]]) [hZ 4<|iS 360 [.cW dB g4],.cA (.dN .NotIn lU eJ) [.bY (.cW eJ lU) g4] [],.dw<|.cH fL 37 [.cW eJ lU]],gM fL]
def agU:av:=[hZ 2<|.aF [],zR 3 (nQ "range" [lY [dB]]) [.cA (.pK .And [kJ (.cW eJ g4) g4,.dN .Gt (lY [.cW dB g4]) fo]) [.dw<|.cH fL 37 [.bD [.jb<|lY [.cW dB g4],g4]]] []],gM<|.iB (.cW eJ dU) [1] (xW "sorted" [fL]) [] [X,X]]
def agV:av:=[.bY (.bK dB 14)<|.aF [],.bY (.bK dB 15)<|.aF []]
def agW:av:=[gM<|.pK .Or [.dN .GtE eJ<|lY [.bK dB 15],kJ (.cW (.bK dB 15) eJ) fo]]
def agX:av:=[zR 3 fL [.cA (.mh<|.cH dB 70 [g9 eJ g4]) [gM<|.dT<|.du bk] []],gM<|.dT<|.du D]
def agY:av:=[hZ 2<|.jb<|.cW eJ fo,.nh (.mh<|.cH dB 60 [fL,eJ]) [hZ 2<|g9 fL dU],gM fL]
def agZ:av:=[.nh (.dN .Lt (lY [.bK dB 15]) eJ) [.dw<|.cH (.bK dB 14) 37 [fo],.dw<|.cH (.bK dB 15) 37 [fo]]]
def aew:av:=[hZ 3<|xW "sorted" [fL],hZ 4<|.cH dB 47 [g4],.dw<|.cH dB 48 [g9 (g9 lU<|.cW g4<|.jb dU) dU],zR 5 g4 [.bY (.cW (.bK dB 14)<|g9 lU nM)<|.cW fL nM,.bY (.cW (.bK dB 15)<|g9 lU nM)<|g9 eJ dU],gM lU]
def aex:av:=[hZ 1<|iS 367 [dB],hZ 2<|iS 424 [],hZ 3<|.iB fo [1] dB [] [X,X],zR 4 (iS 372 [dB,eJ]) [.bY (.cW g4 lU)<|.cH fL 49 [lU,.cW dB lU]],gM<|.bD [.iB (.cW fL eJ) [1] eJ [] [X,X,O 3],.bK fL 14,.bK fL 15]]
def ag0:av:=[.bY (.bK dB 16) eJ,.bY (.bK dB 14) fL,.bY (.bK dB 15) g4,.bY (.bK dB 17) lU]
def ag1:av:=[hZ 2<|.iB (.cQ [] []) [1] (.bK dB 17) [] [X,X],zR 3 (nQ "range" [lY [.bK dB 15]]) [.cA (.dN .NotEq (.cW (.bK dB 15) g4) fo) [hZ 1<|uf (.cW (.bK dB 15) g4) dU,.bY (.cW (.cW fL eJ)<|uf g4<|.cW (.bK dB 16) eJ)<|.cW (.bK dB 14) g4] []],gM<|.iB (nQ "dict" [.cW fL eJ]) [1] (.bK dB 17) [] [X,X,O 2]]
def ag2:av:=[.cA (.pK .Or [.dN .NotEq (lY [.bK dB 16]) eJ,.dN .NotEq (lY [.bK dB 17]) eJ]) [gM<|dY [119,114,111,110,103,32,110,117,109,98,101,114,32,111,102,32,114,111,119,115]] [],zR 2 (nQ "range" [eJ]) [hZ 3<|.cW (.bK dB 17) fL,.cA (.pK .Or [.dN .Lt g4 fo,.dN .Gt g4 fL,.dN .NotEq (.cW (.bK dB 17) g4) g4]) [gM<|dY [119,114,111,110,103,32,111,119,110,101,114,32,111,102,32,97,32,114,111,119]] [],.cA (.dN .NotEq (.cW (.bK dB 16) fL)<|.cW (.bK dB 16) g4) [gM<|dY [101,113,117,97,108,32,114,111,119,115,32,97,116,32,116,119,111,32,98,97,115,101,115]] []],gM<|dY []]
def aey:av:=[.cA (.dN .NotEq (lY [.bK dB 14])<|lY [.bK dB 15]) [gM<|dY [119,114,111,110,103,32,110,117,109,98,101,114,32,111,102,32,99,101,108,108,115]] [],.cA (.pK .And [.dN .NotEq (.bK dB 15)<|.aF [],kJ (.cW (.bK dB 15)<|.jb dU) fo]) [gM<|dY [97,32,102,114,101,101,32,99,101,108,108,32,97,116,32,116,104,101,32,101,110,100]] [],zR 2 (nQ "range" [lY [.bK dB 15]]) [hZ 3<|uf (.cW (.bK dB 15) fL) dU,.cA (.pK .Or [.dN .Lt g4<|.jb dU,.dN .GtE g4<|lY [.bK dB 17]]) [gM<|dY [119,114,111,110,103,32,111,119,110,101,114,32,111,102,32,97,32,99,101,108,108]] [],.cA (.pK .And [kJ g4<|.jb dU,.dN .NotEq (.cW (.bK dB 14) fL) fo]) [gM<|dY [97,32,110,117,109,98,101,114,32,105,110,32,97,32,102,114,101,101,32,99,101,108,108]] [],.cA (.pK .And [.dN .GtE g4 fo,.pK .Or [.dN .NotEq (.cW (.bK dB 17) g4) g4,.mh<|.pU .LtE .Lt fo (uf fL<|.cW (.bK dB 16) g4) eJ]]) [gM<|dY [97,32,99,101,108,108,32,98,101,121,111,110,100,32,105,116,115,32,114,111,119]] []],gM<|dY []]
def ag3:av:=[hZ 3<|.cH dB 50 [eJ],.cA (kJ g4<|dY []) [hZ 3<|.cH dB 61 [fL]] [],.cA (.dN .NotEq g4<|dY []) [gM g4] [],hZ 4<|.cH dB 32 [],zR 5 (nQ "range" [eJ]) [.cA (.pK .And [kJ (.cW lU nM)<|.cQ [] [],.dN .NotEq (.cW (.bK dB 16) nM) fo]) [gM<|dY [97,32,98,97,115,101,32,119,105,116,104,111,117,116,32,97,32,114,111,119]] []],gM<|dY []]
def ag4:av:=[.bY (.bD [1,2,3])<|iS 433 [dB],gM<|iS 504 [eJ,fL,g4,iS 367 [dB]]]
def ag5:av:=[.bY (.bD [7,8,9,10,11]) eJ,.dw<|.cH (.dT<|.S 351) 39 [dB,DH,Dd,zv9,An,Gf],.bY (.bK dB 12) fL,.bY (.bK dB 18) g4,.bY (.bK dB 16)<|.bK g4 16,.bY (.bK dB 14)<|.bK g4 14,.bY (.bK dB 15)<|.bK g4 15,.bY (.bK dB 17)<|.bK g4 17,.bY (.bK dB 19) lU,.bY (.bK dB 20)<|.bK lU 16,.bY (.bK dB 21)<|.bK lU 14,.bY (.bK dB 22)<|.bK lU 15,.bY (.bK dB 23)<|.bK lU 17,.bY (.bK dB 24) nM,.bY (.bK dB 25) sD]
def ag6:av:=[.bY (.bD [2,3])<|.cW dB eJ,.cA (kJ fL<|dY [106,117,109,112]) [gM<|.aF [g4]] [],.cA (.pK .And [kJ fL<|dY [119,111,114,100],Dc g4<|.dT<|.bD [.aQ [89,89,69,82,82,79,82],.aQ [89,89,65,66,79,82,84],.aQ [89,89,65,67,67,69,80,84]]]) [gM<|.aF []] [],.cA (Dc fL<|.dT<|.bD [.aQ [106,117,109,112],.aQ [117,110,108,101,115,115],.aQ [119,104,101,110]]) [gM<|.aF [g9 eJ dU,g4]] [],gM<|.aF [g9 eJ dU]]
def ag7:av:=[.cA (Dc dB<|.bD [dY [112,117,115,104],dY [97,114,103],dY [111,119,110],dY [103,101,116]]) [gM<|.bD [fo,dU]] [],.cA (Dc dB<|.bD [dY [115,101,116],dY [112,117,116],dY [100,114,111,112],dY [117,110,108,101,115,115],dY [119,104,101,110]]) [gM<|.bD [dU,fo]] [],.cA (kJ dB<|dY [116,119,111]) [gM<|.bD [mr,dU]] [],.cA (Dc dB<|.bD [dY [111,110,101],dY [116,114,117,116,104]]) [gM<|.bD [dU,dU]] [],.cA (kJ dB<|dY [108,105,115,116]) [gM<|.bD [eJ,dU]] [],.cA (kJ dB<|dY [97,112,112,108,121]) [gM<|.bD [.cW (.dT<|.ph 565) eJ,dU]] [],gM<|.bD [fo,fo]]
def ag8:av:=[.cA (Dc dB<|.dT<|.bD [.aQ [106,117,109,112],.aQ [117,110,108,101,115,115],.aQ [119,104,101,110]]) [gM<|.pK .And [xW "isinstance" [eJ,.dT<|.fK "int"],.pU .LtE .LtE fo eJ fL]] [],.cA (Dc dB<|.bD [dY [97,114,103],dY [108,105,115,116]]) [gM<|.pK .And [xW "isinstance" [eJ,.dT<|.fK "int"],.dN .GtE eJ<|nQ "int" [kJ dB<|dY [97,114,103]]]] [],.cA (kJ dB<|dY [112,117,115,104]) [gM<|xW "isinstance" [eJ,.bD [.dT<|.fK "int",.dT<|.fK "str"]]] [],.cA (Dc dB<|.bD [dY [103,101,116],dY [112,117,116]]) [gM<|.pK .And [xW "isinstance" [eJ,.dT<|.fK "str"],.dN .NotEq eJ<|dY []]] [],.cA (kJ dB<|dY [116,119,111]) [gM<|.pK .And [Dc eJ<|.dT<|.ph 564,.dN .Gt (.cW (.dT<|.ph 564) eJ) mr]] [],.cA (kJ dB<|dY [111,110,101]) [gM<|Dc eJ<|.bD [dY [45],dY [33]]] [],.cA (kJ dB<|dY [97,112,112,108,121]) [gM<|Dc eJ<|.dT<|.ph 565] [],.cA (kJ dB<|dY [119,111,114,100]) [gM<|Dc eJ<|.dT<|.bD [.aQ [121,121,101,114,114,111,107],.aQ [121,121,99,108,101,97,114,105,110],.aQ [89,89,69,82,82,79,82],.aQ [89,89,65,66,79,82,84],.aQ [89,89,65,67,67,69,80,84]]] [],gM<|.pK .And [Dc dB<|.bD [dY [111,119,110],dY [115,101,116],dY [100,114,111,112],dY [116,114,117,116,104],dY [102,114,101,115,104]],.dN .Is eJ<|.dT .bR]]
def aez:av:=[.BA 1 2 dB [.cA (.mh<|iS 588 [.cW fL fo,.cW fL dU,lY [dB]]) [.pV<|iS 95 [g9 (dY [110,111,32,99,111,100,101,32,97,116,32])<|nQ "str" [eJ]]] []],hZ 3<|.iB (.jb dU) [1] (nQ "range" [g9 (lY [dB]) dU]) [] [X,X],hZ 4<|.aF [.bD [fo,fo]],.nh (.dN .NotEq lU<|.aF []) [.bY (.bD [1,5])<|.cH lU 51 [],.cA (.dN .GtE (.cW g4 eJ) fo) [.cA (.dN .NotEq (.cW g4 eJ) nM) [.pV<|iS 95 [g9 (dY [116,119,111,32,100,101,112,116,104,115,32,111,102,32,116,104,101,32,115,116,97,99,107,32,97,116,32])<|nQ "str" [eJ]]] [],.mN] [],.bY (.cW g4 eJ) nM,.cA (kJ eJ<|lY [dB]) [.mN] [],.bY (.bD [6,7])<|iS 581 [.cW (.cW dB eJ) fo,.cW (.cW dB eJ) dU],.cA (.dN .Gt sD nM) [.pV<|iS 95 [g9 (dY [97,32,118,97,108,117,101,32,105,115,32,109,105,115,115,105,110,103,32,97,116,32])<|nQ "str" [eJ]]] [],.dw<|.cH lU 52 [.iB (.bD [eJ,g9 (uf fL lU) g4]) [1] (iS 574 [dB,eJ]) [] [X,X,O 5,O 7,O 6]]],.cA (.dN .Gt (.cW g4<|lY [dB]) fo) [.pV<|iS 95 [dY [118,97,108,117,101,115,32,97,114,101,32,108,101,102,116,32,97,116,32,116,104,101,32,101,110,100]]] []]
def ag9:av:=[.cA (.dN .Is dB<|.dT .bR) [gM<|dY [45]] [],.cA (xW "isinstance" [dB,.dT<|.fK "str"]) [gM<|g9 (g9 (dY [34])<|iS 257 [dB,dY [34]])<|dY [34]] [],.cA (xW "isinstance" [dB,.bD [.dT<|.fK "tuple",.dT<|.fK "list"]]) [gM<|g9 (g9 (dY [40])<|.cH (dY [32]) 6 [.iB (iS 598 [eJ]) [1] dB [] [X,X]])<|dY [41]] [],gM<|nQ "str" [dB]]
def ag':av:=[.bY (.bK dB 26)<|.aF [eJ]]
def aha:av:=[.dw<|.cH (.bK dB 26) 37 [.cH (dY [32]) 6 [g9 (.aF [eJ,g9 (nQ "str" [lY [fL]])<|dY [58]])<|.iB (iS 598 [eJ]) [1] fL [] [X,X]]]]
def ahb:av:=[gM<|g9 (.cH (dY [10]) 6 [g9 (.bK dB 26)<|.aF [g9 (dY [101,110,100,32])<|nQ "str" [g9 (lY [.bK dB 26]) dU]]])<|dY [10]]
def ahc:av:=[.bY (.bK dB 27)<|iS 234 [eJ],.bY (.bK dB 26) fo]
def ahe:av:=[.pV<|iS 107 [eJ,.cH (.bK dB 27) 63 []]]
def ahf:av:=[.cA (.mh<|.cH (.bK dB 27) 55 [eJ]) [.dw<|.cH dB 57 [g9 (g9 (dY [110,111,116,32,97,32,119,114,105,116,116,101,110,32,116,97,98,108,101,58,32]) eJ)<|dY [32,105,115,32,109,105,115,115,105,110,103]]] []]
def ahg:av:=[.dw<|.cH dB 53 [eJ],.dw<|.cH dB 54 []]
def ahh:av:=[.dw<|.cH dB 53 [dY [10]],.bY (.bK dB 26)<|g9 (.bK dB 26) dU]
def aeA:av:=[hZ 1<|.cA (.cH (.bK dB 27) 55 [dY [45]]) (.jb dU) dU,hZ 2<|.cH (.bK dB 27) 43 [dY [48,49,50,51,52,53,54,55,56,57]],.cA (.pK .Or [kJ fL<|dY [],.dN .Gt (lY [fL])<|lN 160]) [.dw<|.cH dB 57 [dY [97,32,110,117,109,98,101,114,32,105,115,32,109,105,115,115,105,110,103,44,32,111,114,32,116,111,111,32,108,111,110,103]]] [],gM<|.fh .Mult eJ<|nQ "int" [fL]]
def aeB:av:=[.cA (.cH (.bK dB 27) 55 [dY [34]]) [hZ 2<|.cH (.bK dB 27) 64 [dY [34]],.cA (.dN .Is fL<|.dT .bR) [.dw<|.cH dB 57 [dY [97,32,116,101,120,116,32,119,105,116,104,111,117,116,32,97,110,32,101,110,100]]] [],gM fL] [],.cA (.cH (.bK dB 27) 55 [dY [40]]) [gM<|.cH dB 65 [g9 eJ dU]] [],.cA (.pK .And [kJ (.cH (.bK dB 27) 42 [])<|dY [45],.pK .Or [kJ (.cH (.bK dB 27) 42 [dU])<|dY [],.dN .NotIn (.cH (.bK dB 27) 42 [dU])<|dY [48,49,50,51,52,53,54,55,56,57]]]) [.dw<|.cH (.bK dB 27) 44 [],gM<|.dT .bR] [],gM<|.cH dB 56 []]
def ahi:av:=[.cA (.dN .Gt eJ mr) [.dw<|.cH dB 57 [dY [98,114,97,99,107,101,116,115,32,116,111,111,32,100,101,101,112]]] [],hZ 2<|.aF [],.cA (.cH (.bK dB 27) 55 [dY [41]]) [gM<|.bD []] [],.dw<|.cH fL 37 [.cH dB 66 [eJ]],.nh (.mh<|.cH (.bK dB 27) 55 [dY [41]]) [.dw<|.cH dB 53 [dY [32]],.dw<|.cH fL 37 [.cH dB 66 [eJ]]],gM<|nQ "tuple" [fL]]
def ahj:av:=[.dw<|.cH dB 53 [g9 eJ<|dY [32]],hZ 2<|.cH dB 56 [],.dw<|.cH dB 53 [dY [58]],hZ 3<|.aF [],zR 4 (nQ "range" [fL]) [.dw<|.cH dB 53 [dY [32]],.dw<|.cH g4 37 [.cH dB 66 []]],.dw<|.cH dB 54 [],gM g4]
def Xn:av:=[hZ 5<|.cH dB 34 [eJ],.cA (.pK .And [.dN .IsNot lU<|.dT .bR,.dN .NotEq (lY [nM]) lU]) [.dw<|.cH dB 57 [g9 (dY [97,32,119,114,111,110,103,32,110,117,109,98,101,114,32,111,102,32,105,116,101,109,115,32,102,111,114,32]) eJ]] [],zR 6 nM [hZ 7<|.pK .Or [.mh<|xW "isinstance" [sD,.dT<|.fK "int"],.pK .And [.dN .IsNot fL<|.dT .bR,.dN .Lt sD fL]],.cA (.pK .Or [DH,.pK .And [.dN .IsNot g4<|.dT .bR,.dN .Gt sD g4]]) [.dw<|.cH dB 57 [g9 (dY [97,32,119,114,111,110,103,32,110,117,109,98,101,114,32,102,111,114,32]) eJ]] []],gM nM]
def ahk:av:=[gM<|.cW (.cH dB 13 [eJ,fL,g4,dU]) fo]
def ahl:av:=[hZ 2<|.cH dB 34 [eJ],zR 3 (nQ "range" [lY [fL]]) [.cA (.pK .Or [.mh<|xW "isinstance" [.cW fL g4,.dT<|.fK "str"],Dc (.cW fL g4)<|.eC fL X<|O g4]) [.dw<|.cH dB 57 [g9 (dY [97,32,119,114,111,110,103,32,116,101,120,116,32,102,111,114,32]) eJ]] []],gM fL]
def ahm:av:=[.dw<|.cH dB 53 [dY [101,110,100,32]],.cA (.dN .NotEq (.cH dB 56 [])<|g9 (.bK dB 26) dU) [.dw<|.cH dB 57 [dY [97,32,119,114,111,110,103,32,110,117,109,98,101,114,32,111,102,32,108,105,110,101,115]]] [],.dw<|.cH dB 54 [],.cA (.mh<|.cH (.bK dB 27) 41 []) [.dw<|.cH dB 57 [dY [115,111,109,101,116,104,105,110,103,32,98,101,104,105,110,100,32,116,104,101,32,108,97,115,116,32,108,105,110,101]]] []]
def ahn:av:=[hZ 2<|.bK (.bK dB 27) 5,.cA (kJ fL eJ) [.j7 X] [],hZ 3 fo,.nh (.pK .And [.dN .Lt g4<|lY [fL],.dN .Lt g4<|lY [eJ],kJ (.cW fL g4)<|.cW eJ g4]) [hZ 3<|g9 g4 dU],.pV<|iS 107 [dY [110,111,116,32,97,115,32,105,116,32,105,115,32,119,114,105,116,116,101,110],.cH (.bK dB 27) 67 [g4]]]
def aho:av:=[.dw<|.cH dB 28 [g9 eJ<|dY [98,97,115,101,115],.bK fL 16],.dw<|.cH dB 28 [g9 eJ<|dY [116,97,98,108,101],.bK fL 14],.dw<|.cH dB 28 [g9 eJ<|dY [99,104,101,99,107],.bK fL 15],.dw<|.cH dB 28 [g9 eJ<|dY [111,119,110,101,114,115],.bK fL 17]]
def ahp:av:=[hZ 6<|.cH dB 13 [g9 eJ<|dY [98,97,115,101,115]],hZ 7<|.cH dB 13 [g9 eJ<|dY [116,97,98,108,101],lU,nM],hZ 8<|.cH dB 13 [g9 eJ<|dY [99,104,101,99,107]],hZ 9<|iS 504 [sD,DH,Dd,.cH dB 13 [g9 eJ<|dY [111,119,110,101,114,115]]],hZ 10<|.cH zv9 29 [fL,g4],.cA (.dN .NotEq An<|dY []) [.dw<|.cH dB 57 [An]] [],gM zv9]
def ahq:av:=[hZ 2<|iS 627 [dY [103,114,97,109,109,97,114,109,105,108,108,32,112,97,114,115,101,114,32,49]],.dw<|.cH fL 28 [dY [110,97,109,101,115],.bK dB 7],.dw<|.cH fL 28 [dY [116,101,114,109,105,110,97,108,115],.aF [.bK dB 8]],.dw<|.cH fL 28 [dY [108,101,102,116,115],.bK dB 9],.dw<|.cH fL 28 [dY [108,101,110,103,116,104,115],.bK dB 10],.dw<|.cH fL 28 [dY [98,101,102,111,114,101,115],.bK dB 11],.dw<|.cH fL 28 [dY [100,101,102,97,117,108,116,115],.bK dB 12],.dw<|iS 753 [fL,dY [],.bK dB 18],.dw<|.cH fL 28 [dY [103,111,116,111,95,100,101,102,97,117,108,116,115],.bK dB 24],.dw<|.cH fL 28 [dY [103,111,116,111,95,109,97,115,107,115],.bK dB 25],.dw<|iS 753 [fL,dY [103,111,116,111,95],.bK dB 19],.dw<|.cH fL 28 [dY [99,111,100,101,115],eJ],gM<|.cH fL 5 []]
def ahr:av:=[hZ 1<|.cH dB 30 [dY [110,97,109,101,115]],.cA (.dN .NotEq (.eC eJ X<|O<|lN 3)<|.dT<|.ph 746) [.dw<|.cH dB 57 [dY [119,114,111,110,103,32,102,105,114,115,116,32,110,97,109,101,115]]] [],hZ 2<|.cH dB 31 [dY [116,101,114,109,105,110,97,108,115],lN 3,uf (lY [eJ]) dU],hZ 3<|.cH dB 13 [dY [108,101,102,116,115],fL,uf (lY [eJ]) dU],.cA (.pK .Or [.dN .NotEq (.cW eJ fL)<|dY [36,97,99,99,101,112,116],kJ g4<|.aF [],.dN .NotEq (.cW g4 fo) fL,Dc fL<|.eC g4 (O dU) X]) [.dw<|.cH dB 57 [dY [119,114,111,110,103,32,102,105,114,115,116,32,114,117,108,101]]] [],hZ 4<|.cH dB 13 [dY [108,101,110,103,116,104,115],fo,.dT .bR,lY [g4]],hZ 5<|.cH dB 13 [dY [98,101,102,111,114,101,115],fo,.dT .bR,lY [g4]],.cA (.dN .NotEq (.cW lU fo) mr) [.dw<|.cH dB 57 [dY [119,114,111,110,103,32,102,105,114,115,116,32,114,117,108,101]]] [],zR 6 (nQ "range" [lY [g4]]) [.cA (.pK .And [.dN .NotEq (.cW nM sD) fo,.dN .NotEq (.cW lU sD) fo]) [.dw<|.cH dB 57 [dY [115,121,109,98,111,108,115,32,97,104,101,97,100,32,111,102,32,97,32,114,117,108,101,32,116,104,97,116,32,104,97,115,32,115,111,109,101]]] []],gM<|.bD [eJ,fL,g4,lU,nM]]
def abf:av:=[zR 4 (.cH eJ 32 []) [zR 5 (xW "sorted" [lU]) [hZ 6<|.cW lU nM,hZ 7<|.pU .Lt .Lt fo sD fL,hZ 8<|.pU .Lt .Lt (.jb g4) sD fo,.cA (.pK .And [.mh DH,.mh Dd,.dN .NotEq sD<|lN 1048576,.dN .NotEq sD<|lN<|-1048576]) [.dw<|.cH dB 57 [dY [97,32,119,114,111,110,103,32,97,99,116,105,111,110]]] []]]]
def aeC:av:=[hZ 5<|.cH eJ 32 [],zR 6 (nQ "range" [lY [g4]]) [.cA (.dN .NotEq (kJ (.cW g4 sD) fo)<|kJ (.cW fL sD)<|.jb dU) [.dw<|.cH dB 57 [dY [97,32,100,101,102,97,117,108,116,32,119,105,116,104,111,117,116,32,103,111,116,111,115,44,32,111,114,32,110,111,110,101,32,119,105,116,104,32,116,104,101,109]]] [],.cA (.pK .Or [.dN .NotEq (.fh .RShift (.cW g4 sD) lU) fo,kJ (.cW fL sD) fo]) [.dw<|.cH dB 57 [dY [97,32,119,114,111,110,103,32,103,111,116,111]]] [],zR 7 (xW "sorted" [.cW nM sD]) [.cA (.pK .Or [kJ (.fh .BitAnd (.fh .RShift (.cW g4 sD) DH) dU) fo,kJ (.cW (.cW nM sD) DH)<|.cW fL sD]) [.dw<|.cH dB 57 [dY [97,32,103,111,116,111,32,116,104,97,116,32,105,115,32,110,111,116,32,110,101,101,100,101,100]]] [],.cA (.dN .Lt (.cW (.cW nM sD) DH) dU) [.dw<|.cH dB 57 [dY [97,32,119,114,111,110,103,32,103,111,116,111]]] []]]]
def aeD:av:=[.cA (.dN .Is eJ<|.dT .bR) [gM<|.dT .bR] [],.cA (.mh<|xW "isinstance" [eJ,.dT<|.fK "tuple"]) [.dw<|.cH dB 57 [dY [97,32,119,114,111,110,103,32,99,111,100,101]]] [],zR 2 eJ [.cA (.pK .Or [.mh<|xW "isinstance" [fL,.dT<|.fK "tuple"],.dN .NotEq (lY [fL]) mr,.mh<|xW "isinstance" [.cW fL fo,.dT<|.fK "str"]]) [.dw<|.cH dB 57 [dY [97,32,119,114,111,110,103,32,99,111,100,101]]] []],.Ed [.dw<|iS 593 [nQ "list" [eJ]]] 95 3 [.dw<|.cH dB 57 [.bK g4 3]],gM<|nQ "list" [eJ]]
def Xo:av:=[hZ 1<|iS 741 [dB],.dw<|.cH eJ 33 [dY [103,114,97,109,109,97,114,109,105,108,108,32,112,97,114,115,101,114,32,49]],hZ 2<|iS 775 [eJ],hZ 3<|.cW fL dU,hZ 4<|lY [.cW fL mr],hZ 5<|uf (lY [.cW fL fo]) g4,hZ 6<|.cH eJ 13 [dY [100,101,102,97,117,108,116,115],fo,uf lU dU],hZ 7<|lY [sD],.cA (kJ DH fo) [.dw<|.cH eJ 57 [dY [110,111,32,115,116,97,116,101,115]]] [],hZ 8<|iS 761 [eJ,dY [],DH,g4],.dw<|iS 782 [eJ,Dd,DH,lU],hZ 9<|.cH eJ 13 [dY [103,111,116,111,95,100,101,102,97,117,108,116,115],.jb dU,uf DH dU,nM],hZ 10<|.cH eJ 13 [dY [103,111,116,111,95,109,97,115,107,115],.dT .bR,.dT .bR,nM],hZ 11<|iS 761 [eJ,dY [103,111,116,111,95],nM,DH,fo,uf DH dU],.dw<|iS 789 [eJ,Gf,zv9,An,DH],hZ 12<|.cH eJ 34 [dY [99,111,100,101,115]],.cA (.dN .NotEq (lY [OL]) lU) [.dw<|.cH eJ 57 [dY [97,32,119,114,111,110,103,32,110,117,109,98,101,114,32,111,102,32,99,111,100,101,115]]] [],hZ 13<|.iB (iS 796 [fL,eJ]) [1] OL [] [X,X,O 1],.dw<|.cH eJ 35 [],hZ 14<|iS 560 [fL,sD,Dd,Gf,zv9,An],.dw<|.cH eJ 36 [iS 768 [.dR 14,OM]],gM<|.bD [.dR 14,OM]]
def ahs:av:=[gM<|.aF [.iB (nQ "int" [eJ]) [1] (.eC dB X<|O<|lN 40) [] [X,X],fo,fo]]
def abg:av:=[.cA (.dN .Gt (.cW dB mr) fo) [hZ 2<|.fh .Mod (nQ "int" [.cW dB mr]) eJ,.bY (.cW dB mr)<|.fh .FloorDiv (nQ "int" [.cW dB mr]) eJ,gM fL] [],hZ 3<|.cW dB dU,.bY (.cW dB dU)<|g9 g4 dU,hZ 4<|g9 (g9 (.fh .Mult (lN 20947) g4)<|lN 3571)<|.fh .Mod (nQ "int" [xW "sum" [.eC (.cW dB fo) X<|O dU]])<|lN 1000003,.cA (.dN .NotEq (.cW dB fo)<|.aF []) [hZ 4<|.cW (.cW dB fo)<|.fh .Mod (nQ "int" [g4])<|lY [.cW dB fo]] [],.cA (.pK .And [.dN .Lt g4<|lY [.cW dB fo],.dN .GtE (xW "abs" [lU])<|.fh .Pow (lN 10)<|lN 18]) [hZ 5<|g9 (.fh .Mult mr<|uf (xW "abs" [lU])<|.fh .Pow (lN 10)<|lN 18)<|nQ "int" [.dN .Lt lU fo],.bY (.cW dB mr)<|.fh .FloorDiv (nQ "int" [nM]) eJ,gM<|.fh .Mod (nQ "int" [nM]) eJ] [],hZ 6<|.fh .Mod (nQ "int" [.fh .Pow (g9 (g9 (.fh .Mod (nQ "int" [lU])<|lN 2147483587)<|.fh .Mult (lN 20947) g4)<|lN 3571)<|lN 5])<|lN 2147483629,hZ 6<|.fh .Mod (nQ "int" [.fh .Pow (g9 (g9 (.fh .Mult sD<|g9 (.fh .Mult mr g4)<|lN 7207)<|.fh .Mult (.fh .Mult (lN 20947) g4) g4)<|lN 31)<|lN 3])<|lN 2147483579,gM<|.fh .Mod (nQ "int" [.fh .FloorDiv sD<|lN 32]) eJ]
def aht:av:=[gM<|.cW eJ<|iS 813 [dB,lY [eJ]]]
def ahu:av:=[.bY (.bD [3,4,5])<|.bD [.aF [eJ],.aF [mr],.aF [fo]],zR 6 (nQ "range" [g9 dU<|iS 813 [dB,lN 3]]) [.dw<|.cH g4 37 [g9 (g9 eJ dU)<|iS 813 [dB,uf fL dU]],.dw<|.cH lU 37 [iS 820 [dB,.aF [fo,dU,lN 3,lN 12]]],.dw<|.cH nM 37 [.cA (kJ (.cW lU<|.jb dU) fo) (iS 813 [dB,lN 3]) fo]],gM<|.bD [g4,lU,nM]]
def ahv:av:=[hZ 1<|iS 820 [dB,.aF [dY [],dY [97,98],dY [97,34,98],dY [92],dY [10],dY [45,32,49,58]]],hZ 2<|.aF [.dT .bR,.aF [],.aF [.bD [dY [97,114,103],g9 dU<|iS 813 [dB,lN 3]],.bD [dY [115,101,116],.dT .bR]],.aF [.bD [dY [112,117,115,104],eJ],.bD [dY [115,101,116],.dT .bR]]],.dw<|.cH fL 37 [.aF [.bD [dY [103,101,116],dY [110]],.bD [dY [117,110,108,101,115,115],lN 4],.bD [dY [112,117,115,104],uf (iS 813 [dB,lN 3]) dU],.bD [dY [112,117,116],dY [110]]]],.dw<|.cH fL 37 [.aF [.bD [dY [97,114,103],dU],.bD [dY [97,114,103],lN 3],.bD [dY [116,119,111],dY [43]],.bD [dY [111,110,101],dY [45]],.bD [dY [115,101,116],.dT .bR],.bD [dY [119,111,114,100],dY [121,121,101,114,114,111,107]]]],gM<|iS 820 [dB,fL]]
def Zi:av:=[hZ 12<|iS 813 [dB,lN 7],.cA (kJ OL fo) [.bY (.cW An Gf)<|iS 820 [dB,.aF [lN 1048576,lN<|-1048576]]] [.cA (kJ OL dU) [.bY (.cW An Gf)<|uf (uf fo dU)<|iS 813 [dB,uf (lY [nM]) dU]] [.cA (.pK .And [kJ OL mr,.dN .Gt eJ dU]) [.bY (.cW An Gf)<|g9 dU<|iS 813 [dB,uf eJ dU]] []]]]
def Zj:av:=[hZ 10<|.cQ [] [],zR 11 (nQ "range" [fL]) Zi,.dw<|.cH Dd 37 [An]]
def Zk:av:=[hZ 15<|.iB (.cA (.pK .And [.dN .Gt g4 dU,kJ (iS 813 [fL,mr]) fo]) (g9 dU<|iS 813 [fL,uf g4 dU])<|.jb dU) [1] (nQ "range" [eJ]) [] [X,X,O 0,O 1],.dw<|.cH OM 37 [.dR 15]]
def Zl:av:=[.dw<|.cH (.dR 19) 37 [nQ "dict" [.iB (.bD [eJ,.cW (.cW g4 fL) eJ]) [1] (nQ "range" [eJ]) [.dN .NotIn (.cW (.cW g4 fL) eJ)<|.bD [.jb dU,.cW lU fL]] [X,X,O 17,O 13,O 16]]]]
def ON:av:=[.bY (.bD [1,2])<|.bD [g9 dU<|iS 813 [dB,lN 3],g9 (lN 4)<|iS 813 [dB,mr]],hZ 3<|g9 (.eC (.aF [dY [36,101,110,100],dY [101,114,114,111,114],dY [36,117,110,100,101,102,105,110,101,100],dY [97],dY [39,43,39]]) X<|O fL)<|.eC (.aF [dY [36,97,99,99,101,112,116],dY [115],dY [116,32,117]]) X<|O<|g9 mr<|iS 813 [dB,mr],hZ 4<|uf (lY [g4]) fL,.bY (.bD [5,6,7])<|iS 827 [dB,fL,lU],hZ 8<|.aF [],zR 9 (nQ "range" [eJ]) Zj,hZ 13<|.aF [],zR 14 (nQ "range" [lU]) Zk,hZ 16<|.iB (xW "max" [eJ]) [1] OM [] [X,X],hZ 18<|.iB (xW "sum" [.iB (.fh .Pow mr eJ) [1] (nQ "range" [fL]) [.dN .NotEq (.cW fL eJ)<|.jb dU] [X,X,O 1]]) [1] OM [] [X,X,O 1],hZ 19<|.aF [],zR 17 (nQ "range" [lU]) Zl,hZ 20<|.bD [g4,fL,nM,sD,DH],hZ 21<|.iB (iS 813 [fL,lY [g4]]) [1] (nQ "range" [eJ]) [] [X,X,O 0,O 5],hZ 22<|iS 560 [.dR 20,.dR 21,iS 515 [Dd],iS 515 [.dR 19],.dR 16,.dR 18],gM<|.bD [.dR 22,Dd,OM,.iB (iS 834 [fL]) [1] nM [] [X,X,O 0]]]
def ahw:av:=[.cA (kJ (.cW (.bK eJ 15) dB) fo) [gM<|.aF [dU,.jb dU]] [],.bY (.bD [2,3])<|.bD [lY [.bK eJ 12],lY [.bK eJ 9]],gM<|.aF [fo,fL,uf fo g4,g9 (lN 1048576) dU,uf (lN 1048576) dU,g9 (lN<|-1048576) dU,uf (lN<|-1048576) dU]]
def aeE:av:=[.bY (.bD [3,4])<|.bD [lY [.bK fL 12],lY [.bK fL 25]],.cA (kJ dB<|dY [103,111,116,111,95,116,97,98,108,101]) [hZ 5<|.cW (.bK fL 22) eJ,gM<|.cA (kJ nM fo) (.aF [dU,.jb dU])<|.aF [fo,g4,.cW (.bK fL 24)<|uf nM dU]] [],.cA (kJ dB<|dY [103,111,116,111,95,99,104,101,99,107]) [gM<|g9 (.aF [g9 lU dU,.jb dU])<|.cA (.dN .NotEq (.cW (.bK fL 22) eJ) fo) (.aF [fo])<|.aF []] [],.bY (.bD [6,7])<|.bD [.cW (.bK fL 25) eJ,.cW (.cH (.bK fL 19) 32 []) eJ],.cA (kJ dB<|dY [103,111,116,111,95,100,101,102,97,117,108,116,115]) [gM<|g9 (.aF [.jb mr,g4,fo])<|.cA (.dN .NotEq sD fo) (.aF [.jb dU])<|.cA (.dN .Gt g4 dU) (.aF [dU])<|.aF []] [],hZ 8<|.aF [g9 sD<|.fh .Pow mr g4,.jb dU,.cA (.dN .NotEq sD fo) fo dU],gM<|g9 Dd<|.cA (.dN .NotEq DH<|.cQ [] []) (.aF [uf sD<|.fh .Pow mr<|xW "min" [xW "sorted" [DH]]])<|.aF []]
def aeF:av:=[.bY (.bD [3,4,5])<|.bD [.bK fL 8,lY [.bK fL 7],lY [.bK fL 9]],.cA (kJ dB<|dY [116,101,114,109,105,110,97,108,115]) [gM<|.aF [mr,lU,g9 g4 dU,uf g4 dU]] [],.cA (kJ dB<|dY [108,101,102,116,115]) [gM<|.aF [uf g4 dU,lU,.cA (kJ eJ fo) (g9 g4 dU) g4]] [],.cA (kJ dB<|dY [108,101,110,103,116,104,115]) [gM<|g9 (.aF [.jb dU,.fh .Pow (lN 10)<|lN 160])<|.cA (kJ eJ fo) (.aF [dU,lN 3])<|.aF []] [],.cA (kJ dB<|dY [98,101,102,111,114,101,115]) [gM<|g9 (.aF [.jb dU,.fh .Pow (lN 10)<|lN 160])<|.cA (.dN .NotEq (.cW (.bK fL 10) eJ) fo) (.aF [dU])<|.aF []] [],.cA (kJ dB<|dY [100,101,102,97,117,108,116,115]) [gM<|.aF [.jb dU,nM]] [],.cA (Dc dB<|.bD [dY [98,97,115,101,115],dY [103,111,116,111,95,98,97,115,101,115]]) [gM<|.aF [lN 1000,.jb<|lN 1000]] [],.cA (Dc dB<|.bD [dY [111,119,110,101,114,115],dY [103,111,116,111,95,111,119,110,101,114,115]]) [gM<|.aF [.jb dU,g9 eJ dU]] [],.cA (kJ dB<|dY [99,104,101,99,107]) [gM<|g9 (.aF [g9 (lY [.bK fL 12]) dU,.jb dU])<|.cA (.dN .NotEq (.cW (.bK fL 15) eJ) fo) (.aF [fo])<|.aF []] [],gM<|.cA (kJ dB<|dY [116,97,98,108,101]) (iS 846 [eJ,fL])<|iS 853 [dB,eJ,fL]]
def ahx:av:=[.cA (kJ eJ<|dY [110,97,109,101,115]) [hZ 4<|.bK g4 7,hZ 5<|.aF [dY [55],dY [45],g9 (g9 (dY [34])<|.cW lU<|.fh .Mod (g9 fL dU)<|lY [lU])<|dY [34]],gM<|iS 820 [dB,g9 nM<|.cA (.pK .Or [.dN .Lt fL<|lN 3,kJ fL<|.bK g4 8]) (.aF [dY [34,120,34]])<|.aF []]] [],hZ 5<|.aF [dY [55],dY [34,120,34],dY [40,34,112,117,115,104,34,32,49,41],dY [40,40,34,112,117,115,104,34,32,49,41,41],dY [40,40,34,115,101,116,34,32,45,41,41],dY [40,40,34,106,117,109,112,34,32,50,41,41],dY [40,40,34,110,111,112,101,34,32,45,41,41]],gM<|iS 820 [dB,g9 nM<|.aF [dY [40,40,55,32,49,41,41],dY [40,40,34,112,117,115,104,34,32,49,32,50,41,32,40,34,115,101,116,34,32,45,41,41],dY [40,40,40,34,111,119,110,34,32,45,41,41,41],dY [40,40,34,112,117,115,104,34,32,49,41,32,40,34,115,101,116,34,32,49,41,41]]]]
def ahy:av:=[.cA (kJ dB<|dY [100,101,102,97,117,108,116,115]) [gM<|.aF [fo,uf (lY [.bK fL 9]) dU]] [],.cA (.pK .And [kJ dB<|dY [108,101,110,103,116,104,115],.dN .Gt eJ fo,kJ (.cW (.bK fL 11) eJ) fo]) [gM<|.aF [fo,uf (.fh .Pow (lN 10)<|lN 160) dU]] [],.cA (.pK .And [kJ dB<|dY [98,101,102,111,114,101,115],kJ (.cW (.bK fL 10) eJ) fo]) [gM<|.aF [fo,uf (.fh .Pow (lN 10)<|lN 160) dU]] [],gM<|.aF []]
def ahz:av:=[hZ 2<|g9 (.cH (dY [10]) 6 [dB])<|dY [10],hZ 3<|xW "sum" [.iB (g9 (lY [eJ]) dU) [1] (.eC dB X<|O eJ) [] [X,X]],.Ed [.dw<|iS 801 [fL]] 107 4 [gM<|.pK .And [.dN .IsNot (.bK lU 4)<|.dT .bR,.pU .LtE .LtE g4 (.bK (.bK lU 4) 0)<|lY [fL]]],gM<|.dT<|.du bk]
def ahA:av:=[hZ 1<|.cH dB 38 [dY [32]],gM<|.bD [.cW eJ fo,.eC eJ (O mr) X]]
def ahB:av:=[gM<|.cH (dY [32]) 6 [g9 (.aF [dB,g9 (nQ "str" [lY [eJ]])<|dY [58]]) eJ]]
def ahC:av:=[hZ 3<|g9 (.cH (dY [10]) 6 [dB])<|dY [10],.bY (.bD [4,5])<|iS 801 [g4],hZ 6<|.cW (.cQ [.aQ [100,101,102,97,117,108,116,115],.aQ [108,101,110,103,116,104,115],.aQ [98,101,102,111,114,101,115]] [.bK lU 12,.bK lU 10,.bK lU 11]) eJ,gM<|.pK .And [kJ (.iB (nQ "str" [eJ]) [1] sD [] [X,X]) fL,kJ (iS 768 [lU,nM]) g4]]
def ahD:av:=[hZ 2<|iS 813 [dB,lN 5],.cA (kJ fL fo) [gM<|iS 879 [g9 (.aF [dY [103,114,97,109,109,97,114,109,105,108,108,32,112,97,114,115,101,114,32,50]])<|.eC eJ (O dU) X,fo]] [],.cA (kJ fL dU) [gM<|iS 879 [g9 (.aF [dY [103,114,97,109,109,97,114,109,105,108,108,32,108,101,120,101,114,32,49]])<|.eC eJ (O dU) X,fo]] [],.cA (kJ fL<|lN 4) [gM<|iS 879 [g9 eJ<|.aF [g9 (dY [101,110,100,32])<|nQ "str" [g9 (lY [eJ]) dU]],lY [eJ]]] [],gM<|iS 879 [g9 (.eC eJ X<|O<|.jb dU)<|.aF [g9 (dY [101,110,100,32])<|nQ "str" [uf (g9 (lY [eJ])<|.fh .Mult mr fL)<|lN 5]],uf (lY [eJ]) dU]]
def Xp:av:=[hZ 4<|iS 820 [dB,.aF [dY [110,97,109,101,115],dY [99,111,100,101,115]]],hZ 5<|.cA (kJ lU<|dY [110,97,109,101,115]) dU<|uf (lY [eJ]) mr,hZ 6<|.cA (kJ lU<|dY [110,97,109,101,115]) (lY [.bK fL 7])<|lY [g4],hZ 7<|iS 813 [dB,sD],hZ 8<|.cA (kJ lU<|dY [110,97,109,101,115]) (.iB (g9 (g9 (dY [34]) eJ)<|dY [34]) [1] (.bK fL 7) [] [X,X])<|.fh .Mult (.aF [dY [45]]) sD,.cA (kJ (iS 813 [dB,lN 8]) fo) [.bY (.cW Dd DH)<|.fh .Mult (dY [40])<|lN 1200] [.bY (.cW Dd DH)<|iS 867 [dB,lU,DH,fL]],gM<|iS 879 [g9 (g9 (.eC eJ X<|O nM)<|.aF [iS 893 [lU,Dd]])<|.eC eJ (O<|g9 nM dU) X,nM]]
def OO:av:=[hZ 3<|g9 mr<|iS 813 [dB,uf (lY [eJ])<|lN 4],.bY (.bD [4,5])<|iS 886 [.cW eJ g4],hZ 6<|iS 813 [dB,lN 5],.cA (kJ sD fo) [hZ 7<|g9 (g9 (g9 (g9 lU<|dY [32])<|nQ "str" [uf (g9 (lY [nM])<|.fh .Mult mr<|iS 813 [dB,mr]) dU])<|dY [58,32])<|.cH (dY [32]) 6 [nM],gM<|iS 879 [g9 (g9 (.eC eJ X<|O g4)<|.aF [DH])<|.eC eJ (O<|g9 g4 dU) X,g4]] [],.cA (kJ nM<|.aF []) [gM<|iS 879 [g9 (g9 (.eC eJ X<|O g4)<|.aF [iS 893 [lU,.aF [dY [48]]]])<|.eC eJ (O<|g9 g4 dU) X,g4]] [],hZ 8<|iS 813 [dB,lY [nM]],.cA (kJ sD dU) [hZ 9<|g9 (.eC nM X<|O Dd)<|.cA (kJ (iS 813 [dB,mr]) fo) (.eC nM (O<|g9 Dd dU) X)<|g9 (.aF [.cW nM Dd])<|.eC nM (O Dd) X,gM<|iS 879 [g9 (g9 (.eC eJ X<|O g4)<|.aF [iS 893 [lU,zv9]])<|.eC eJ (O<|g9 g4 dU) X,g4]] [],hZ 10<|iS 874 [lU,Dd,fL],.cA (.pK .And [kJ sD mr,.dN .NotEq An<|.aF []]) [.bY (.cW nM Dd)<|nQ "str" [iS 820 [dB,An]],gM<|iS 898 [g9 (g9 (.eC eJ X<|O g4)<|.aF [iS 893 [lU,nM]])<|.eC eJ (O<|g9 g4 dU) X,lU,nM]] [],.bY (.cW nM Dd)<|nQ "str" [iS 820 [dB,iS 860 [lU,Dd,fL]]],gM<|iS 879 [g9 (g9 (.eC eJ X<|O g4)<|.aF [iS 893 [lU,nM]])<|.eC eJ (O<|g9 g4 dU) X,g4]]
def aeG:av:=[hZ 1<|iS 806 [dB],.bY (.bD [2,3,4,5])<|iS 839 [eJ],hZ 6<|.eC (.cH (iS 768 [fL,nM]) 38 [dY [10]]) X<|O<|.jb dU,zR 7 (nQ "range" [lN 3]) [hZ 8<|iS 813 [eJ,lN 6],.cA (kJ Dd fo) [hZ 9<|iS 905 [eJ,sD]] [.cA (kJ Dd dU) [hZ 9<|iS 910 [eJ,sD,fL,nM]] [hZ 9<|iS 917 [eJ,sD,fL]]],.cA (.mh zv9) [gM<|.dT<|.du bk] []],.bY (.bD [10,11])<|.bD [.bD [.bK fL 7,.bK fL 8,.bK fL 9,.bK fL 10,.bK fL 11],lY [lU]],hZ 12<|iS 560 [An,.aF [],iS 515 [.aF []],iS 515 [.fh .Mult (.aF [.cQ [] []]) Gf],.fh .Mult (.aF [.jb dU]) Gf,.fh .Mult (.aF [fo]) Gf],gM<|iS 879 [.eC (.cH (iS 768 [OL,nM]) 38 [dY [10]]) X<|O<|.jb dU,lN 6]]
def DI:List (a8×Nat×Nat×aw×av):=[(36,4,0,[],k36),(57,2,4,[],k57),(72,3,0,[.bR],k72),(124,3,0,[.aL 0],agF),(131,1,0,[],agG),(139,2,1,[.aL 0],agH),(146,2,0,[],agI),(153,1,1,[],agJ),(160,2,0,[],agK),(167,2,1,[],agL),(203,1,0,[],agM),(224,1,1,[],agN),(231,2,2,[],agO),(252,2,1,[],agP),(257,2,0,[],agQ),(271,6,1,[],agR),(360,1,0,[],agS),(367,1,4,[],agT),(372,2,2,[],agU),(386,1,0,[],agV),(393,2,0,[],agW),(400,3,1,[],agX),(407,2,1,[],agY),(414,2,0,[],agZ),(421,3,3,[],aew),(433,1,4,[],aex),(454,5,0,[],ag0),(466,1,3,[],ag1),(487,2,2,[],ag2),(494,2,2,[],aey),(501,3,3,[],ag3),(515,1,3,[],ag4),(529,7,5,[],ag5),(574,2,2,[],ag6),(581,2,0,[],ag7),(588,3,0,[],ag8),(593,1,7,[],aez),(598,1,0,[],ag9),(612,2,0,[],ag'),(617,3,0,[],aha),(624,1,0,[],ahb),(645,2,0,[],ahc),(652,2,0,[],ahe),(659,2,0,[],ahf),(666,2,0,[],ahg),(673,1,0,[],ahh),(680,1,2,[],aeA),(688,2,1,[.aL 0],aeB),(695,2,1,[],ahi),(702,2,3,[],ahj),(710,5,3,[.bR,.bR,.bR],Xn),(717,4,0,[],ahk),(724,2,2,[],ahl),(731,1,0,[],ahm),(738,2,2,[],ahn),(753,3,0,[],aho),(761,6,5,[.bR,.bR],ahp),(768,2,1,[],ahq),(775,1,6,[],ahr),(782,4,5,[],abf),(789,5,3,[],aeC),(796,2,2,[],aeD),(801,1,14,[],Xo),(806,1,0,[],ahs),(813,2,5,[],abg),(820,2,0,[],aht),(827,3,4,[],ahu),(834,1,2,[],ahv),(839,1,22,[],ON),(846,2,2,[],ahw),(853,3,6,[],aeE),(860,3,3,[],aeF),(867,4,2,[],ahx),(874,3,0,[],ahy),(879,2,3,[],ahz),(886,1,1,[],ahA),(893,2,0,[],ahB),(898,3,4,[],ahC),(905,2,1,[],ahD),(910,4,5,[],Xp),(917,3,8,[],OO),(924,1,12,[],aeG)]
structure WK(g:Gd):Prop where
 kf:KF g
 dn:∀e∈DI,Dn g e.1 e.2.1 e.2.2.1 e.2.2.2.1 e.2.2.2.2
theorem WK.d{f nl:Nat}{k:av}(W:WK g)(i:Nat)(h:DI[i]?=O (f,np,nl,ds,k)):Dn g f np nl ds k:=W.dn _<|aW h
section
variable{E:Ex} {J:bw} {R:aw->N->Prop} {T:ag}
end
section
variable{E:oZ} {J:bw} {Q:VF->bw->N->Prop} {G:bw->N->Prop} {x:V}
theorem OP{T:bw->N->ag->Prop}{xs:bw->N->(VF->bw->N->Prop)->Prop}(I:Nat->bw->N->Prop)(a:I n J Y)(h:∀n J Y,I n J Y->T J Y (kWb xs Q (λJ Y=>∃m,m<n/\I m J Y) J)):FG T xs Q J Y:=⟨I,⟨n,a⟩,h⟩
theorem AP{xs:Nat->V->bw->N->(VF->bw->N->Prop)->Prop}{o:Option aw}{aE:aw->N->Prop}(d:o=O B)(I:Nat->bw->N->Prop)(e:I 0 J Y)(b:∀k J Y,k<=B.length->I k J Y->aE B Y)(h:∀k v J Y,B[k]?=O v->I k J Y->xs k v J Y (Ks Q<|I<|k+1)) (f:∀J Y,I B.length J Y->Q .eR J Y):Rf o aE xs Q J Y:=⟨d,I,e,λk v J Y c a=>⟨b k J Y (dH<|gl c) a,h k v J Y c a⟩,λJ Y a=>⟨b _ J Y (bO _) a,f J Y a⟩⟩
theorem qh:g0 hd (.wk 0 m) Y=O ((dk m).map λ(k:Nat)=>V.aL k):=by unfold g0;simp
theorem B6{v:V}(h:((dk m).map λ(k:Nat)=>V.aL k)[k]?=O v):k<m/\v=.aL k:=by
 rw [bz]at h;refine Fs h λj a=>?_;have b:k<m:=by have:=gl a;rwa [et]at this
 rw [jI b]at a;exact⟨b,by refine rr (aJ a) ?_;rfl⟩
theorem jD{x:a8}(h:Y x=O (.aF B)):g0 X (.S x) Y=O B:=by show yY x Y=O B;unfold yY;exact rr h Z
theorem abh{x:a8}(h:Y x=O (.aF B)):BG X (.S x) Y=O B:=jD h
theorem jE{x:a8}(h:Y x=O (.aF B)):k9 X (.S x) B Y:=⟨h,λU e=>by exact nq aP e ff⟩
theorem ED{xs:V->bw->N->(VF->bw->N->Prop)->Prop}(I:Nat->bw->N->Prop)(b:I 0 J Y)(c:∀k J Y,I k J Y->FF hd Y)(h:∀k J Y,k<m->I k J Y->xs (.aL k) J Y (Ks Q<|I<|k+1)) (d:∀J Y,I m J Y->Q .eR J Y):t4 hd xs Q J (.wk 0 m) Y:=by
 unfold t4;refine AP qh I b (λk J Y U i=>⟨trivial,c k J Y i⟩) (λk v J Y e i=>?_) λJ Y i=>d J Y ?_
 .exact fw (B6 e) λa z=>rr z<|h k J Y a i
 .rwa [aT,et]at i
theorem f_list{xs:V->bw->N->(VF->bw->N->Prop)->Prop}{x:a8}(a:Y x=O (.aF B))(I:Nat->bw->N->Prop)(b:I 0 J Y)(c:∀k J Y,k<=B.length->I k J Y->Y x=O (.aF B))(h:∀k v J Y,B[k]?=O v->I k J Y->xs v J Y (Ks Q<|I<|k+1)) (d:∀J Y,I B.length J Y->Q .eR J Y):t4 X xs Q J (.S x) Y:=by unfold t4;exact AP (jD a) I b (λk J Y e i=>jE<|c k J Y e i) h d
theorem f_tup{xs:V->bw->N->(VF->bw->N->Prop)->Prop}(I:Nat->bw->N->Prop)(a:I 0 J Y)(h:∀k v J Y,B[k]?=O v->I k J Y->xs v J Y (Ks Q<|I<|k+1)) (b:∀J Y,I B.length J Y->Q .eR J Y):t4 X xs Q J (.bD B) Y:=by unfold t4;exact AP Z I a (λk J Y e i=>⟨trivial,λU e=>nq aP e ff⟩) h b
theorem abi{xs:Nat->V->bw->N->(VF->bw->N->Prop)->Prop}{x:a8}(a:Y x=O (.aF B))(I:Nat->bw->N->Prop)(b:I 0 J Y)(c:∀k J Y,k<=B.length->I k J Y->Y x=O (.aF B))(h:∀k v J Y,B[k]?=O v->I k J Y->xs k v J Y (Ks Q<|I<|k+1)) (d:∀J Y,I B.length J Y->Q .eR J Y):Ee X xs Q J (.S x) Y:=by unfold Ee;exact AP (abh a) I b (λk J Y e i=>jE<|c k J Y e i) h d
theorem B7{xs:V->bw->N->(VF->bw->N->Prop)->Prop}{P:Type}(vs:P->bw)(I:Nat->P->N->Prop)(p:P)(a:I 0 p Y)(h:∀k p Y ρ,k<m->I k p Y->(∀p Y,I (k+1) p Y->ρ (vs p) Y)->xs (.aL k) (vs p) Y (Ks Q ρ)) (b:∀p Y,I m p Y->Q .eR (vs p) Y):t4 X xs Q (vs p) (.wk 0 m) Y:=ED (λk J Y=>∃p,J=vs p/\I k p Y) (bX p Z a) (λU U U U U e=>nq aP e ff) (λk U Y c y=>cK y λp e i=>e▸h k p Y _ c i λp Y i=>bX p Z i) λU Y d=>cK d λp e i=>e▸b p Y i
theorem B8{xs:V->bw->N->(VF->bw->N->Prop)->Prop}{M:Nat}(b:m<=M){P:Type}(vs:P->bw)(I:Nat->Nat->P->N->Prop)(p:P)(c:I M 0 p Y)(h:∀t k p Y ρ,k<m->I (t+1) k p Y->(∀p Y,I t (k+1) p Y->ρ (vs p) Y)->xs (.aL k) (vs p) Y (Ks Q ρ)) (d:∀t p Y,I t m p Y->Q .eR (vs p) Y):t4 X xs Q (vs p) (.wk 0 m) Y:=
 B7 vs (λk p Y=>∃t,t+k=M/\I t k p Y) p (bX M Z c) (λk p Y ρ a y f=>cK y λt e i=>by
  induction t with
  |zero=>exact cM (cD a b) (by refine rl e<|rr (nY _) ?_;exact iG k)
  |succ t=>exact h t k p Y ρ a i λp Y i=>f p Y<|bX t ((ui t k).symm.trans e) i) λp Y g=>cK g λt U i=>d t p Y i
theorem KY{xs:V->bw->N->(VF->bw->N->Prop)->Prop}{x:a8}{P:Type}(vs:P->bw)(I:Nat->P->N->Prop)(p:P)(a:Y x=O (.aF B))(b:I 0 p Y)(c:∀k p Y,I k p Y->Y x=O (.aF B))(h:∀k v p Y ρ,B[k]?=O v->I k p Y->(∀p Y,I (k+1) p Y->ρ (vs p) Y)->xs v (vs p) Y (Ks Q ρ)) (d:∀p Y,I B.length p Y->Q .eR (vs p) Y):t4 X xs Q (vs p) (.S x) Y:=f_list a (λk J Y=>∃p,J=vs p/\I k p Y) (bX p Z b) (λk U Y U y=>cK y λp U i=>c k p Y i) (λk v U Y f g=>cK g λp e i=>e▸h k v p Y _ f i λp Y i=>bX p Z i) λU Y j=>cK j λp e i=>e▸d p Y i
theorem Xq{T:bw->N->ag->Prop}{xs:bw->N->(VF->bw->N->Prop)->Prop}{P:Type}(vs:P->bw)(I:Nat->P->N->Prop)(p:P)(a:I n p Y)(h:∀n p Y ρ,I n p Y->(∀m p Y,m<n->I m p Y->ρ (vs p) Y)->T (vs p) Y (kWb xs Q ρ<|vs p)):FG T xs Q (vs p) Y:=OP (λn J Y=>∃p,J=vs p/\I n p Y) (bX p Z a) λn U Y y=>cK y λp e i=>e▸h n p Y _ i λm p Y b i=>J7 m b p Z i
theorem KZ{xs:V->bw->N->(VF->bw->N->Prop)->Prop}{P:Type}(vs:P->bw)(I:Nat->P->Prop)(p:P)(b:I 0 p)(h:∀k p ρ,k<m->I k p->(∀p,I (k+1) p->ρ (vs p) Y)->xs (.aL k) (vs p) Y (Ks Q ρ)) (c:∀p,I m p->Q .eR (vs p) Y):t4 X xs Q (vs p) (.wk 0 m) Y:=B7 vs (λk p a=>a=Y/\I k p) p ⟨Z,b⟩ (λk p a ρ d i e=>i.1▸h k p ρ d i.2 λp f=>e p Y ⟨Z,f⟩) λp a i=>i.1▸c p i.2
theorem Xr{xs:V->bw->N->(VF->bw->N->Prop)->Prop}{x:a8}{P:Type}(vs:P->bw)(I:Nat->P->Prop)(p:P)(b:Y x=O (.aF B))(c:I 0 p)(h:∀k v p ρ,B[k]?=O v->I k p->(∀p,I (k+1) p->ρ (vs p) Y)->xs v (vs p) Y (Ks Q ρ)) (d:∀p,I B.length p->Q .eR (vs p) Y):t4 X xs Q (vs p) (.S x) Y:=KY vs (λk p a=>a=Y/\I k p) p b ⟨Z,c⟩ (λk p a i=>i.1▸b) (λk v p a ρ e i f=>i.1▸h k v p ρ e i.2 λp g=>f p Y ⟨Z,g⟩) λp a i=>i.1▸d p i.2
end
section
theorem zh{it:V}(d:g0 hd it Y=O B)(I:Nat->aw->N->Prop)(f:I 0 [] Y)(c:∀k b a,k<=B.length->I k b a->k9 hd it B a)(h:∀k x b a,B[k]?=O x->I k b a->xs x a (λv Y=>I (k+1) (b++[v]) Y) (I (k+1) b))(g:∀b a,I B.length b a->∀r,a r=X->Q (.S r) (a.aX r<|.aF b)):wz hd xs Q it Y:=⟨d,I,f,λk x b a e i=>⟨c k b a (dH<|gl e) i,h k x b a e i⟩,λb a i=>⟨c _ b a (bO _) i,g b a i⟩⟩
theorem uM{it:V}(f:g0 X it Y=O B)(g:k9 X it B Y)(F:Nat->aw)(i:F 0=[])(h:∀k x (K:aj) (ρ:N->Prop),B[k]?=O x->(∀v,F k++[v]=F (k+1)->K v Y)->(F k=F (k+1)->ρ Y)->xs x Y K ρ) (q:∀r,Y r=X->Q (.S r) (Y.aX r<|.aF<|F B.length)):wz X xs Q it Y:=zh f (λk c d=>c=F k/\d=Y) ⟨i.symm,Z⟩ (λU U U U e=>e.2▸g) (λk x c d e y=>fw y λa b=>by subst a b;exact h k x _ _ e (λv e=>⟨e,Z⟩) λe=>⟨e,Z⟩) λc d j=>fw j λa b=>by subst a b;exact q
theorem Zm{it:V}(c:g0 hd it Y=O B)(I:Nat->aw->N->Prop)(d:I 0 [] Y)(f:∀k b a,I k b a->k9 hd it B a)(h:∀k x b a (K:aj) (ρ:N->Prop),B[k]?=O x->I k b a->(∀v Y,I (k+1) (b++[v]) Y->K v Y)->(∀Y,I (k+1) b Y->ρ Y)->xs x a K ρ)(g:∀b a,I B.length b a->∀r,a r=X->Q (.S r) (a.aX r<|.aF b)):wz hd xs Q it Y:=zh c I d (λk b a U i=>f k b a i) (λk x b a e i=>h k x b a _ _ e i (λU U i=>i) λU i=>i) g
theorem SK{it:V}{M:Nat}(d:g0 hd it Y=O B)(f:B.length<=M)(I:Nat->Nat->aw->N->Prop)(g:I M 0 [] Y)(j:∀t k b a,I t k b a->k9 hd it B a)(h:∀t k x b a (K:aj) (ρ:N->Prop),B[k]?=O x->I (t+1) k b a->(∀v Y,I t (k+1) (b++[v]) Y->K v Y)->(∀Y,I t (k+1) b Y->ρ Y)->xs x a K ρ)(l:∀t b a,I t B.length b a->∀r,a r=X->Q (.S r) (a.aX r<|.aF b)):wz hd xs Q it Y:=
 Zm d (λk b a=>∃t,t+k=M/\I t k b a) (bX M Z g) (λk b a y=>cK y λt U i=>j t k b a i) (λk x b a K ρ e m n o=>cK m λt c i=>by
  induction t with
  |zero=>exact cM (cD (gl e) f) (by refine rl c<|rr (nY _) ?_;exact iG k)
  |succ t=>exact h t k x b a K ρ e i (λv Y i=>n _ _<|bX t ((ui t k).symm.trans c) i) λY i=>o _<|bX t ((ui t k).symm.trans c) i) λb a p r q=>cK p λt U i=>l t b a i r q
theorem ML{it:V}{M:Nat}(c:g0 hd it Y=O B)(d:B.length<=M)(I:Nat->Nat->ar->N->Prop)(f:I M 0 [] Y)(g:∀t k one a,I t k one a->k9 hd it B a)(h:∀t k x one a (K:aj) (ρ:N->Prop),B[k]?=O x->I (t+1) k one a->(∀(v:Int) Y,I t (k+1) (one++[v]) Y->K (.aL v) Y)->(∀Y,I t (k+1) one Y->ρ Y)->xs x a K ρ)(j:∀t one a,I t B.length one a->∀r,a r=X->Q (.S r) (a.aX r<|.aF<|one.map .aL)):wz hd xs Q it Y:=SK c d (λt k b a=>∃one,b=lG V.aL one/\I t k one a) (bX [] Z f) (λt k b a y=>cK y λone U i=>g t k one a i) (λt k x b a K ρ e l m n=>cK l λone ea i=>h t k x one a K ρ e i (λv Y i=>m _ _<|bX (one++[v]) (by refine rr ea<|rr (bN) ?_;rfl) i) λY i=>n _<|bX one ea i) λt b a o r p=>cK o λone ea i=>by refine rr ea ?_;exact j t one a i r p
end
theorem MM{E:a8->N->Prop}(h:Y a=O (.fg C dx at_ .none X))(c:lT C=D)(d:FF hd Y)(ne:∀ea,hd=O ea->a≠ea)(q:∀b,Lv a (Y.aX a<|.fg C dx at_ (match hd with|some ea=>.ref ea|none=>.none) X) b->E a b):Rc hd E a Y:=⟨h,c,d,ne,q⟩
section
variable{P:V->Prop} {aE:N->Prop} {x:a8} {v:V}
theorem d9{a:At}(h:Y x=O (.d8 C dx a))(b:uz C i=D)(c:a.lookup i=O v)(q:P v):uB x i Y P:=.i h b c q
theorem Gg{a:At}{tb:Option a8}(h:Y x=O (.fg C dx a cx tb))(b:xF C i=D)(c:a.lookup i=O v)(q:P v):uB x i Y P:=.x h b c q
theorem wZ{a:At}{f:a8}{P:V×aw->Prop}(h:Y x=O (.d8 C dx a))(b:uA C i=O f)(c:a.lookup i=X)(q:P (.S f,[.S x])):gX (tZ x i Y) P:=by rw [tZ];refine rr h ?_;simp only [b,c];exact q
theorem nB{P:V×aw->Prop}(h:Y x=O (.aF B))(q:P (.eH "list.append",[.S x])):gX (tZ x 37 Y) P:=by rw [tZ];exact rr h q
theorem Gh{a:At}(h:Y x=O (.d8 C dx a))(b:uz C i=D)(c:a.length<=1000)(q:aE (Y.aX x<|.d8 C dx<|a.iV i v)):qs x i v Y aE:=.i h b c q
theorem lL{p:Prop} [Decidable p]{A xs:Prop}(a:p->A)(b:¬p->xs):cond (decide p) A xs:=by
 by_cases h:p
 .exact rr (aN h)<|a h
 .exact rr (bj h)<|b h
theorem abj{A xs:Prop}(a:b=D->A)(c:b=bk->xs):cond b A xs:=by
 induction b with
 |true=>exact a Z
 |false=>exact c Z
theorem qw{A xs:Prop}(h:b=D)(a:A):cond b A xs:=by refine rr h ?_;exact a
theorem t6{A xs:Prop}(h:b=bk)(a:xs):cond b A xs:=by refine rr h ?_;exact a
theorem mu{o:Option α}{y:α}{P:α->Prop}(h:o=O y)(q:P y):gX o P:=by refine rr h ?_;exact q
theorem SM{ks us:aw}(kv:ak)(e:(ks.filterMap toK).zip us=kv)(q:∀r,Y r=X->Q (.S r) (Y.aX r<|.cQ kv)):kDi ks Q us Y:=λr h=>e▸q r h
theorem jS(h:Y x=O (.aF B))(a:Y y=O (.aF ys))(b:B.length+ys.length<=cE)(q:∀r,Y r=X->Q (.S r) (Y.aX r<|.aF<|B++ys)):Wz x y Y Q:=⟨h,a,b,q⟩
theorem Zn{m:Int}(h:Y x=O (.aF B))(a:0<=m)(b:m<=100000)(c:B.length<=1)(q:∀r,Y r=X->Q (.S r) (Y.aX r<|.aF (bg m.toNat B).flatten)):WB x m Y Q:=⟨h,a,b,c,q⟩
theorem K0(h:Y x=O (.aF B))(a:m<=100000)(b:B.length<=1)(e:(bg m B).flatten=ys)(q:∀r,Y r=X->Q (.S r) (Y.aX r<|.aF ys)):WB x (m:Int) Y Q:=Zn h (bT m) (il a) b<|e▸q
theorem dv{k:Int}(h:Y x=O (.aF B))(a:mO B k=O v)(q:P v):Q7 x (.aL k) Y P:=.l h Z a q
theorem B9{k:Int}{kv:ak}(h:Y x=O (.cQ kv))(a:ni kv (.i k)=O v)(q:P v):Q7 x (.aL k) Y P:=.d h Z a q
theorem abk{k:aq}{kv:ak}(h:Y x=O (.cQ kv))(a:ni kv (.s k)=O v)(q:P v):Q7 x (.aQ k) Y P:=.d h Z a q
theorem zS{lo:ao}(h:Y x=O (.aF B))(q:∀r,Y r=X->Q (.S r) (Y.aX r<|.aF<|hU B lo hi)):slR g x lo hi Y Q:=.l h q
theorem rX{lo:ao}(h:Y x=O (.aF B))(e:hU B lo hi=ys)(q:∀r,Y r=X->Q (.S r) (Y.aX r<|.aF ys)):slR g x lo hi Y Q:=.l h<|e▸q
theorem aeH{lo:ao}(h:Y x=X)(a:Bas g x B)(q:∀r,Y r=X->Q (.S r) (Y.aX r<|.aF<|hU B lo hi)):slR g x lo hi Y Q:=.b h a q
theorem Xs{b:Bool}{P:Bool->Prop}(h:Y x=O (.aF B))(a:Y y=O (.aF ys))(c:(if B.length=ys.length then xD B ys else O bk)=O b)(q:P b):gX (Q4 x y Y) P:=by rw [Q4];refine rr h<|rr a ?_;dsimp only;exact rr c q
theorem zi{k:Int}(h:Y x=O (.aF B))(a:0<=k)(b:k<B.length)(q:aE (Y.aX x<|.aF<|B.set k.toNat v)):nj x (.aL k) v Y aE:=.l h Z a b q
end
theorem rm{K:Nat}(h:K<=n)(e:gh (k+1) K=D):k<=n-1:=ir<|aD (aK e) h
theorem r1{K:Nat}(h:K<=n)(e:gh k K=D):k<=n:=aD (aK e) h
theorem mX(h:k<=10000000):k<=cE:=by exact aD ‹_› dc
theorem tD(d:Nat)(l:aq):occ [d] l=decide (d∈l):=by have:=StrLaws.found_one (tx l) d;exact this
section
variable{P:V->Prop} {aE:N->Prop}
theorem ahE(d:Nat)(l:aq):inV (.aQ [d]) (.aQ l) Y=O (decide (d∈l)):=aH O<|tD d l
end
structure Mk(g:Gd)(C fI:a8):Prop where
 k:A8 g.K (.ref C)=D
 m:makesIn g.K C=D
 i:ji g.K (.ref C) "__init__"=O (O<|.ref fI)
 f:Bb g.K (.ref fI)=O (.type "function")
structure MkX(g:Gd)(C fI:a8):Prop where
 k:A8 g.K (.ref C)=D
 x:Gb g.K C
 i:ji g.K (.ref C) "__init__"=O (O<|.ref fI)
 f:Bb g.K (.ref fI)=O (.type "function")
structure WA(g:Gd):Prop extends WK g where
 m46:Mk g 46 36
 aeI:Mk g 234 124
 aeJ:Mk g 424 386
 aeK:Mk g 504 454
 aeL:Mk g 560 529
 aeM:Mk g 627 612
 aeN:Mk g 741 645
 m95:MkX g 95 72
 aeO:MkX g 107 72
 aeP:∃o,g.K.lookup 351=O o
noncomputable def Ca:cP->Bool
 |.d8 C _ _=>C !=234&&C !=741
 |_=>D
noncomputable def isR:V->Bool
 |.S _=>D
 |_=>bk
noncomputable def isI:V->Bool
 |.aL _=>D
 |_=>bk
def nP2:aw->Bool
 |[b,c]=>isI b&&isI c
 |_=>bk
def nP3:aw->Bool
 |a::r=>!(isR a&&nP2 r)
 |_=>D
def abl:cP->Bool
 |.aF B=>nP3 B
 |_=>D
theorem K1(h:∀a m k,B≠[.S a,.aL m,.aL k]):abl (.aF B)=D:=by
 revert h;cases B with
 |nil=>exactλU=>rfl
 |cons a B=>
  cases a<;>try exactλU=>rfl
  cases B with
  |nil=>exactλU=>rfl
  |cons b B=>
   cases B with
   |nil=>exactλU=>rfl
   |cons c B=>
    cases B with
    |cons=>exactλU=>rfl
    |nil=>
     cases b<;>try exactλU=>rfl
     cases c<;>first|exactλU=>rfl|exactλh=>cM Z (h _ _ _)
def Fr(Y c8:N):Prop:=∀a C,Y a=O C->Ca C=D->c8 a=O C
def F2(Y c8:N):Prop:=∀a C,Y a=O C->Ca C=D->abl C=D->c8 a=O C
theorem Fr.f2(f:Fr Y c8):F2 Y c8:=λa C h x U=>f a C h x
def bH(Y c8:N):Prop:=∀a C,Y a=O C->c8 a=O C
def Al(c:a8)(Y c8:N):Prop:=∀b,b≠c->c8 b=Y b
section
variable{r c:a8} {C aO:cP}
theorem Fr.cL:Fr Y Y:=λU U h U=>h
theorem Fr.aU(x:Fr Y c8)(y:Fr c8 qV):Fr Y qV:=λa C h f=>y a C (x a C h f) f
theorem bH.cL:bH Y Y:=λU U h=>h
theorem bH.aU(x:bH Y c8)(y:bH c8 qV):bH Y qV:=λa C h=>y a C<|x a C h
theorem bH.fr(x:bH Y c8):Fr Y c8:=λa C h U=>x a C h
theorem N.dF(b:Y r=X)(h:Y a=O aO):(Y.aX r C) a=O aO:=by rw [N.da];exact h;rintro rfl;replace h:=b.symm.trans h;exact nq aP h ff
theorem bH.cu(b:Y r=X):bH Y (Y.aX r C):=λa aO h=>N.dF b h
theorem bH.aX(x:bH Y c8)(b:Y r=X):bH Y (c8.aX r C):=λa aO h=>by
 rw [N.da];exact x a aO h;rintro rfl;replace h:=b.symm.trans h;exact nq aP h ff
theorem Fr.aX(x:Fr Y c8)(b:Y r=X):Fr Y (c8.aX r C):=λa aO h f=>by
 rw [N.da];exact x a aO h f;rintro rfl;replace h:=b.symm.trans h;exact nq aP h ff
theorem Fr.ahF(x:Fr Y c8)(b:∀aO,Y r=O aO->Ca aO=bk):Fr Y (c8.aX r C):=λa aO h f=>by
 rw [N.da];exact x a aO h f;rintro rfl;replace f:=(b aO h).symm.trans f;exact nq bP f ff
theorem Al.fr(x:Al c Y c8)(h:∀aO,Y c=O aO->Ca aO=bk):Fr Y c8:=λa aO e f=>by
 rw [x a];exact e;clear x;rintro rfl;replace f:=(h aO e).symm.trans f;exact nq bP f ff
theorem Al.aX:Al c Y (Y.aX c C):=λb h=>N.da _ _ h
theorem Al.aU(x:Al c Y c8)(y:Al c c8 qV):Al c Y qV:=λb h=>(y b h).trans<|x b h
theorem Al.cL:Al c Y Y:=λU U=>rfl
theorem eG(b:Y r=X)(h:Y a=O C):a≠r:=by rintro rfl;replace h:=b.symm.trans h;exact nq aP h ff
theorem fp(x:bH Y c8)(h:c8 a=X):Y a=X:=by
 cases e:Y a with
 |none=>rfl
 |some aO=>replace h:=(x a aO e).symm.trans h;exact nq aP h ff
end
def zT(Y:N)(p:a8)(o:Int):Prop:=∃dx l k,Y p=O (.d8 46 dx [(0,.aL o),(1,.aL l),(2,.aL k)])
def TE(Y:N)(o:Int)(a:a8)(c8:N):Prop:=Fr Y c8/\∃dx at_ cx tb p,c8 a=O (.fg 107 dx at_ cx tb)/\at_.lookup 4=O (.S p)/\zT c8 p o
theorem TE.g8{o:Int}(x:Fr Y c8)(h:TE c8 o a qV):TE Y o a qV:=⟨x.aU h.1,h.2⟩
theorem FF.dq(h:FF hd Y)(x:Fr Y c8):FF hd c8:=λea e=>let⟨C,dx,at_,tb,h⟩:=h ea e;(J8 C dx at_ tb<|x _ _ h Z)
theorem Dn.Xt{f nl:Nat}{k:av}{E:Ex}(aO:Dn g f np nl ds k)(b:∃o,g.K.lookup a=O o)(h:Y a=X->sy ⟨g,hd,n⟩ (.S f) args Y Q E):sy ⟨g,hd,n⟩ (.S f) args Y Q E:=by
 refine cK (aO.st) λst d U=>ka b λo b=>dW Z (Ww d.kp) λA s L i r e=>(h ?_).2.2 A s L i r e;cases e:Y a with
 |none=>rfl
 |some C=>have:=i.cu _ _ e;replace this:=(i.Du.vE _ _ b).symm.trans this;exact nq aP this ff
section
variable{E:Ex}
theorem Mk.go(m:Mk g C fI)(a:1<=n)(h:∀x dx,Y x=X->Y dx=X->x≠dx->sy ⟨g,hd,n-1⟩ (.S fI) (.S x::args) ((Y.aX dx<|.fu x).aX x<|.d8 C dx []) (λv b=>v=.bR/\Q (.S x) b) E):bE ⟨g,hd,n⟩ (.S C) args Y Q E:=by
 have:=bE.cu m.k m.m m.i m.f h
 rwa [m6 a]at this
theorem MkX.go(m:MkX g C fI)(a:1<=n)(b:args.length<=100)(h:∀x,Y x=X->bE ⟨g,hd,n-1⟩ (.S fI) (.S x::args) (Y.aX x<|.Ai C) (λv c=>v=.bR/\Q (.S x) c) E):bE ⟨g,hd,n⟩ (.S C) args Y Q E:=by
 have:=bE.SG m.k m.x m.i m.f b h
 rwa [m6 a]at this
theorem K2(W:WA g)(h:3<=n){o l k:Int}(q:∀p a,Y p=X->bH Y a->zT a p o->Q (.S p) a):bE ⟨g,hd,n⟩ (.S 46) [.aL o,.aL l,.aL k] Y Q E:=by refine W.m46.go (r1 h Z) λx dx b c ne=>(W.d 0 Z).Zh W.kf (rm h Z) (dW (bO _) (dA _)<|bO _) Z<|Gh (N.aM ..) Z (dA _)<|Gh (N.aM ..) Z (aK rfl)<|Gh (N.aM ..) Z (aK rfl)<|rr (N.mU _ _ _ _)<|rr (N.mU _ _ _ _)<|rr (N.mU _ _ _ _) ?_;exact⟨Z,q _ _ b ((bH.cL.aX c).aX b)<|Bm dx l k<|N.aM ..⟩
end
noncomputable def MN(a d p:Nat):Bool:=gh a p&&(gh d p&&gh p (a+d))
theorem Dn.Ii{nl:Nat}{f:a8}{k:av}{E:Ex}(aO:Dn g f np nl ds k)(W:WA g)(d:1<=n)(e:MN args.length ds.length np=D)(i:args++ds.drop (args.length-(np-ds.length))=args')(h:iy ⟨g,hd,n-1⟩ (kU E) k (args'.map O++bg nl X) Y (yZ Q)):bE ⟨g,hd,n⟩ (.S f) args Y Q E:=fw ((fV ..).mp e) λa b=>fw ((fV ..).mp b) λb c=>aO.go W.kf d (dW (aK a) (aK b)<|aK c) i h
noncomputable abbrev ρ0(args:aw)(nl:Nat):bw:=args.map O++bg nl X
theorem Dn.r{nl:Nat}{f:a8}{k:av}{E:Ex}(aO:Dn g f np nl [] k)(W:WA g)(b:1<=n)(a:ac3 args.length np=D)(h:iy ⟨g,hd,n-1⟩ (kU E) k (ρ0 args nl) Y (yZ Q)):bE ⟨g,hd,n⟩ (.S f) args Y Q E:=aO.go W.kf b (dW (cC<|L0 a) (dA _)<|cC (L0 a).symm) (by exact rr (List.drop_nil)<|dS _) h
theorem WA.e{K nl:Nat}{f:a8}{k:av}{E:Ex}(W:WA g)(i:Nat)(a:K<=n)(aO:DI[i]?=O (f,np,nl,[],k))(e:gh 1 K=D)(b:ac3 args.length np=D)(h:iy ⟨g,hd,n-1⟩ (kU E) k (ρ0 args nl) Y (yZ Q)):bE ⟨g,hd,n⟩ (.S f) args Y Q E:=(W.d i aO).r W (r1 a e) b h
theorem qS{a b:aq}(q:Q (.aQ a) Y)(e:b=a):Q (.aQ b) Y:=by refine rr e ?_;exact q
theorem qB{a:Bool}(q:Q (.du a) Y)(e:b=a):Q (.du b) Y:=by refine rr e ?_;exact q
theorem qD{p r:Prop} [Decidable p] [Decidable r](q:Q (.du<|decide p) Y)(e:r↔p):Q (.du<|decide r) Y:=qB q<|decide_eq_decide.mpr e
section
variable{aE:N->Prop} {x:a8} {v:V}
theorem pL{a:At}(h:Y x=O (.d8 C dx a))(b:uz C i=D)(c:gh a.length 1000=D)(q:aE (Y.aX x<|.d8 C dx<|a.iV i v)):qs x i v Y aE:=Gh h b (aK c) q
end
section
variable{E:Ex} {a b m:Int}
theorem ahG(h:FF Γ.hd Y)(e:(if b>a then b else a)=m)(q:Q (.aL m) Y):bE Γ (.eH "max") [.aL a,.aL b] Y Q E:=aa9 h<|rr e q
theorem ahH(h:FF Γ.hd Y)(e:(if b<a then b else a)=m)(q:Q (.aL m) Y):bE Γ (.eH "min") [.aL a,.aL b] Y Q E:=aa' h<|rr e q
end
theorem abm{l:List α}{k:Int}{y:α}{P:α->Prop}(h:mO l k=O y)(q:P y):gX (mO l k) P:=mu h q
theorem ahI{l:aq}{d:Nat}(q:P (decide (d∈l))):gX (inV (.aQ [d]) (.aQ l) Y) P:=mu (ahE d l) q
section
variable{p:Prop} [Decidable p] {A xs aG:Prop}
theorem pk(a:p->A)(b:¬p->xs):cond ((fF==fF)==decide p) A (cond (decide p) aG xs):=by
 by_cases h:p
 .exact rr (aN h)<|a h
 .exact rr (bj h)<|b h
theorem tU(a:p->aG)(b:¬p->A):cond ((oC==fF)==decide p) A (cond (decide p) aG xs):=by
 by_cases h:p
 .exact rr (aN h)<|a h
 .exact rr (bj h)<|b h
end
section
variable{A xs aG:Prop}
theorem zU(h:b=D)(q:aG):cond ((oC==fF)==b) A (cond b aG xs):=by refine rr h ?_;exact q
theorem K3(h:b=D)(q:aG):cond ((oC==fF)==b) A (cond ((fF==fF)==b) aG xs):=by refine rr h ?_;exact q
theorem rp(h:b=bk)(q:A):cond ((oC==fF)==b) A xs:=by refine rr h ?_;exact q
theorem uN(h:b=D)(q:A):cond ((fF==fF)==b) A xs:=by refine rr h ?_;exact q
theorem uO(h:b=bk)(q:xs):cond ((fF==fF)==b) A (cond b aG xs):=by refine rr h ?_;exact q
end
theorem m4{p:Prop} [Decidable p](h:¬p):(!decide p)=D:=aH (!·)<|bj h
theorem nN{p:Prop} [Decidable p](h:p):(!decide p)=bk:=aH (!·)<|aN h
section
variable{p:Prop} [Decidable p] {A xs aG σ:Prop}
theorem abn(a:b=D->aG)(c:b=bk->A):cond ((oC==fF)==b) A (cond b aG xs):=by
 induction b with
 |true=>exact a Z
 |false=>exact c Z
theorem Xu(a:p->A)(c:¬p->xs):cond ((fF==fF)==decide p) A (cond ((oC==fF)==decide p) xs<|cond (decide p) aG σ):=by
 by_cases h:p
 .exact rr (aN h)<|a h
 .exact rr (bj h)<|c h
end
noncomputable def bd:av->av
 |.HG _ _ b::_=>b
 |.nh _ b::_=>b
 |.BA _ _ _ b::_=>b
 |_=>[]
theorem aeQ(h:k<=10000000):(k:Int)<=cE:=il<|mX h
theorem aeR:-(cE:Int)<=k:=bT _
theorem mj{E:Ex}(h:k<=10000000)(q:Q (.wk 0 k) Y):bE Γ (.fK "range") [.aL k] Y Q E:=ME aeR (aeQ h) q
theorem ahJ:¬(k:Int)<0:=NY<|bT k
theorem aeS(h:k<=m):¬(m:Int)<k:=NY<|il h
structure w0(Y:N)(c:a8)(T p:aq)(k:Nat)(dx:a8):Prop where
 z:T.length<=1000000
 l:k<=T.length
 e:T.drop k=p
 h:Y c=O (.d8 234 dx [(5,.aQ T),(4,.aL k)])
def Cu(Y:N)(c:a8)(T p:aq):Prop:=∃k dx,w0 Y c T p k dx
theorem kq(l:List α)(k:Nat):mO l (k:Int)=l[k]?:=rfl
variable{aZ:Nat}
theorem Ij{f:Nat}(e:f+k=aZ)(h:k<aZ):∃a,f=a+1/\a+(k+1)=aZ:=by
 induction f with
 |zero=>exact cM h (by refine rl e<|rr (nY _) ?_;exact iG k)
 |succ f=>exact bX f Z<|(Nat.succ_add_eq_add_succ f k).symm.trans e
theorem abo(n k:Nat):wm n (k:Int)=min k n:=by exact rfl
theorem SN(a b:List α)(k:Nat):hU (a++b) (O (a.length:Int)) (O<|(a.length:Int)+(k:Int))=b.take k:=by show((a++b).take<|wm (a++b).length ((a.length+k:Nat):Int)).drop (wm (a++b).length (a.length:Int))=_;exact rr (abo _ _)<|rl (List.take_eq_take_min)<|rr (List.take_length_add_append _)<|rr (qn<|aY▸d7 ..)<|D5
section
variable{c:a8} {T p:aq}
theorem w0.gj(h:w0 Y c T p k dx):T.length=k+p.length:=by refine rl (h.e)<|rr (gw) ?_;exact(iL h.l).symm
theorem w0.at(h:w0 Y c T p k dx)(j:Nat):mO T ((k:Int)+(j:Int))=p[j]?:=by refine rl (h.e)<|rr (yC) ?_;exact kq T<|k+j
theorem w0.lt(h:w0 Y c T p k dx):(k:Int)+(j:Int)<(T.length:Int)↔j<p.length:=rr (h.gj)<|(Int.ofNat_lt (n:=k+j)).trans<|Nat.add_lt_add_iff_left
theorem w0.Ob(h:w0 Y c T p k dx):(k:Int)<(T.length:Int)↔0<p.length:=h.lt (j:=0)
theorem w0.sl(h:w0 Y c T p k dx)(j:Nat):hU T (O (k:Int)) (O<|(k:Int)+(j:Int))=p.take j:=by
 have:=SN (T.take k) (T.drop k) j
 rwa [hO,(iI h.l:(T.take k).length=k),h.e]at this
theorem w0.aX(h:w0 Y c T p k dx){τ:N}{o:Int}(a:j<=p.length)(e:o=(k:Int)+(j:Int)):w0 (τ.aX c<|.d8 234 dx [(5,.aQ T),(4,.aL o)]) c T (p.drop j) (k+j) dx:=rr e ⟨h.z,by refine rr (h.gj) ?_;exact eZ a k,by exact rl (h.e)<|rr (wt) Z,N.aM _ _ _⟩
end
theorem Ik(w p:aq):decide (af9 w.length p=w)=w.isPrefixOf p:=by refine ri (Bool.eq_iff_iff)<|ri (D6)<|ri decide_eq_true_iff<|ri (List.prefix_iff_eq_take) ?_;exact⟨pP,pP⟩
variable{T:aq} {c:a8}
section
variable{E:Ex}
theorem DJ(W:WA g)(f:5<=n)(c:FF hd Y)(d:k<=T.length)(i:T.length<=1000000)(q:∀p a,Y p=X->bH Y a->zT a p k->Q (.S p) a):bE ⟨g,hd,n⟩ (.S 57) [.aQ T,.aL k] Y Q E:=by
 refine W.e 1 f Z Z Z<|ahG c (bu ahJ)<|l7<|ahH c (bu<|aeS d)<|mj (aD d<|aD i dc)<|ED (m:=k) (λU eP a=>a=Y/\∃l b h,eP=[O<|.aQ T,O<|.aL k,O<|.aL k,O<|.aL l,O<|.aL b,h]) (wO Z _ _ _ Z) (λU U U h=>h.1▸c) ?_ ?_
 .clear c;clear q;intro j eP a o z;obtain⟨rfl,l,b,h,rfl⟩:=z;refine mu (aV<|cD o d) ?_;exact lL (λU=>wO Z _ _ _ Z) λU=>wO Z _ _ _ Z
 .clear c;intro eP a z;obtain⟨rfl,l,b,h,rfl⟩:=z;exact K2 W (rm f Z) q
theorem zj(W:WA g)(a:1<=n){p:aq}(h:Cu Y c T p)(q:Q (.du<|decide (p=[])) Y):bE ⟨g,hd,n⟩ (.S 131) [.S c] Y Q E:=by refine mK h λk dx h=>(W.d 4 Z).r W a Z<|d9 h.h Z Z<|d9 h.h Z Z<|l7<|qD (Q:=Q) q<|rr (h.gj)<|ril (Hz) ?_;lia
theorem SP(W:WA g)(e:1<=n){p:aq}(f:args++[.aL 0].drop (args.length-1)=[.S c,.aL (j:Int)])(i:MN args.length 1 2=D)(h:Cu Y c T p)(q:Q (.aQ<|(p.drop j).take 1) Y):bE ⟨g,hd,n⟩ (.S 139) args Y Q E:=by
 refine mK h λk dx h=>(W.d 5 Z).Ii W e i f<|d9 h.h Z Z<|d9 h.h Z Z<|l7<|lL (λa=>?_) λa=>?_
 .have a:=h.lt.mp a;refine d9 h.h Z Z<|abm ((h.at j).trans<|aV a) ?_;exact qS (Q:=Q) q<|rr (fY a) Z
 .have a:=λb=>a<|h.lt.mpr b;exact qS (Q:=Q) q<|rr (ue<|gS a) Z
theorem Gi(W:WA g)(a:1<=n){p:aq}(h:Cu Y c T p)(q:Q (.aQ<|p.take 1) Y):bE ⟨g,hd,n⟩ (.S 139) [.S c] Y Q E:=SP W a (j:=0) Z Z h q
theorem MO(W:WA g)(a:1<=n){p:aq}(h:Cu Y c T p)(q:Q (.aQ<|(p.drop 1).take 1) Y):bE ⟨g,hd,n⟩ (.S 139) [.S c,.aL 1] Y Q E:=SP W a (j:=1) Z Z h q
theorem SQ(W:WA g)(a:1<=n){p w:aq}(h:Cu Y c T p)(q:Q (.du<|w.isPrefixOf p) Y):bE ⟨g,hd,n⟩ (.S 146) [.S c,.aQ w] Y Q E:=mK h λk dx h=>(W.d 6 Z).r W a Z<|d9 h.h Z Z<|d9 h.h Z Z<|d9 h.h Z Z<|l7<|qB (Q:=Q) q<|rr (h.sl _)<|Ik _ _
theorem Cc(W:WA g)(b:2<=n){p:aq}(h:Cu Y c T p)(q:∀a,Cu a c T (p.drop 1)->Al c Y a->Q (.aQ<|p.take 1) a):bE ⟨g,hd,n⟩ (.S 153) [.S c] Y Q E:=by
 refine mK h λk dx h'=>W.e 7 b Z Z Z<|wZ h'.h Z Z<|zj W (rm b Z) h ?_;induction p with
 |nil=>exact q Y h .cL
 |cons d r=>
  exact t6 Z<|d9 h'.h Z Z<|d9 h'.h Z Z<|abm (h'.at 0)<|d9 h'.h Z Z<|pL h'.h Z Z<|q _ (Bk _ _<|h'.aX (j:=1) (gq ..) Z) .aX
theorem abp(W:WA g)(b:2<=n){p w:aq}(h:Cu Y c T p)(q:∀r a,p=w++r->Cu a c T r->Al c Y a->Q (.du D) a)(d:w.isPrefixOf p=bk->Q (.du bk) Y):bE ⟨g,hd,n⟩ (.S 160) [.S c,.aQ w] Y Q E:=by
 refine mK h λk dx h'=>W.e 8 b Z Z Z<|wZ h'.h Z Z<|SQ W (rm b Z) h ?_;cases e:w.isPrefixOf p with
 |false=>exact d e
 |true=>
  have e:=List.prefix_iff_eq_append.mp<|List.isPrefixOf_iff_prefix.mp e;exact d9 h'.h Z Z<|l7<|pL h'.h Z Z<|q (p.drop w.length) _ e.symm (Bk _ _<|h'.aX (by refine rl e<|rr (aY) ?_;exact d7 ..) Z) .aX
theorem Xv{s p:aq}(a:j<=p.length)(b:∀d∈p.take j,d∈s)(c:∀d,p[j]?=O d->d∉s):p.takeWhile (λx=>decide (x∈s))=p.take j/\p.dropWhile (λx=>decide (x∈s))=p.drop j:=by
 induction p generalizing j with
 |nil=>cases Nat.le_zero.mp a;exact⟨Z,Z⟩
 |cons d r i=>
  induction j with
  |zero=>
   have:=c d Z;refine rr (NV)<|rr (xm)<|rr (bj this) ?_;exact⟨Z,Z⟩
  |succ j=>
   have:=i (jN a) (λd h=>b d<|di _ h) c;refine rr (NV)<|rr (xm)<|rr (aN<|b d<|bS ..)<|rr (this.1)<|rr (this.2) ?_;exact⟨Z,Z⟩
theorem Gj(W:WA g)(u:1<=n){p s:aq}(h:Cu Y c T p)(q:∀i,Cu i c T (p.dropWhile (·∈s))->Al c Y i->Q (.aQ (p.takeWhile (·∈s))) i):bE ⟨g,hd,n⟩ (.S 167) [.S c,.aQ s] Y Q E:=by
 refine mK h λk dx h=>W.e 9 u Z Z Z<|d9 h.h Z Z<|OP (λm eP i=>∃j,m+j=p.length/\(∀d∈p.take j,d∈s)/\eP=[O<|.S c,O<|.aQ s,O<|.aL k]/\Al c Y i/\w0 i c T (p.drop j) (k+j) dx) (rf 0 Z (λU h=>cM h tP) Z .cL h) ?_;intro m eP i v;(refine pS v λj r t z al f=>?_;refine rr z ?_);refine d9 f.h Z Z<|d9 f.h Z Z<|l7 ?_;have fin:(∀d,p[j]?=O d->d∉s)->Q (.aQ<|hU T (O (k:Int))<|O ((k+j:Nat):Int)) i:=λw=>by
  refine fw (Xv (r▸gq ..:j<=p.length) t w) λy A=>?_;have:=q i (rr A<|Bk _ _ f) al;rw [y]at this;exact qS this<|h.sl j
 refine pk (λa=>?_) λa=>?_
 .have a:=f.Ob.mp a;have l:j<p.length:=Nat.lt_of_sub_pos<|gw▸a;refine d9 f.h Z Z<|d9 f.h Z Z<|abm ((f.at 0).trans<|aV a) ?_;refine mu Z<|ahI (Y:=i) ?_;refine pk (λhd=>?_) λhd=>?_
  .refine d9 f.h Z Z<|pL f.h Z Z<|cK (Ij r l) λm z xs=>rr z ⟨m,dM m,j+1,xs,?_,Z,al.aU .aX,?_⟩
   .intro d o;rw [dK,aV l]at o;refine bV (ma o) (λx=>?_) λx=>?_
    .exact t d x
    .clear o;cases ms x;rwa [QD]at hd
   .have:=f.aX (τ:=i) (j:=1) a Z
    rwa [wt]at this
  .exact d9 f.h Z Z<|d9 f.h Z Z<|fin λd e=>by
    rw [aV l]at e;refine rl (aJ e) ?_;rwa [QD]at hd
 .exact d9 f.h Z Z<|d9 f.h Z Z<|fin λd e=>cM (gw▸VM (gl e)) λb=>a<|f.Ob.mpr b
theorem K4(W:WA g)(d:6<=n)(f:FF hd Y){p:aq}(h:Cu Y c T p)(q:∀a b,Y a=X->bH Y b->zT b a ((T.length:Int)-p.length)->Q (.S a) b):bE ⟨g,hd,n⟩ (.S 203) [.S c] Y Q E:=mK h λk dx h=>W.e 10 d Z Z Z<|d9 h.h Z Z<|d9 h.h Z Z<|DJ W (rm d Z) f h.l h.z λa b n x y=>q a b n x (rr (h.gj)<|have e:((k+p.length:Nat):Int)-p.length=k:=(by lia);rr e y)
end
inductive R(α:Type)where
 |ok (a:α)
 |eA (p:aq)
 |jc
noncomputable def R.bJ(x:R α)(f:α->R β):R β:=match x with
 |.ok a=>f a
 |.eA p=>.eA p
 |.jc=>.jc
noncomputable def SR(d:Nat):Option Nat:=if d=110 then O 10 else if d=34 then O 34 else if d=92 then O 92 else X
noncomputable def rQ:aq->R (aq×aq)
 |[]=>.eA []
 |[d]=>if d=92 then .eA []else if d=34 then .ok ([],[])else .eA []
 |d::e::s=>if d=92 then(SR e).elim .jc λx=>(rQ s).bJ λa=>.ok (x::a.1,a.2)else if d=34 then .ok ([],e::s)else(rQ<|e::s).bJ λa=>.ok (d::a.1,a.2)
noncomputable def mq(d:Nat):Bool:=decide (d∈[48,49,50,51,52,53,54,55,56,57])
theorem MP{d:Nat}(h:mq d=D):48<=d/\d<=57:=(by decide:∀d∈[48,49,50,51,52,53,54,55,56,57],48<=d/\d<=57) d<|aI h
theorem abq{d:Nat}(h:48<=d/\d<=57):mq d=D:=aN<|(by decide:∀d<58,48<=d->d∈[48,49,50,51,52,53,54,55,56,57]) d (jx h.2) h.1
noncomputable def xn(w p:aq):R aq:=if w.isPrefixOf p then .ok (p.drop w.length)else .eA p
def OQ(s:Int)(p:aq):R (Int×aq):=if p.takeWhile mq=[]\/160<(p.takeWhile mq).length then .eA (p.dropWhile mq)else .ok (s*digitsVal (p.takeWhile mq),p.dropWhile mq)
def uP(p:aq):R (Int×aq):=if [45].isPrefixOf p then OQ (-1) (p.drop 1)else OQ 1 p
def rY(p:aq):Bool:=p.take 1==[45]&&((p.drop 1).take 1==[]||!(p.drop 1).head?.any mq)
def wA(br:aq->R (V×aq))(p:aq):R (V×aq):=
 if [34].isPrefixOf p then(rQ<|p.drop 1).bJ λa=>.ok (.aQ a.1,a.2)
 else if [40].isPrefixOf p then br (p.drop 1)
 else if rY p then .ok (.bR,p.drop 1)
 else(uP p).bJ λa=>.ok (.aL a.1,a.2)
noncomputable def zV(it:aq->R (V×aq)):Nat->aw->aq->R (V×aq)
 |0,_,_=>.jc
 |f+1,acc,p=>if [41].isPrefixOf p then .ok (.bD acc,p.drop 1)else(xn [32] p).bJ λp=>(it p).bJ λa=>zV it f (acc++[a.1]) a.2
def rBr(it:aq->R (V×aq))(p:aq):R (V×aq):=if [41].isPrefixOf p then .ok (.bD [],p.drop 1)else(it p).bJ λa=>zV it (a.2.length+1) [a.1] a.2
noncomputable def rI:Nat->aq->R (V×aq)
 |0=>wA .eA
 |k+1=>wA<|rBr<|rI k
section
variable{r l:a8} {p p':aq} {ln:Int} {C:cP}
theorem Cu.cu(h:Cu Y c T p)(n:Y l=X):Cu (Y.aX l C) c T p:=mK h λk dx h=>Bk k dx ⟨h.z,h.l,h.e,N.dF n h.h⟩
theorem Cu.dq(h:Cu Y c T p)(x:bH Y c8):Cu c8 c T p:=mK h λk dx h=>Bk k dx ⟨h.z,h.l,h.e,x _ _ h.h⟩
theorem Cu.al(h:Cu Y c T p)(al:Al r Y c8)(n:r≠c):Cu c8 c T p:=mK h λk dx h=>Bk k dx ⟨h.z,h.l,h.e,(al _ n.symm).trans h.h⟩
theorem Cu.z(h:Cu Y c T p):p.length<=1000000:=mK h λk dx h=>aD (by refine rl (h.e)<|rr (gw) ?_;exact Qr ..) h.z
theorem Cu.ne{aO:cP}(h:Cu Y c T p)(n:Y l=O aO)(b:∀dx a,aO≠.d8 234 dx a):l≠c:=λe=>mK h λk dx h=>b _ _<|aJ<|n.symm.trans<|(aH Y e).trans h.h
structure Rd(Y:N)(r c:a8)(T p:aq)(ln:Int):Prop where
 k:Cu Y c T p
 r:∃dx,Y r=O (.d8 741 dx [(27,.S c),(26,.aL ln)])
theorem Rd.ne(h:Rd Y r c T p ln):r≠c:=ka (h.r) λU e=>h.k.ne e λU U e=>nomatch e
theorem Rd.nl(h:Rd Y r c T p ln)(n:Y l=O (.aF B)):l≠c:=h.k.ne n λU U e=>nq Internal.cP.ctorIdx e ff
theorem Rd.nr(h:Rd Y r c T p ln)(n:Y l=O (.aF B)):l≠r:=λe=>ka (h.r) λU h=>nq Internal.cP.ctorIdx (aJ<|n.symm.trans<|(aH Y e).trans h) ff
theorem Rd.al(h:Rd Y r c T p ln)(al:Al c Y c8)(h':Cu c8 c T p'):Rd c8 r c T p' ln:=⟨h',h.r.imp λU e=>(al r h.ne).trans e⟩
theorem Rd.fr(h:Rd Y r c T p ln)(al:Al c Y c8):Fr Y c8:=al.fr λaO e=>mK (h.k) λk dx h=>by rw [h.h]at e;refine rl (aJ e) ?_;rfl
theorem Rd.cu(h:Rd Y r c T p ln)(n:Y l=X):Rd (Y.aX l C) r c T p ln:=⟨h.k.cu n,h.r.imp λU e=>N.dF n e⟩
theorem Rd.dq(h:Rd Y r c T p ln)(x:bH Y c8):Rd c8 r c T p ln:=⟨h.k.dq x,h.r.imp λU e=>x _ _ e⟩
theorem Rd.abr(h:Rd Y r c T p ln)(n:Y l=O (.aF B)):Rd (Y.aX l C) r c T p ln:=⟨h.k.al .aX<|h.nl n,h.r.imp λU e=>(N.da _ _ (h.nr n).symm).trans e⟩
variable{P:V->Prop} {P':V×aw->Prop} {i f:a8}
theorem wo(h:Rd Y r c T p ln)(q:P (.S c)):uB r 27 Y P:=ka (h.r) λU h=>d9 h Z Z q
theorem aeT(h:Rd Y r c T p ln)(q:P (.aL ln)):uB r 26 Y P:=ka (h.r) λU h=>d9 h Z Z q
theorem ahK(h:Rd Y r c T p ln)(q:P (.aQ T)):uB c 5 Y P:=mK (h.k) λU U h=>d9 h.h Z Z q
theorem fR(h:Rd Y r c T p ln)(a:uA 741 i=O f)(b:pI i [(27,V.S c),(26,.aL ln)]=X)(q:P' (.S f,[.S r])):gX (tZ r i Y) P':=ka (h.r) λU h=>wZ h a b q
theorem qx(h:Cu Y c T p)(d:uA 234 i=O f)(e:(i==5||i==4)=bk)(q:P' (.S f,[.S c])):gX (tZ c i Y) P':=mK h λk U h=>wZ h.h d (by have⟨a,b⟩:=Bool.or_eq_false_iff.mp e;simp only [eS,a,b];rfl) q
end
variable{j8:N} {b':aq} {qR:N} {ln:Int}
section
variable{E:Ex}
theorem SU(W:WA g)(i:4<=n){p:aq}{d x:Nat}(h:Cu Y c T (d::p))(f:SR d=O x)(q:∀j,Cu j c T p->Al c Y j->Q (.aQ [x]) j):bE ⟨g,hd,n⟩ (.S 224) [.S c] Y Q E:=by
 refine W.e 11 i Z Z Z<|qx h Z Z<|Gi W (rm i Z) h ?_
 skip
 by_cases a:d=110
 .subst a;obtain rfl:=aJ f;exact qx h Z Z<|Cc W (rm i Z) h λj c' al=>aen dc dc<|q j c' al
 replace f:=(bu a).symm.trans f;by_cases b:d=34
 .clear a;subst b;obtain rfl:=aJ f;exact t6 ((tD 34 [48,49,50,51,52,53,54,55]).trans Z)<|qx h Z Z<|Cc W (rm i Z) h q
 replace f:=(bu b).symm.trans f;by_cases e:d=92
 .clear a b;subst e;obtain rfl:=aJ f;exact t6 ((tD 92 [48,49,50,51,52,53,54,55]).trans Z)<|qx h Z Z<|Cc W (rm i Z) h q
 replace f:=(bu e).symm.trans f;exact nq aP f ff
theorem OR(W:WA g)(a:4<=n)(h:Cu Y c T [])(q:Q (.aQ []) Y):bE ⟨g,hd,n⟩ (.S 224) [.S c] Y Q E:=W.e 11 a Z Z Z<|qx h Z Z<|Gi W (rm a Z) h q
theorem zW:∀l:aq,iC [] (l.map λd=>[d])=l
 |[]=>rfl
 |[d]=>rfl
 |d::e::r=>aH (d::·)<|zW<|e::r
noncomputable def pn(l:aq):aw:=l.map λd=>.aQ [d]
theorem SV(a:aq)(x:Nat):pn a++[.aQ [x]]=pn (a++[x]):=(bN (l₁:=a) (l₂:=[x])).symm
theorem SW:∀a:aq,((a.map λd=>[d]).map bW).sum=a.length:=by
 intro l;induction l with
 |nil=>
  exact Z
 |cons x r i=>
  rw [eL,eL,i1,i];exact fO ..
structure QI(Y:N)(c l:a8)(T p:aq)(a b:aq)(c8:N):Prop where
 q:rQ p=(rQ b).bJ (λx=>.ok (a++x.1,x.2))
 l:c8 l=O (.aF<|pn a)
 k:Cu c8 c T b
 f:∀d,d≠c->∀C,Y d=O C->c8 d=O C
 z:a.length+b.length<=1000000
theorem QI.al{Y c8 j8:N}{c l:a8}{T p a b b':aq}(i:QI Y c l T p a b c8)(n:l≠c)(al:Al c c8 j8):j8 l=O (.aF<|pn a)/\∀d,d≠c->∀C,Y d=O C->j8 d=O C:=⟨(al l n).trans i.l,λd hd C e=>(al d hd).trans<|i.f d hd C e⟩
theorem SX{o:Option Nat}{d:Nat}{r:aq}(h:SR d=o):rQ (92::d::r)=o.elim .jc λx=>(rQ r).bJ λa=>.ok (x::a.1,a.2):=h▸Z
theorem Gk{d:Nat}{r:aq}(h:d≠92):rQ (d::r)=if d=34 then .ok ([],r)else(rQ r).bJ λa=>.ok (d::a.1,a.2):=by induction r<;>exact bu h
theorem QI.go{l:a8}{p a b:aq}{x:Nat}(i:QI Y c l T p a b c8)(h:Y l=X)(n:l≠c)(e:rQ b=(rQ b').bJ λa=>.ok (x::a.1,a.2))(g:b'.length<b.length)(k:Cu qR c T b')(f:∀d,d≠c->∀C,Y d=O C->qR d=O C):
 QI Y c l T p (a++[x]) b' (qR.aX l<|.aF<|pn a++[.aQ [x]]):=by
 refine⟨?_,(N.aM ..).trans<|rr (SV _ _) Z,k.al .aX n,λd hd C e=>(N.da _ _<|eG h e).trans<|f d hd C e,?_⟩
 .refine rr (i.q)<|rr e ?_;induction rQ b' with
  |ok y=>exact aH (λz=>R.ok (z,y.2)) (bF a [x] y.1).symm
  |_=>rfl
 .have:=i.z;exact rr (aY)<|aD (by refine rr (vt) ?_;lia) this
theorem SY{a b:Nat}(h:a+(b+1)<=1000000):a<cE:=cD (by lia:a<1000000)<|mX dc
theorem S0(W:WA g)(t:6<=n){r c:a8}{T p:aq}{ln:Int}(h:Rd Y r c T p ln)(ns:rQ p≠.jc)(q:∀a j,rQ p=.ok a->Rd j r c T a.2 ln->Fr Y j->Q (.aQ a.1) j)(xs:∀e j,rQ p=.eA e->Rd j r c T e ln->Fr Y j->Q .bR j):bE ⟨g,hd,n⟩ (.S 231) [.S c,.aQ [34]] Y Q E:=by
 have rd:∀{j:N} {b:aq},Cu j c T b->(∀d,d≠c->∀C,Y d=O C->j d=O C)->Rd j r c T b ln/\Fr Y j:=λk f=>⟨⟨k,h.r.imp λU e=>f r h.ne _ e⟩,λd C e x=>f d (h.k.ne e λdx a y=>by subst y;exact nq bP x ff) C e⟩;refine W.e 12 t Z Z Z ?_;intro l u;have v:l≠c:=mK (h.k) λU U k=>(eG u k.h).symm;refine OP (λm eP j=>∃a b o,m=b.length/\eP=[O<|.S c,O<|.aQ [34],O<|.S l,o]/\QI Y c l T p a b j) (n:=p.length)
  (jX [] p X Z Z ⟨by cases rQ p<;>rfl,N.aM ..,h.k.cu u,λb H C e=>N.dF u e,(nY _).symm▸h.k.z⟩) ?_
 intro m eP j F;obtain⟨a,b,o,rfl,rfl,i⟩:=F;refine qx i.k Z Z<|zj W (rm t Z) i.k ?_;cases b with
 |nil=>exact xs [] j i.q (rd i.k i.f).1 (rd i.k i.f).2
 |cons d b=>
  refine qx i.k Z Z<|Cc W (rm t Z) i.k λaO c1 G=>?_;obtain⟨w,s⟩:=i.al (b':=b) v G;refine lL (λx=>?_) λx=>?_
  .cases List.singleton_inj.mp x
   refine tC (l:=a.map λd=>[d]) (w.trans (by rw [pn,bQ];refine rr (eE) ?_;rfl)) ?_ ?_
   .exact rr (SW _)<|aD (aD (d7 ..) i.z) dc
   .refine rr (zW _) ?_;have:=q (a,b) aO (i.q.trans ((aH (R.bJ · _)<|(Gk dc).trans<|bI Z).trans<|aH (λz=>R.ok (z,b))<|dS a)) (rd c1 s).1 (rd c1 s).2;exact this
  refine lL (λy=>?_) λy=>?_
  .cases List.singleton_inj.mp y
   refine qx c1 Z Z ?_;clear y;induction b with
   |nil=>
    exact OR W (rm t Z) c1<|xs [] aO i.q (rd c1 s).1 (rd c1 s).2
   |cons d b=>
    cases hx:SR d with
    |none=>exact(ns (i.q.trans (aH (R.bJ · _)<|SX hx))).elim
    |some x=>
     refine SU W (rm t Z) c1 hx λI c2 A=>nB ((A l v).trans w)<|jR ((A l v).trans w) (by rw [pn];refine rr (aT _) ?_;exact SY i.z) ?_;exact yP b.length (gB<|dM _) _ b _ Z Z<|i.go u v (SX hx) (gB<|dM _) c2 λd hd C e=>(A d hd).trans<|s d hd C e
  .have x:d≠34:=λe=>x<|rr e Z;refine nB w<|jR w (by rw [pn];refine rr (aT _) ?_;exact SY i.z) ?_;exact yP b.length (dM _) _ b _ Z Z<|i.go u v ((Gk (λe=>y (rr e Z):d≠92)).trans<|bu x) (dM _) c1 s
end
def fH(r c:a8)(T:aq)(E:Ex)(ln:Int)(K:α->N->Prop)(Y:N):R (α×aq)->Prop
 |.ok a=>∀c8,Rd c8 r c T a.2 ln->Fr Y c8->K a.1 c8
 |.eA p=>∀a c8,TE Y ((T.length:Int)-p.length) a c8->E a () c8
 |.jc=>False
def eu(x:R aq):R (Unit×aq):=x.bJ λp=>.ok ((),p)
variable{K':Unit->N->Prop}
section
variable{r:a8} {E:Ex} {S1:Int} {K:α->N->Prop} {K':β->N->Prop} {lO:N}
theorem fH.g8{x:R (α×aq)}(H:fH r c T E ln K lO x)(f:Fr lO Y):fH r c T E ln K Y x:=by
 induction x with
 |ok a=>exactλb h d=>H b h<|f.aU d
 |eA p=>exactλa b t=>H a b<|t.g8 f
 |jc=>exact H
theorem fH.De{p:Prop} [Decidable p]{x y:R (α×aq)}(H:fH r c T E ln K Y (if p then x else y))(h:p):fH r c T E ln K Y x:=by rwa [bI h]at H
theorem fH.Cd{p:Prop} [Decidable p]{x y:R (α×aq)}(H:fH r c T E ln K Y (if p then x else y))(h:¬p):fH r c T E ln K Y y:=by rwa [bu h]at H
theorem fH.gV{x:R (β×aq)}{f:β×aq->R (α×aq)}(H:fH r c T E ln K lO (x.bJ f))(fr:Fr lO Y)(k:∀a b,x=.ok a->Rd b r c T a.2 S1->Fr Y b->fH r c T E ln K lO (f a)->K' a.1 b):fH r c T E S1 K' Y x:=by
 induction x with
 |ok a=>exactλb h d=>k a b Z h d H
 |eA p=>exactλa b t=>H a b<|t.g8 fr
 |jc=>exact H
theorem fH.lK{x:R γ}{f:γ->R β}{k:β->R (α×aq)}(H:fH r c T E ln K lO ((x.bJ f).bJ k)):fH r c T E ln K lO (x.bJ λa=>(f a).bJ k):=by
 induction x with
 |_=>exact H
theorem fH.uQ{p:Prop} [Decidable p]{x y:R β}{k:β->R (α×aq)}(H:fH r c T E ln K lO ((if p then x else y).bJ k)):fH r c T E ln K lO (if p then x.bJ k else y.bJ k):=by
 by_cases h:p
 .rwa [bI h]at H⊢
 .rwa [bu h]at H⊢
theorem fH.wB{x:R aq}{f:aq->R (α×aq)}{K':Unit->N->Prop}(H:fH r c T E ln K lO (x.bJ f))(fr:Fr lO Y)(k:∀p b,x=.ok p->Rd b r c T p S1->Fr Y b->fH r c T E ln K lO (f p)->K' () b):fH r c T E S1 K' Y (eu x):=by
 induction x with
 |ok a=>exactλb h d=>k a b Z h d H
 |eA p=>exactλa b t=>H a b<|t.g8 fr
 |jc=>exact H
end
variable{aE:N->Prop} {lO:N}
section
variable{E:Ex} {r:a8} {p w:aq} {S1:Int}
theorem abt{x i:a8}{v:V}(h:Y x=O (.Ai C))(a:xF C i=D)(q:∀dx,Y dx=X->dx≠x->aE ((Y.aX dx<|.fu x).aX x<|.fg C dx [(i,v)] .none X)):qs x i v Y aE:=.n h a q
theorem abu{x i:a8}{a:At}{tb:Option a8}{v:V}(h:Y x=O (.fg C dx a cx tb))(b:xF C i=D)(c:gh a.length 1000=D)(q:aE (Y.aX x<|.fg C dx (a.iV i v) cx tb)):qs x i v Y aE:=.x h b (aK c) q
theorem MJ:FF X Y:=λU h=>nq aP h ff
theorem DK{a b:Nat}(h:a<=1000)(c:b<=1000):a+b<=cE:=aD (cV h c)<|mX dc
theorem Zo(W:WA g)(b:4<=n)(m:MkX g C 72)(e:xF C 3=D)(f:xF C 4=D){v:V}(c:gh args.length 2=D)(i:args++[V.bR].drop (args.length-1)=[.aQ w,v])(j:gh 1 args.length=D)(q:∀x dx a,Y x=X->bH Y a->a x=O (.fg C dx [(3,.aQ w),(4,v)] .none X)->Q (.S x) a):bE ⟨g,hd,n⟩ (.S C) args Y Q E:=by
 refine m.go (r1 b Z) (aD (aK c) dc) λx h=>(W.d 2 Z).go (args':=[.S x,.aQ w,v]) W.kf (rm b Z) (dW (cg<|aK c) (kj<|ej _)<|cg<|cg<|aK j) (aH (V.S x::·) ?_) ?_
 .exact rl i Z
 exact OI m.x (C:=C) (N.aM ..)<|abt (N.aM ..) e λdx k ne=>abu (N.aM ..) f Z<|rr (N.mU _ _ _ _) ⟨Z,q x dx _ h (((bH.cL.aX h).aX<|(N.da _ _ ne).symm.trans k).aX h)<|N.aM ..⟩
theorem aeU{p:a8}{o:Int}(x:Fr lO Y)(h:zT Y p o)(c:p≠a)(g:lO a=X)(l:Lv a (Y.aX a<|.fg 107 dx [(3,.aQ w),(4,.S p)] cx X) c8):TE lO o a c8:=by refine⟨λb aO e f=>have d:=eG g e;l.Bu b aO d ((N.da _ _ d).trans<|x b aO e f),?_⟩;refine n0 (l.fg) λC q r s tb t i z=>?_;obtain⟨j,_⟩:=z;exact xA h λm n k h=>vA dx _ _ _ p (j.trans<|QS t<|(N.aM ..).symm.trans i) Z ⟨m,n,k,l.Bu p _ c<|(N.da _ _ c).trans h⟩
theorem zT.dq{o:Int}(h:zT Y a o)(x:bH Y c8):zT c8 a o:=xA h λp l k h=>Bm p l k<|x _ _ h
theorem FF.ne{x:a8}(a:FF hd Y)(b:Fr Y c8)(c:c8 x=X)(ea:a8)(e:hd=O ea):x≠ea:=Bj (a ea e) λU U U U h=>(eG c<|b _ _ h Z).symm
theorem xX(W:WA g)(d:8<=n)(f:FF hd Y)(h:Rd Y r c T p ln)(e:∀a m,TE Y ((T.length:Int)-p.length) a m->E a () m):bE ⟨g,hd,n⟩ (.S 652) [.S r,.aQ w] Y Q E:=W.e 42 d Z Z Z<|wo h<|qx h.k Z Z<|K4 W (rm d Z) f h.k λa u v b o=>Zo W (rm d Z) W.aeO Z Z Z Z Z λx y z i j q=>MM q Z ((f.dq b.fr).dq j.fr) (f.ne b.fr i) λs l=>e x s<|aeU (b.aU j).fr (o.dq j) (xA o λU U U t=>eG i t) (fp b i) l
theorem mw(W:WA g)(b:8<=n)(h:Rd Y r c T p ln)(fr:Fr lO Y){K:α->N->Prop}(H:fH r c T E S1 K lO (.eA p)):bE ⟨g,X,n⟩ (.S 652) [.S r,.aQ w] Y Q E:=xX W b MJ h λa d t=>H a d<|t.g8 fr
theorem vK(W:WA g)(b:2<=n)(h:Rd Y r c T p ln)(q:w.isPrefixOf p=D->∀a,Rd a r c T (p.drop w.length) ln->Fr Y a->Q (.du D) a)(d:w.isPrefixOf p=bk->Q (.du bk) Y):bE ⟨g,hd,n⟩ (.S 160) [.S c,.aQ w] Y Q E:=abp W b h.k (λs a e k al=>q (by refine rr e<|ri (D6) ?_;exact Qg ..) a (h.al al (by refine rr e<|rr (D5) ?_;exact k))<|h.fr al) d
theorem w4(W:WA g)(d:12<=n)(f:w.length<=950)(h:Rd Y r c T p ln)(H:fH r c T E ln (λU a=>Q .bR a) Y (eu<|xn w p)):bE ⟨g,X,n⟩ (.S 659) [.S r,.aQ w] Y Q E:=by
 refine W.e 43 d Z Z Z<|wo h<|qx h.k Z Z<|vK W (rm d Z) h (λep a h' fr=>?_) λep=>?_
 .unfold xn at H;rw [bI ep]at H;exact H a h' fr
 .refine fR h Z Z ⟨DK (aK rfl)<|aD f<|aK rfl,?_⟩;refine⟨DK (rr (aY)<|cV (b:=50) (aK rfl) f)<|aK rfl,?_⟩;unfold xn at H;rw [bu (by rw [ep];exact dc)]at H;exact mw (K:=λU a=>Q .bR a) W (rm d Z) h .cL H
theorem w5(W:WA g)(a:14<=n)(h:Rd Y r c T p ln)(H:fH r c T E (ln+1) (λU b=>Q .bR b) Y (eu<|xn [10] p)):bE ⟨g,X,n⟩ (.S 673) [.S r] Y Q E:=W.e 45 a Z Z Z<|fR h Z Z<|w4 W (rm a Z) dc h<|fH.wB (f:=λp=>.ok ((),p)) H .cL λp' b U h' fr H=>aeT h'<|ka (h'.r) λdx d=>pL d Z Z<|ka (h.r) λj i=>H _ ⟨h'.k.al .aX h'.ne,dx,N.aM ..⟩ (fr.ahF λaO e=>by rw [i]at e;refine rl (aJ e) ?_;rfl)
theorem abv(W:WA g)(a:16<=n)(f:w.length<=950)(h:Rd Y r c T p ln)(H:fH r c T E (ln+1) (λU b=>Q .bR b) Y (eu<|(xn w p).bJ<|xn [10])):bE ⟨g,X,n⟩ (.S 666) [.S r,.aQ w] Y Q E:=by
 refine W.e 44 a Z Z Z<|fR h Z Z ?_;have H:fH r c T E (ln+1) (λ(_:Unit) b=>Q .bR b) Y ((xn w p).bJ λp=>eu<|xn [10] p):=by
  cases e:xn w p with
  |_=>rw [e]at H;exact H
 refine w4 W (rm a Z) f h<|H.wB .cL λj k l d i H=>?_;exact fR d Z Z<|w5 W (rm a Z) d<|H.g8 i
end
variable{br:aq->R (V×aq)}
section
variable{E:Ex} {r:a8} {p w:aq}
theorem ahL(h:(k:Int)<m):k<m:=zI h
theorem aeV(h:¬(k:Int)<m):m<=k:=gS λx=>h<|it x
theorem Xw(p:aq):∀d∈p.takeWhile mq,48<=d/\d<=57:=λd hd=>MP<|la (List.all_takeWhile (p:=mq) (l:=p)) d hd
theorem Ce(W:WA g)(b:12<=n){s:Int}(d:iq s<=64)(h:Rd Y r c T p ln)(H:fH r c T E ln (λv f=>Q (.aL v) f) Y (OQ s p)):iy ⟨g,X,n-1⟩ (kU E) (aeA.drop 1) [O<|.S r,O<|.aL s,X] Y (yZ Q):=by
 refine wo h<|qx h.k Z Z<|Gj W (rm b Z) h.k λi c2 al=>have a:=h.al al c2;tU (λe=>?_) (λe=>?_)
 .exact fR a Z Z<|mw W (rm b Z) a (h.fr al)<|H.De<|.inl e
 refine l7<|tU (λl=>?_) λl=>?_
 .exact fR a Z Z<|mw W (rm b Z) a (h.fr al)<|H.De<|.inr<|ahL (k:=160) l
 exact OE (Xw p) e (aD (aeV (k:=160) l) dc) ⟨jJ d,(H.Cd λx=>x.elim e<|Nat.not_lt.mpr<|aeV (k:=160) l) i a<|h.fr al⟩
theorem Gl(W:WA g)(a:12<=n)(h:Rd Y r c T p ln)(H:fH r c T E ln (λv b=>Q (.aL v) b) Y (uP p)):bE ⟨g,X,n⟩ (.S 680) [.S r] Y Q E:=W.e 46 a Z Z Z<|wo h<|qx h.k Z Z<|vK W (rm a Z) h (λep f d fr=>Ce W a dc d<|(H.De ep).g8 fr) λep=>Ce W a dc h<|H.Cd<|rr ep dc
def S2(g:Gd)(r c:a8)(T:aq)(ln d:Int)(m:Nat)(it:aq->R (V×aq)):Prop:=∀n Y p Q E args,m<=n->(args=[.S r,.aL d]\/d=0/\args=[.S r])->Rd Y r c T p ln->fH r c T E ln Q Y (it p)->bE ⟨g,X,n⟩ (.S 688) args Y Q E
structure BI(Y:N)(r c:a8)(T:aq)(ln:Int)(E:Ex)(Q:aj)(it:aq->R (V×aq))(l:a8)(f:Nat)(acc:aw)(b:aq)(c8:N):Prop where
 l:c8 l=O (.aF acc)
 k:Rd c8 r c T b ln
 fr:Fr Y c8
 H:fH r c T E ln Q Y (zV it f acc b)
 z:acc.length+f<=1000002
theorem S3{a f:Nat}(h:a+f<=1000002):a<cE:=cD (jx<|aD (d7 ..) h)<|mX dc
theorem OS(W:WA g){d:Int}{it:aq->R (V×aq)}(I:S2 g r c T ln d m it)(hd:¬2<d)(v:m+14<=n)(h:Rd Y r c T p ln)(H:fH r c T E ln Q Y (rBr it p)):bE ⟨g,X,n⟩ (.S 695) [.S r,.aL d] Y Q E:=by
 have q:14<=n:=aD (gq ..) v;have w:m<=n-1:=ir<|aD (eZ dc m) v;refine W.e 48 q Z Z Z<|lL (λa=>cM a hd) λU=>?_;intro l j;have f0:Fr Y (Y.aX l<|.aF []):=Fr.cL.aX j;refine wo (h.cu (C:=.aF []) j)<|qx (h.cu (C:=.aF []) j).k Z Z<|vK W (rm q Z) (h.cu (C:=.aF []) j) (λep x s fr=>(H.De ep) x s<|f0.aU fr) λep=>nB (N.aM ..)<|fR (h.cu (C:=.aF []) j) Z Z<|I _ _ p _ _ _ w (.inl Z) (h.cu (C:=.aF []) j)<|(H.Cd (by refine rr ep ?_;decide)).gV f0 λa x U s y H=>?_;have A:=y l _ (N.aM ..) Z;refine jR A (S3 (aK rfl:0+0<=1000002))<|OP (λm eP K=>∃u b,eP=[O<|.S r,O<|.aL d,O<|.S l]/\BI Y r c T ln E Q it l m u b K) (n:=a.2.length+1)
  (lq [a.1] a.2 Z ⟨N.aM ..,s.abr A,(f0.aU y).aX j,H,by refine rr (fO _ _) ?_;exact cg<|cg s.k.z⟩) ?_
 intro f eP aB vs;obtain⟨u,b,rfl,i⟩:=vs;induction f with
 |zero=>exact i.H.elim
 |succ f=>
 refine wo i.k<|qx i.k.k Z Z<|vK W (rm q Z) i.k (λep xs t o=>?_) λep=>?_
 .exact MF (o l _ i.l Z)<|(i.H.De ep) xs t<|i.fr.aU o
 refine fR i.k Z Z<|w4 W (rm q Z) dc i.k<|(i.H.Cd (by refine rr ep ?_;decide)).wB i.fr λM xs U t o H=>?_;have aO:=i.fr.aU o;have F:=o l _ i.l Z;refine nB F<|fR t Z Z<|I _ _ M _ _ _ w (.inl Z) t<|H.gV aO λa P U aZ G H=>?_;have ρ:=G l _ F Z;exact jR ρ (S3 i.z) ⟨f,dM _,u++[a.1],a.2,Z,N.aM ..,aZ.abr ρ,(aO.aU G).aX j,H,by refine rr (aY)<|rr (ku _ _ _)<|rr (fO _ f) ?_;exact i.z⟩
theorem Xx{x:Nat}{p:aq}(h:x≠45):rY (x::p)=bk:=by unfold rY;exact rr (show(af9 1 (x::p)==[45])=bk from by simp [h]) Z
theorem EE(W:WA g){d:Int}(u:14<=m)(xs:∀n Y p Q E,m<=n->Rd Y r c T p ln->fH r c T E ln Q Y (br p)->bE ⟨g,X,n⟩ (.S 695) [.S r,.aL<|d+1] Y Q E):S2 g r c T ln d (m+2) (wA br):=by
 intro n Y p Q E args q v h H;have b:=aD (cG u 2) q;have s:iy ⟨g,X,n-1⟩ (kU E) aeB [O<|.S r,O<|.aL d,X] Y (yZ Q):=by
  refine wo h<|qx h.k Z Z<|vK W (rm b Z) h (λep l f fr=>?_) λep=>?_
  .refine wo f<|qx f.k Z Z<|have H:=H.De ep;S0 W (rm b Z) f (λx=>by unfold R.bJ at H;replace H:=(show rQ (p.drop 1)=_ from x)▸H;exact H) (λa t o j f2=>?_) λp' t o j f2=>?_
   .unfold R.bJ at H;replace H:=(show rQ (p.drop 1)=_ from o)▸H;exact H t j<|fr.aU f2
   .unfold R.bJ at H;replace H:=(show rQ (p.drop 1)=_ from o)▸H;exact fR j Z Z<|mw W (rm b Z) j (fr.aU f2) H
  replace H:=H.Cd (by refine rr ep ?_;decide);refine wo h<|qx h.k Z Z<|vK W (rm b Z) h (λep l f fr=>?_) λep=>?_
  .exact fR f Z Z<|xs _ _ _ _ _ (ir<|aD (ej _) q) f<|(H.De ep).g8 fr
  replace H:=H.Cd (by refine rr ep ?_;decide);have no:rY p=bk->bE ⟨g,X,n-1⟩ (.S 680) [.S r] Y Q E:=λx=>Gl W (rm b Z) h<|(H.Cd (by refine rr x ?_;decide)).gV .cL λa w U h' z H=>H w h' z;have yes:rY p=D->bE ⟨g,X,n-1⟩ (.S 153) [.S c] Y (λU Y=>Q .bR Y) E:=λx=>Cc W (rm b Z) h.k λl c1 al=>(H.De x) l (h.al al c1)<|h.fr al;refine wo h<|qx h.k Z Z<|Gi W (rm b Z) h.k<|pk (λe=>?_) λe=>?_
  .clear xs H ep;obtain⟨i,rfl⟩:∃i,p=45::i:=by
    clear ep;clear h no yes;induction p with
    |nil=>exact nq ek e ff
    |cons x i=>cases e;exact⟨_,Z⟩
   refine wo h<|qx h.k Z Z<|MO W (rm b Z) h.k ?_;clear ep;clear e;induction i with
   |nil=>
    exact wo h<|qx h.k Z Z<|yes Z
   |cons y A=>
    refine wo h<|qx h.k Z Z<|MO W (rm b Z) h.k ?_;cases hy:mq y with
    |true=>
     exact rp (aH (!·)<|(tD y _).trans hy)<|fR h Z Z<|no (by unfold rY;simp [hy])
    |false=>
     exact K3 (aH (!·)<|(tD y _).trans hy)<|wo h<|qx h.k Z Z<|yes (by unfold rY;simp [hy])
  .refine fR h Z Z<|no ?_;clear xs H ep h no yes;clear ep;induction p with
   |nil=>rfl
   |cons x i=>exact Xx λa=>e<|rr a Z
 clear xs H h
 rcases v with rfl|⟨rfl,rfl⟩
 .exact(W.d 47 Z).Ii W (r1 b Z) Z Z s
 .exact(W.d 47 Z).Ii W (r1 b Z) Z Z s
theorem abw(W:WA g){r:a8}(k:Nat)(b:k<=2):S2 g r c T ln (2-k) (20+20*k) (rI k):=by
 induction k with
 |zero=>
  exact EE W (m:=18) dc λn Y p Q E a h H=>W.e 48 a Z Z Z<|fR h Z Z<|mw W (rm a Z) h .cL H
 |succ k i=>
  exact EE W (m:=20+20*k+18) (gq ..) λn Y p Q E a h H=>rr (by lia:(2:Int)-(k+1:Nat)+1=2-k)<|OS W (i<|jy b) (by lia) (aD (by lia) a) h H
end
noncomputable def oR:Nat->V->Bool
 |_,.bR=>D
 |_,.aL _=>D
 |_,.aQ _=>D
 |k+1,.bD B=>B.all<|oR k
 |_,_=>bk
theorem K5{x:R α}{f:α->R β}{b:β}(h:x.bJ f=.ok b):∃a,x=.ok a/\f a=.ok b:=by
 induction x with
 |ok a=>exact bX a Z h
 |eA=>exact nq Internal.R.ctorIdx h ff
 |jc=>exact nq Internal.R.ctorIdx h ff
theorem bo{x:R α}{f:α->R β}{b:β}{P:Prop}(h:x.bJ f=.ok b)(k:∀a,x=.ok a->f a=.ok b->P):P:=cK (K5 h) k
theorem Cf(c:∀p a,br p=.ok a->oR k a.1=D){p:aq}{a:V×aq}(h:wA br p=.ok a):oR k a.1=D:=by
 unfold wA at h;split at h
 .refine bo h λb U e=>?_;clear h c;refine rl (R.ok.inj e) ?_;induction k<;>rfl
 split at h
 .exact c _ _ h
 clear c;split at h
 .obtain rfl:=R.ok.inj h;induction k<;>rfl
 .refine bo h λb U e=>?_;clear h;refine rl (R.ok.inj e) ?_;induction k<;>rfl
theorem K6{it:aq->R (V×aq)}(i:∀p a,it p=.ok a->oR k a.1=D):∀f d p a,d.all (oR k)=D->zV it f d p=.ok a->oR (k+1) a.1=D:=by
 intro l;induction l with
 |zero=>
  intro U U U U h;exact nq Internal.R.ctorIdx h ff
 |succ f j=>
  intro d p a g h;replace h:(if [41].isPrefixOf p then .ok (.bD d,p.drop 1)else(xn [32] p).bJ λp=>(it p).bJ λa=>zV it f (d++[a.1]) a.2)=R.ok a:=h;split at h
  .exact rl (R.ok.inj h) g
  .exact bo h λb U e=>bo e λc m e=>j _ _ a (by simp [i _ _ m];simpa using g) e
theorem Xy:∀k p a,rI k p=.ok a->oR k a.1=D:=by
 intro l;induction l with
 |zero=>
  intro p a h;exact Cf (λp a h=>by exact nq Internal.R.ctorIdx h ff) h
 |succ k i=>
  intro p a h;exact Cf (λp a h=>by
   unfold rBr at h;split at h
   .exact rl (R.ok.inj h) Z
   .exact bo h λc b e=>K6 (i) _ _ _ _ (by simp [i _ _ b]) e) h
noncomputable def pM:Nat->aw->aq->R (aw×aq)
 |0,acc,p=>.ok (acc,p)
 |k+1,acc,p=>(xn [32] p).bJ λp=>(rI 2 p).bJ λa=>pM k (acc++[a.1]) a.2
def mP(w p:aq):R (aw×aq):=(xn (w++[32]) p).bJ λp=>(uP p).bJ λa=>(xn [58] a.2).bJ λp=>if 60<a.1\/a.1< -60 then .jc else(pM a.1.toNat [] p).bJ λb=>(xn [10] b.2).bJ λp=>.ok (b.1,p)
theorem K7:∀k d p a,d.all (oR 2)=D->pM k d p=.ok a->a.1.all (oR 2)=D/\a.1.length=d.length+k:=by
 intro l;induction l with
 |zero=>
  intro U U U g h;exact rl (R.ok.inj h) ⟨g,Z⟩
 |succ f i=>
  intro d p a g h;refine bo h λb U e=>bo e λc j e=>?_;have:=i _ _ a (by simp [Xy 2 _ _ j];simpa using g) e;refine⟨this.1,by refine bL (this.2) ?_;simp;exact yO ..⟩
theorem oS{w p:aq}{a:aw×aq}(h:mP w p=.ok a):a.1.all (oR 2)=D/\a.1.length<=60:=by
 refine bo h λb U e=>bo e λc U e=>bo e λd U e=>?_;clear h;split at e
 .exact nq Internal.R.ctorIdx e ff
 refine bo e λf i e=>bo e λg U e=>rl (R.ok.inj e) ?_;have:=K7 _ _ _ _ Z i;refine⟨this.1,?_⟩;refine rr (this.2) ?_;simp;lia
section
variable{E:Ex} {r:a8} {p w:aq}
theorem OT{xs:V->bw->N->(VF->bw->N->Prop)->Prop}{Q:VF->bw->N->Prop}{J:bw}{m:Int}(h:t4 hd xs Q J (.wk 0 m.toNat) Y):t4 hd xs Q J (.wk 0 m) Y:=by
 unfold t4 at h⊢;have e:g0 hd (.wk 0 m) Y=g0 hd (.wk 0 m.toNat) Y:=by
  have e:(m-0).toNat=((m.toNat:Int)-0).toNat:=by exact rr (Int.sub_zero _)<|rfl
  clear h;induction hd<;>exact aH (λk=>O<|(dk k).map λ(j:Nat)=>V.aL<|0+(j:Int)) e
 exact rr e h
structure II(Y:N)(r c:a8)(T:aq)(ln:Int)(E:Ex)(K:aw->N->Prop)(m:Nat)(l:a8)(j:Nat)(acc:aw)(b:aq)(c8:N):Prop where
 l:c8 l=O (.aF acc)
 k:Rd c8 r c T b ln
 fr:Fr Y c8
 H:fH r c T E (ln+1) K Y ((pM (m-j) acc b).bJ λb=>(xn [10] b.2).bJ λp=>.ok (b.1,p))
 z:acc.length=j
def KI(Q:aj)(a:aw)(Y:N):Prop:=∀l,Y l=O (.aF a)->Q (.S l) Y
theorem Gm(W:WA g)(d:70<=n)(xs:w.length<=900)(h:Rd Y r c T p ln)(H:fH r c T E (ln+1) (KI Q) Y (mP w p)):bE ⟨g,X,n⟩ (.S 702) [.S r,.aQ w] Y Q E:=by
 refine W.e 49 d Z Z Z<|fR h Z Z ⟨DK (aD xs<|aK rfl)<|aK rfl,?_⟩;refine w4 W (rm d Z) (rr (aY)<|cV xs (by decide:[32].length<=50)) h<|H.wB .cL λp1 j8 U C u H=>?_;refine fR C Z Z<|Gl W (rm d Z) C<|H.gV u λq qR U aO f2 H=>?_;refine fR aO Z Z<|w4 W (rm d Z) dc aO<|H.wB (u.aU f2) λaZ aB U P R H=>?_;have v:¬(60<q.1\/q.1< -60):=λx=>H.De x;have H:=(H.Cd v).g8<|(u.aU f2).aU R;intro l y;have F:=Ka λz=>v<|.inl z;refine ME (by exact bA dc<|Ka λz=>v<|.inr z) (rr fA<|bA F dc)<|OT<|ED (λj eP aE=>∃s b o,eP=[O<|.S r,O<|.aQ w,O<|.aL q.1,O<|.S l,o]/\II aB r c T ln E (KI Q) q.1.toNat l j s b aE) (kY [] aZ X Z ⟨N.aM ..,P.cu y,Fr.cL.aX y,H,Z⟩) (λU U U U=>MJ) ?_ ?_
 .intro j eP V G A;obtain⟨s,b,o,rfl,i⟩:=A;obtain⟨f,aG⟩:=C8<|Nat.sub_ne_zero_of_lt G;have H:=i.H;replace H:=aG▸H;refine fR i.k Z Z<|w4 W (rm d Z) dc i.k<|H.lK.wB i.fr λI ρ U t m H=>?_;have K:=m l _ i.l Z;refine nB K<|fR t Z Z<|abw W 2 dc (n-1) _ I _ _ _ (rm d Z) (.inr ⟨Z,Z⟩) t<|H.lK.gV (i.fr.aU m) λa Zp U σ vs H=>?_;have M:=vs l _ K Z;refine jR M (by refine rr (i.z)<|rr fA ?_;exact cD G<|Int.toNat_le.mpr<|bA F dc) ?_;refine kY (s++[a.1]) a.2 _ Z ⟨N.aM ..,σ.abr M,((i.fr.aU m).aU vs).aX y,?_,by refine bL (aY)<|rr (i.z) ?_;rfl⟩;exact rr (show q.1.toNat-(j+1)=f by lia) H
 .intro eP V A;(refine jz A λs b o o9 i=>?_;refine rr o9 ?_);have H:=i.H;replace H:=(qU _)▸H;refine fR i.k Z Z<|w5 W (rm d Z) i.k<|fH.wB (f:=λp=>.ok (s,p)) H i.fr λI ρ U t m H=>?_;exact H ρ t (i.fr.aU m) l<|m l _ i.l Z
end
noncomputable def uR(least most:ao):V->Bool
 |.aL x=>least.all (·<=x)&&most.all (x<=·)
 |_=>bk
noncomputable def toInt:V->Int
 |.aL x=>x
 |_=>0
def nS(w:aq)(least most many:ao)(p:aq):R (ar×aq):=(mP w p).bJ λa=>
 if many.any (· !=(a.1.length:Int))||!a.1.all (uR least most)then .eA a.2 else .ok (a.1.map toInt,a.2)
noncomputable def qW:ao->V
 |none=>.bR
 |some x=>.aL x
variable{least:ao} {most:ao}
theorem ints_of:∀{l:aw},l.all (uR least most)=D->l=bh (l.map toInt):=by
 intro a;induction a with
 |nil=>
  intro U;exact Z
 |cons x r b=>
  intro h;cases x with
  |aL i=>exact aH (V.aL i::·)<|b<|nR h
  |_=>exact nq bP h ff
def IL(Y:N)(v:V)(l:ar):Prop:=∃x,v=.S x/\Y x=O (.aF<|bh l)
def TL(Y:N)(v:V)(l:aa):Prop:=∃x,v=.S x/\Y x=O (.aF<|bQ l)
variable{l:ar}
@[elab_as_elim]theorem IL.e{v:V}{P:V->Prop}(h:IL Y v l)(k:∀x,Y x=O (.aF<|bh l)->P (.S x)):P v:=cK h λx e q=>e▸k x q
@[elab_as_elim]theorem TL.e{Y:N}{v:V}{l:aa}{P:V->Prop}(h:TL Y v l)(k:∀x,Y x=O (.aF<|bQ l)->P (.S x)):P v:=cK h λx e q=>e▸k x q
theorem IL.x{Y:N}{v:V}{l:ar}{P:Prop}(h:IL Y v l)(k:∀x,v=.S x->Y x=O (.aF<|bh l)->P):P:=cK h k
theorem TL.x{v:V}{l:aa}{P:Prop}(h:TL Y v l)(k:∀x,v=.S x->Y x=O (.aF<|bQ l)->P):P:=cK h k
theorem IL.f2{v:V}(h:IL Y v l)(f:F2 Y c8):IL c8 v l:=cK h λx e h=>(bX x e<|f _ _ h Z<|by induction l<;>rfl)
theorem TL.f2{v:V}{l:aa}(h:TL Y v l)(f:F2 Y c8):TL c8 v l:=cK h λx e h=>(bX x e<|f _ _ h Z<|by induction l<;>rfl)
theorem IL.fr{v:V}(h:IL Y v l)(f:Fr Y c8):IL c8 v l:=h.f2 f.f2
theorem TL.fr{v:V}{l:aa}(h:TL Y v l)(f:Fr Y c8):TL c8 v l:=h.f2 f.f2
noncomputable def Zq:V->Bool
 |.aQ _=>D
 |_=>bk
variable{o7:au}
section
variable{E:Ex} {r:a8} {p w:aq} {many:ao}
theorem S4(o:w.length<=900){K:VF->bw->N->Prop}{v:V}{m l:au}(h:Rd Y r c T p ln)(i:oR 2 v=D)(ok:uR least most v=D->∀o7,K .eR [O<|.S r,O<|.aQ w,O<|qW least,O<|qW most,m,l,O v,o7] Y)(f:uR least most v=bk->∀w Q,bE ⟨g,X,n⟩ (.S 652) [.S r,.aQ w] Y Q E):iy ⟨g,X,n⟩ (kU E) (bd<|Xn.drop 2) [O<|.S r,O<|.aQ w,O<|qW least,O<|qW most,m,l,O v,o7] Y K:=by
 have s:19+w.length<=cE:=DK dc<|aD o dc;cases v with
 |aL x=>
  have t:∀b:Bool,(b=D↔¬least.all (·<=x)=D)->iy ⟨g,X,n⟩ (kU E) ((bd<|Xn.drop 2).drop 1) [O<|.S r,O<|.aQ w,O<|qW least,O<|qW most,m,l,O<|.aL x,O<|.du b] Y K:=λb j=>by
   refine abn (λa=>?_) λa=>?_
   .exact fR h Z Z ⟨s,f (Bool.and_eq_false_iff.mpr<|.inl<|Bool.eq_false_iff.mpr<|j.mp a) _ _⟩
   have k:least.all (·<=x)=D:=Decidable.not_not.mp λe=>ic<|a.symm.trans<|j.mpr e;clear i;induction most with
   |none=>exact ok (nA (k)<|rfl) _
   |some y=>
    exact Xu (λd=>fR h Z Z ⟨s,f (Bool.and_eq_false_iff.mpr<|.inr<|bj<|wj d) _ _⟩) λd=>ok (nA (k)<|aN<|Ka d) _
  refine kz (Tx:="int") Z Z ?_;clear ok;clear f i;induction least with
  |none=>exact t bk ⟨λh U=>nq bP h ff,λh=>cM Z h⟩
  |some z=>exact t (decide (x<z)) ⟨λa e=>wj (aI a)<|aI e,λa=>aN<|nle λe=>a<|aN e⟩
 |bR=>
  exact kz (Tx:="NoneType") Z Z<|fR h Z Z ⟨s,f Z _ _⟩
 |aQ=>
  exact kz (Tx:="str") Z Z<|fR h Z Z ⟨s,f Z _ _⟩
 |bD=>
  exact kz (Tx:="tuple") Z Z<|fR h Z Z ⟨s,f Z _ _⟩
 |_=>exact nq bP i ff
def Kil(Q:aj)(a:ar)(Y:N):Prop:=∀v,IL Y v a->Q v Y
theorem K8{f:α->Bool}{l:List α}{v:α}(h:l[k]?=O v)(a:f v=bk):l.all f=bk:=List.all_eq_false.mpr<|bX v (aW h)<|Bool.eq_false_iff.mp a
theorem Cg{f:α->Bool}{l:List α}{v:α}(h:l[k]?=O v)(a:(l.take k).all f=D)(b:f v=D):(l.take<|k+1).all f=D:=by refine rr (dK)<|rr h<|bL (Wb)<|rr a ?_;exact(Hn _).trans b
theorem kD(W:WA g)(j:80<=n)(A:MN args.length 3 5=D)(q:args++[V.bR,V.bR,V.bR].drop (args.length-2)=[.S r,.aQ w,qW least,qW most,qW many])(t:w.length<=900) (h:Rd Y r c T p ln) (H:fH r c T E (ln+1) (Kil Q) Y (nS w least most many p)):bE ⟨g,X,n⟩ (.S 710) args Y Q E:=by
 refine(W.d 50 Z).Ii (args':=[.S r,.aQ w,qW least,qW most,qW many]) W (r1 j Z) A q<|fR h Z Z<|Gm W (rm j Z) t h<|H.gV .cL λa y xs i u H l s=>?_;have z:many.any (· !=(a.1.length:Int))=bk->iy ⟨g,X,n-1⟩ (kU E) (Xn.drop 2) [O<|.S r,O<|.aQ w,O<|qW least,O<|qW most,O<|qW many,O<|.S l,X,X] y (yZ Q):=λb=>by
  have H:=b▸H;refine Xr (λo:au×au=>[O<|.S r,O<|.aQ w,O<|qW least,O<|qW most,O<|qW many,O<|.S l,o.1,o.2]) (λk U=>(a.1.take k).all (uR least most)=D) (_,_) s Z (λk v o ρ x f C=>?_) λo f=>?_
  .clear q;clear s;exact S4 (c:=c) (T:=T) t i (la ((oS xs).1) v<|aW x) (λo aO=>C (_,_)<|Cg x f o) λo w Q=>mw W (rm j Z) i u<|H.De<|rr (K8 x o) Z
  .clear q;replace f:=(dD)▸f;exact(H.Cd<|rr f dc) y i u (.S l) (bX l Z<|by exact rr s<|rl (ints_of f) Z)
 clear q;induction many with
 |none=>exact z Z
 |some m=>
  refine jQ s ?_;by_cases b:(a.1.length:Int)=m
  .exact uO (nN b)<|z<|rr b<|bne_self_eq_false _
  .refine uN (m4 b)<|fR i Z Z ⟨DK (aK rfl)<|aD t<|aK rfl,?_⟩;exact mw W (rm j Z) i u (H.De (rr (show Option.any (· !=(a.1.length:Int)) (O m)=D from bne_iff_ne.mpr λe=>b e.symm) Z))
end
def S5(w:aq)(least most:Int)(p:aq):R (Int×aq):=(nS w (O least) (O most) (O 1) p).bJ λa=>.ok (a.1.headD 0,a.2)
noncomputable def toS:V->aq
 |.aQ x=>x
 |_=>[]
def xY(l:aw):Bool:=l.all Zq&&decide (l.map toS).Nodup
def zk(w p:aq):R (aa×aq):=(mP w p).bJ λa=>if xY a.1 then .ok (a.1.map toS,a.2)else .eA a.2
def K9(ln:Int)(p:aq):R Unit:=(xn [101,110,100,32] p).bJ λp=>(uP p).bJ λa=>if a.1≠ln+1 then .eA a.2 else(xn [10] a.2).bJ λp=>if p=[]then .ok ()else .eA p
theorem MQ:∀{l:aw},l.all Zq=D->l=bQ (l.map toS):=by
 intro a;induction a with
 |nil=>
  intro U;exact Z
 |cons x r b=>
  intro h;cases x with
  |aQ i=>exact aH (V.aQ i::·)<|b h
  |_=>exact nq bP h ff
theorem EF{x y:V}{r:aw}{a:Bool}(h:Wy y x=O a)(c:xE x r=O b):xE x (y::r)=O (a||b):=by unfold xE;exact rr h<|rr c Z
theorem S6{p q r:Prop} [Decidable p] [Decidable q] [Decidable r](h:r↔p\/q):O (decide p||decide q)=O (decide r):=rl (Bool.decide_or _ _)<|aH O<|decide_eq_decide.mpr h.symm
theorem S7{x y:α}{r:List α}:x∈y::r↔y=x\/x∈r:=by rw [xq,eq_comm]
theorem OU(x:aq):∀l:aa,xE (.aQ x) (bQ l)=O (decide (x∈l)):=by
 intro a;induction a with
 |nil=>
  exact Z
 |cons y r i=>
  exact(EF Z<|i).trans<|S6 S7
theorem OX(x:Int):∀l:ar,xE (.aL x) (bh l)=O (decide (x∈l)):=by
 intro a;induction a with
 |nil=>
  exact Z
 |cons y r i=>
  exact(EF Z<|i).trans<|S6 S7
theorem vL(l:List α)(k:Nat):hU l X (O (k:Int))=l.take k:=by have:wm l.length (k:Int)=min k l.length:=rfl;simp [hU,this]
theorem Zr{v:V}(h:Y y=O (.aF B))(a:xE v B=O b)(q:P b):gX (BB v y Y) P:=by unfold BB;refine rr h ?_;dsimp only;exact rr a q
def Ktl(Q:aj)(a:aa)(Y:N):Prop:=∀v,TL Y v a->Q v Y
theorem S8{l:aw}{x:aq}(h:l[k]?=O (.aQ x))(g:(l.take k).all Zq=D)(d:((l.take k).map toS).Nodup)(e:x∉(l.take k).map toS):((l.take<|k+1).map toS).Nodup:=by
 refine rr (dK)<|rr h<|rr (bN)<|ri (jq) ?_;refine dW d (kQ ..) λb f c a=>?_;clear h;cases ms a
 clear a;rintro rfl;exact e f
theorem S9{l:aw}{x:aq}(b:l[k]?=O (.aQ x))(c:x∈(l.take k).map toS):¬(l.map toS).Nodup:=λa=>by
 rw [<-hO k l,bN,jq]at a;refine a.2.2 x c x (List.mem_map.mpr<|bX (.aQ x) ?_ Z) Z;refine gs b λh e=>rr (fY h)<|rr e ?_;exact bS ..
section
variable{E:Ex} {r:a8} {p w:aq}
theorem MR{o:Option α}{f:α->Bool}(h:o.all f=D){a:α}(e:o=O a):f a=D:=by replace h:=e▸h;exact h
theorem abx{v:V}(h:uR least most v=D):(∀l,least=O l->l<=toInt v)/\(∀m,most=O m->toInt v<=m):=by
 cases v with
 |aL x=>exact⟨λl e=>aI<|MR (nL h) e,λm e=>aI<|MR (nR h) e⟩
 |_=>exact nq bP h ff
theorem Xz{o:Option α}{f:α->Bool}(h:o.any f=bk){a:α}(e:o=O a):f a=bk:=by replace h:=e▸h;exact h
theorem ke{w:aq}{many:ao}{p:aq}{a:ar×aq}(h:nS w least most many p=.ok a):(∀m,many=O m->m=a.1.length)/\(∀x∈a.1,(∀l,least=O l->l<=x)/\(∀m,most=O m->x<=m))/\a.1.length<=60:=by
 refine bo h λb d e=>have g:=(oS d).2;?_;clear h d;generalize hc:(many.any (· !=(b.1.length:Int))||!b.1.all (uR least most))=c at e;induction c with
 |true=>exact nq Internal.R.ctorIdx e ff
 |false=>
  have ea:(b.1.map toInt,b.2)=a:=R.ok.inj e;clear e;induction ea
  exact dW (λm i=>(bne_eq_false_iff_eq.mp<|Xz (Bool.or_eq_false_iff.mp hc).1 i).trans<|aH Nat.cast (aT ..:(b.1.map toInt).length=b.1.length).symm) (λx j=>(List.mem_map.mp j).elim λv f=>f.2▸abx (la (Bool.not_inj (y:=D) (Bool.or_eq_false_iff.mp hc).2) v f.1))<|(aT ..:(b.1.map toInt).length=b.1.length)▸g
theorem aeW(W:WA g)(b:90<=n){least most:Int}(f:w.length<=900)(h:Rd Y r c T p ln)(H:fH r c T E (ln+1) (λx i=>least<=x->x<=most->Q (.aL x) i) Y (S5 w least most p)):bE ⟨g,X,n⟩ (.S 717) [.S r,.aQ w,.aL least,.aL most] Y Q E:=by refine W.e 51 b Z Z Z<|fR h Z Z<|kD W (least:=O least) (most:=O most) (many:=O 1) (rm b Z) Z Z f h<|H.gV .cL λa j k l m H v il=>?_;refine m7 (ke k) λo q U=>cK il λx e s=>rr e<|ka (List.length_eq_one_iff.mp<|ij (o 1 Z).symm) λy e=>have d:=q y<|rr e<|List.mem_singleton.mpr Z;?_;exact dv (e▸s) Z<|(e▸(H j l m)) (d.1 _ Z)<|d.2 _ Z
theorem XA(W:WA g)(u:80<=n)(I:w.length<=900)(h:Rd Y r c T p ln)(H:fH r c T E (ln+1) (Ktl Q) Y (zk w p)):bE ⟨g,X,n⟩ (.S 724) [.S r,.aQ w] Y Q E:=by
 refine W.e 52 u Z Z Z<|fR h Z Z<|Gm W (rm u Z) I h<|H.gV .cL λa ρ aB P R H l K=>?_;refine fw (oS aB) λaE al=>have H:=H.g8 R;have o:17+w.length<=cE:=DK dc<|aD I dc;have q:xY a.1=bk->∀{i:N} {w:aq} {Q:aj},Rd i r c T a.2 (ln+1)->Fr ρ i->bE ⟨g,X,n-1⟩ (.S 652) [.S r,.aQ w] i Q E:=λaG U U U b f2=>mw W (rm u Z) b f2<|H.Cd<|rr aG dc;?_;refine jQ K<|mj (aD al dc)<|ED (m:=a.1.length) (λk eP y=>(a.1.take k).all Zq=D/\((a.1.take k).map toS).Nodup/\Rd y r c T a.2 (ln+1)/\Fr ρ y/\y l=O (.aF a.1)/\∃z,eP=[O<|.S r,O<|.aQ w,O<|.S l,z]) (rR Z kN P .cL<|rP K _ Z) (λU U U U=>MJ) ?_ ?_
 .intro k eP i vs A;obtain⟨d,t,b,f2,j,z,rfl⟩:=A;have f:a.1[k]?=O a.1[k]:=aV vs;have M:=la aE _<|eU vs;generalize a.1[k]=v at f M;refine dv j f<|have xs:Zq v=bk->xY a.1=bk:=λx=>Bool.and_eq_false_iff.mpr<|.inl<|K8 f x;?_;cases v with
  |aQ x=>
   refine kz (Tx:="str") Z Z<|dv j f<|zS j λs aO=>?_;have σ:xE (.aQ x) (hU a.1 X<|O (k:Int))=O (decide (x∈(a.1.take k).map toS)):=by
    refine rr (vL _ _) ?_
    conv=>lhs;rw [MQ d]
    exact OU ..
   exact Zr (N.aM ..) σ<|have F:=b.cu (C:=.aF<|hU a.1 X<|O (k:Int)) aO;have aZ:=f2.aU<|Fr.cL.aX aO (C:=.aF<|hU a.1 X<|O (k:Int));tU (λG=>fR F Z Z ⟨o,q (Bool.and_eq_false_iff.mpr<|.inr<|bj<|S9 f G) F aZ⟩) (λG=>rR (Cg f d Z) (S8 f d t G) F aZ<|rP (N.dF aO j) _ Z)
  |bR=>
   exact kz (Tx:="NoneType") Z Z<|fR b Z Z ⟨o,q (xs Z) b f2⟩
  |aL=>
   exact kz (Tx:="int") Z Z<|fR b Z Z ⟨o,q (xs Z) b f2⟩
  |bD=>
   exact kz (Tx:="tuple") Z Z<|fR b Z Z ⟨o,q (xs Z) b f2⟩
  |_=>exact nq bP M ff
 .intro eP i A;obtain⟨d,t,b,f2,j,z,rfl⟩:=A;rw [dD]at d t;exact(H.De<|nA (d)<|aN t) i b f2 (.S l) (bX l Z<|by exact rr j<|rl (MQ d) Z)
theorem S'(W:WA g)(a:20<=n)(h:Rd Y r c T p ln)(H:fH r c T E (ln+1) (λU o=>Q .bR o) Y ((K9 ln p).bJ λu=>.ok (u,[]))):bE ⟨g,X,n⟩ (.S 731) [.S r] Y Q E:=by
 refine W.e 53 a Z Z Z<|fR h Z Z<|w4 W (rm a Z) dc h<|H.lK.wB .cL λv w U j l H=>?_;refine fR j Z Z<|Gl W (rm a Z) j<|H.lK.gV l λq x U d f2 H=>?_;have H:=H.uQ;have f2:=l.aU f2;refine aeT d ?_;by_cases i:q.1=ln+1
 .refine t6 (nN i)<|fR d Z Z<|w5 W (rm a Z) d<|(H.Cd<|not_not_intro i).lK.wB f2 λs t U b m H=>?_;refine wo b<|qx b.k Z Z<|zj W (rm a Z) b.k ?_;by_cases f:s=[]
  .exact t6 (nN f)<|(H.uQ.De f) t (f▸b)<|f2.aU m
  .exact qw (m4 f)<|fR b Z Z<|mw W (rm a Z) b (f2.aU m)<|H.uQ.Cd f
 .exact qw (m4 i)<|fR d Z Z<|mw W (rm a Z) d f2<|H.De i
theorem Il(W:WA g)(a:2<=n)(h:Rd Y r c T p ln)(q:Q .bR Y):bE ⟨g,X,n⟩ (.S 738) [.S r,.aQ T] Y Q E:=W.e 54 a Z Z Z<|wo h<|ahK h<|qw (aN Z) q
theorem Ta(W:WA g)(h:10<=n)(k:T.length<=1000000)(q:∀r c a,Rd a r c T T 0->bH Y a->Q (.S r) a):bE ⟨g,X,n⟩ (.S 741) [.aQ T] Y Q E:=by refine W.aeN.go (r1 h Z) λr dx f l ne=>(W.d 41 Z).Zh W.kf (rm h Z) (dW (bO _) (dA _)<|bO _) Z<|W.aeI.go (ir (rm h Z:1+1<=n-1)) λc b e i m=>(W.d 3 Z).Zh (args':=[.S c,.aQ T,.aL 0]) W.kf (ir<|ir (rm h Z:1+1+1<=n-1)) (dW (ej _) (kj<|ej _)<|bO _) Z<|have j:=N.aM (Y.aX dx<|.fu r) r<|.d8 741 dx [];have x:bH Y ((Y.aX dx<|.fu r).aX r<|.d8 741 dx []):=(bH.cL.aX l).aX f;pL (N.aM ..) Z Z<|pL (N.aM ..) Z Z<|rr (N.mU _ _ _ _)<|rr (N.mU _ _ _ _) ?_;refine⟨Z,?_⟩;exact pL (N.dF (C:=.d8 234 b [(5,.aQ T),(4,.aL 0)]) ((N.da _ _ m).trans e)<|N.dF (C:=.fu c) i j) Z Z<|pL (N.aM ..) Z Z<|rr (N.mU _ _ _ _) ⟨Z,q r c _ ⟨Bk 0 b ⟨k,dA _,Z,(N.da _ _ (eG e j:r≠c).symm).trans<|N.aM ..⟩,dx,N.aM ..⟩<|((x.aX (C:=.fu c)<|fp x i).aX (C:=.d8 234 b [(5,.aQ T),(4,.aL 0)])<|fp x e).aX f⟩
end
noncomputable def sE(m:Nat):aq:=(Nat.toDigits 10 m).map Char.toNat
theorem xZ(m:Nat):eF (m:Int)=sE m:=acY m
theorem Tb(m:Nat):eF (-((m+1:Nat):Int))=45::sE (m+1):=by have h:toString (-((m+1:Nat):Int))="-"++toString ((m+1:Nat):Int):=rfl;refine bL (JY _)<|rr (String.toList_append)<|bL (bN)<|rl (JY _)<|rl (JY _)<|rr (acY _) ?_;rfl
theorem Ci(m:Nat):∀d∈sE m,48<=d/\d<=57:=λd hd=>vB hd λc h=>digit_range<|Nat.isDigit_of_mem_toDigits dc dc h
theorem MS(m:Nat):sE m≠[]:=by unfold sE;simp
theorem Tc(m:Nat):digitsVal (sE m)=m:=KIN.val_back m
theorem uS(h:0<k):(sE m).length<=k↔m<10^k:=rr (aT _)<|Nat.length_toDigits_le_iff dc h
theorem qy(i:Int):(∃m:Nat,i=m/\eF i=sE m)\/∃m:Nat,i=-((m+1:Nat):Int)/\eF i=45::sE (m+1):=by
 rcases Int.eq_nat_or_neg i with⟨m,rfl|rfl⟩
 .exact .inl<|bX m Z<|xZ m
 .induction m with
  |zero=>exact .inl<|bX 0 Z<|xZ 0
  |succ m=>exact .inr<|bX m Z<|Tb m
noncomputable def w6(d:Nat):aq:=if d=10 then [92,110]else if d=34 then [92,34]else if d=92 then [92,92]else [d]
noncomputable def VX(d:Nat):Bool:=d==10||(32<=d&&d<=126)
mutual
noncomputable def sh:V->aq
 |.bR=>[45]
 |.aQ s=>34::(s.map w6).flatten++[34]
 |.aL n=>eF n
 |.bD B=>40::iC [32] (MT B)++[41]
 |_=>[]
noncomputable def MT:aw->aa
 |[]=>[]
 |x::r=>sh x::MT r
end
theorem uT:∀l:aw,MT l=l.map sh:=by
 intro a;induction a with
 |nil=>
  exact Z
 |cons x r i=>
  exact aH (sh x::·) i
noncomputable def aeX(i:Int->Bool)(s:aq->Bool)(t:aw->Bool):V->Bool
 |.bR=>D
 |.aL n=>i n
 |.aQ l=>s l
 |.bD B=>t B
 |_=>bk
noncomputable def vk(i:Int->Bool)(s:aq->Bool)(t:aw->Bool):Nat->V->Bool
 |0=>aeX i s λU=>bk
 |k+1=>aeX i s λB=>t B&&B.all (vk i s t k)
theorem Im{i:Int->Bool}{s:aq->Bool}{t:aw->Bool}{P:V->Prop}{v:V}(h:vk i s t k v=D)(a:P .bR)(b:∀n,i n=D->P (.aL n))(ns:∀l,s l=D->P (.aQ l))(nt:∀B,vk i s t k (.bD B)=D->P (.bD B)):P v:=by
 cases v with
 |bR=>exact a
 |aL n=>exact b n (by induction k<;>exact h)
 |aQ l=>exact ns l (by induction k<;>exact h)
 |bD B=>exact nt B h
 |_=>induction k<;>exact nq bP h ff
def EG:Nat->V->Bool:=vk (λn=>n.natAbs<10^170) (λs=>s.all VX&&s.length<=60) λB=>B.length<=10
theorem x2{n:Int}(h:n.natAbs<10^170):n.natAbs.log2<1920/\(eF n).length<=171:=by
 constructor
 .by_cases a:n.natAbs=0
  .exact rr a dc
  .exact ri (Nat.log2_lt a)<|mD h (by decide+kernel)
 .refine bV (qy n) (λz=>cK z λm b e=>?_) λc=>cK c λm d e=>?_
  .obtain rfl:=b;refine rr e ?_;have:=(uS (m:=m) (k:=170) dc).mpr<|h;exact kj this
  .obtain rfl:=d;refine rr e ?_;have:=(uS (m:=m+1) (k:=170) dc).mpr (by replace h:=(Fi _:(-((m+1:Nat):Int)).natAbs=m+1)▸h;exact h);exact cg this
noncomputable def OY:Nat->Nat
 |0=>180
 |k+1=>10*(OY k+1)+2
theorem Gn(f:α->Nat)(xs:Nat):∀l:List α,(∀x∈l,f x<=xs)->(l.map f).sum<=l.length*xs:=by
 intro a;induction a with
 |nil=>
  intro U;simp
 |cons x r i=>
  intro h;refine rr (C5 _ _ _)<|rr (NR _)<|rr (fO _ _) ?_;exact cV (h x bS)<|i λy b=>h y<|di _ b
theorem Gp(s:aq):((s.map w6).flatten).length<=2*s.length:=by
 induction s with
 |nil=>exact bO _
 |cons x r i=>
  exact aD (cC aY)<|aD (cV (iteInduction (motive:=λl:aq=>l.length<=2) (λU=>bO _) λU=>iteInduction (motive:=λl:aq=>l.length<=2) (λU=>bO _) λU=>iteInduction (motive:=λl:aq=>l.length<=2) (λU=>bO _) λU=>ej 1:(w6 x).length<=2) i)<|cC<|(fO ..).trans (Nat.mul_succ 2 r.length).symm
theorem XB(k:Nat):180<=OY k:=by
 induction k with
 |zero=>exact bO _
 |succ k i=>exact aD i<|aD (ej _)<|aD (Nat.le_mul_of_pos_left _ dc)<|d7 ..
theorem MU(nt:∀B,EG k (.bD B)=D->(sh<|.bD B).length<=OY k){v:V}(h:EG k v=D):(sh v).length<=OY k:=
 have a {m:Nat} (h:gh m 180=D):m<=OY k:=aD (aK h)<|XB k
 Im (P:=λv=>(sh v).length<=OY k) h (a Z) (λn h=>aD (x2<|aI h).2<|a Z) (λs h=>aD (cC aY)<|aD (cg<|cg<|aD (Gp s)<|mJ 2<|aI<|nR h)<|a Z) nt
theorem Gq(k:Nat):∀v,EG k v=D->(sh v).length<=OY k:=by
 induction k with
 |zero=>exactλU=>MU (k:=0) λU h=>nq bP h ff
 |succ k i=>
  exactλU=>MU (k:=k+1) λB h=>ba h λa h=>aD (cC aY) (cg (cg (aD (mW [32]<|MT B) (aD (cV (rr (uT _) (rr eE<|Gn _ _ B λx b=>i x<|la h x b):((MT B).map bW).sum<=B.length*OY k) (cC (aH (·*1) (rr (uT _) (aT _):(MT B).length=B.length))))<|aD (cC (Nat.mul_add ..).symm)<|gG (OY k+1)<|aI a))))
section
variable{E:Ex}
theorem aby{d:Nat}(h:VX d=D)(a:d≠10):¬(d:Int)<32/\¬(126:Int)<d/\d≠9:=by simp only [VX,hX,beq_iff_eq,a,false_or,eT,decide_eq_true_eq]at h;lia
theorem La(W:WA g)(m:1<=n){d:Nat}(hd:VX d=D)(q:Q (.aQ<|w6 d) Y):bE ⟨g,X,n⟩ (.S 252) [.aQ [d],.aQ [34]] Y Q E:=by
 refine W.e 13 m Z Z Z ?_;by_cases c:d=10
 .clear hd;subst c;exact q
 refine m7 (aby hd c) λi j k=>t6 (bj<|(λh e=>h (List.singleton_inj.mp e):∀{a b:Nat},a≠b->¬[a]=[b]) c)<|t6 (bj<|(λh e=>h (List.singleton_inj.mp e):∀{a b:Nat},a≠b->¬[a]=[b]) k) ?_;by_cases f:d=34
 .clear k hd;clear i j c;subst f;exact zU (tD ..) ⟨DK (aK rfl)<|aK rfl,q⟩
 refine rp ((tD ..).trans<|bj λe=>f<|ms e) ?_;by_cases l:d=92
 .clear k hd;clear i j c f;subst l;exact⟨DK (aK rfl)<|aK rfl,q⟩
 refine rp (bj<|(λh e=>h (List.singleton_inj.mp e):∀{a b:Nat},a≠b->¬[a]=[b]) l)<|aem<|rp (bj i)<|rp (bj j)<|qS q ?_;rw [w6];exact rr (bu c)<|rr (bu f)<|rr (bu l) Z
theorem EH:∀l:aa,iC [] l=l.flatten
 |[]=>rfl
 |[x]=>(dS x).symm
 |x::y::r=>(aH (·++iC [] (y::r))<|dS x).trans (aH (x++·)<|EH<|y::r)
theorem Gr{f:α->aq}{l:List α}{x:α}(h:l[k]?=O x):bQ ((l.take k).map f)++[.aQ<|f x]=bQ ((l.take<|k+1).map f):=by refine rr (dK)<|rr h<|rr (bN) ?_;rw [bQ,bQ];exact rr (bN) Z
theorem Td(s:aq):((s.map w6).map bW).sum<=2*s.length:=by refine rl (List.length_flatten) ?_;exact Gp s
theorem OZ(W:WA g)(f:3<=n){s:aq}(i:s.all VX=D)(j:s.length<=60)(q:∀a,bH Y a->Q (.aQ (s.map w6).flatten) a):bE ⟨g,X,n⟩ (.S 257) [.aQ s,.aQ [34]] Y Q E:=by
 refine W.e 14 f Z Z Z<|zh (hd:=X) (it:=.aQ s) (B:=s.map λd=>.aQ [d]) Z (λk b a=>b=bQ ((s.take k).map w6)/\a=Y) ⟨Z,Z⟩ (λU U U U U=>⟨trivial,λU h=>nq aP h ff⟩) ?_ ?_
 .clear q;intro k x b a c z;obtain⟨rfl,rfl⟩:=z;replace c:=(bz)▸c;exact Fs c λd hd=>La W (rm f Z) (la i d<|aW hd) ⟨Gr hd,Z⟩
 .intro b a z;obtain⟨rfl,rfl⟩:=z;intro r l;refine rr (aT _)<|rr (dD) ?_;exact tC (N.aM ..) (aD (cV (aD (Td s)<|mJ 2 j)<|cC<|Nat.mul_zero _) dc)<|rr (EH _)<|q _<|bH.cL.aX l
end
def ShR(Y:N)(v u:V):Prop:=(v=u/\EG 2 u=D)\/∃x B,v=.S x/\u=.bD B/\Y x=O (.aF B)/\B.all (EG 1)=D/\B.length<=10
theorem ShR.dq{v u:V}(h:ShR Y v u)(x:bH Y c8):ShR c8 v u:=h.imp id λy=>e9 y λa B e b c d=>gk a B e b (x _ _ c) d
theorem bH.e0{r:a8}{C:cP}(x:bH Y c8)(h:c8 r=X):bH Y (c8.aX r C):=x.aX<|fp x h
theorem ShR.ok{v u:V}(h:ShR Y v u):EG 2 u=D:=by
 rcases h with⟨_,h⟩|⟨x,B,_,rfl,_,h,hl⟩
 .exact h
 .exact nA (aN hl)<|h
theorem Te(a:B.all (EG k)=D):((MT B).map bW).sum<=B.length*OY k:=by refine rr (uT _)<|rr (eE) ?_;exact Gn _ _ B λx h=>Gq k x<|la a x h
noncomputable def aeY:CE:=.fh .Add (.fh .Add (.dT<|.aQ [40])<|.cH (.dT<|.aQ [32]) 6 [.iB (.jA (.dT<|.S 598) [.dR 1]) [1] (.dR 0) [] [X,X]])<|.dT<|.aQ [41]
theorem Tf(a:B.all (EG k)=D)(h:B.length<=10)(b:OY k<=1812):((MT B).map bW).sum+(MT B).length*1<=18130:=by rw [(by exact rr (uT _) (aT _):(MT B).length=B.length)];exact cV (aD (Te a)<|Fc h b)<|gG 1 h
def Zs(g:Gd)(k:Nat):Prop:=∀n Y v Q E,10+10*k<=n->EG k v=D->(∀c8,bH Y c8->Q (.aQ<|sh v) c8)->bE ⟨g,X,n⟩ (.S 598) [v] Y Q E
variable{ls:aa}
section
variable{E:Ex}
theorem Io(I:Zs g k)(o:10+10*k<=n){v:V}(d:∀a,bH Y a->g0 X v a=O B/\k9 X v B a)(b:B.all (EG k)=D)(f:B.length<=10)(i:OY k<=1812)(q:∀a,bH Y a->Q (.aQ<|sh<|.bD B) a):rU ⟨g,X,n⟩ E aeY [O v] Y Q:=by
 refine zh (d Y .cL).1 (λk c a=>c=bQ ((B.take k).map sh)/\bH Y a) ⟨Z,.cL⟩ (λU U U U h=>(d _ h.2).2) ?_ ?_
 .intro j x c a l z;obtain⟨rfl,e⟩:=z;exact I _ _ _ _ _ o (la b x<|aW l) λt p=>⟨Gr l,e.aU p⟩
 .intro c a z;obtain⟨rfl,e⟩:=z;intro r s;refine rr (dD)<|rl (uT _) ?_;have m:=aD (mW [32]<|MT B)<|Tf b f i;refine tC (N.aM ..) (aD (Tf b f i) dc) ⟨mX<|aD (eZ m 1) dc,?_⟩;refine⟨mX<|aD (cG (cg m) 1) dc,?_⟩;exact q _<|e.e0 s
theorem EI(W:WA g){v:V}(b:10<=n)(f:EG k v=D)(q:∀a,bH Y a->Q (.aQ<|sh v) a)(nt:∀B,EG k (.bD B)=D->(∀a,bH Y a->Q (.aQ<|sh<|.bD B) a)->bE ⟨g,X,n⟩ (.S 598) [.bD B] Y Q E):bE ⟨g,X,n⟩ (.S 598) [v] Y Q E:=by
 refine Im (P:=λv=>(∀a,bH Y a->Q (.aQ<|sh v) a)->bE ⟨g,X,n⟩ (.S 598) [v] Y Q E) f (λq=>?_) (λi h q=>?_) (λs h q=>?_) nt q
 .exact W.e 37 b Z Z Z<|q Y .cL
 .exact W.e 37 b Z Z Z<|have c:=x2<|aI h;kz (Tx:="int") Z Z<|B1 (Tx:="int") Z Z Z<|xU c.1 (mX<|aD c.2 dc)<|q Y .cL
 .refine W.e 37 b Z Z Z<|have d:=aI<|nR h;have z:=aD (Gp s)<|mJ 2 d;kz (Tx:="str") Z Z<|OZ W (rm b Z) (nL h) d λa j=>⟨DK (aK rfl)<|aD z dc,?_⟩;exact⟨DK (aD (cg z) dc)<|aK rfl,q a j⟩
theorem MV(W:WA g)(k:Nat):k<=2->Zs g k:=by
 induction k with
 |zero=>exactλU n Y v Q E a b q=>EI W a b q λB h=>nq bP h ff
 |succ k i=>
  intro c n Y v Q E a b q;exact EI W (aD (d7 ..) a) b q λB h q=>ba h λe f=>(W.d 37 Z).r W (r1 (aD (d7 ..) a) Z) Z<|kz (Tx:="tuple") Z Z<|B1 (Tx:="tuple") Z Z Z<|Io (i<|jy c) (ir<|aD (by lia) a) (λj U=>dW Z trivial λU h=>nq aP h ff) f (aI e) ((by decide:∀k<2,OY k<=1812) k c) q
theorem abz(W:WA g)(a:40<=n){v u:V}(h:ShR Y v u)(q:∀b,bH Y b->Q (.aQ<|sh u) b):bE ⟨g,X,n⟩ (.S 598) [v] Y Q E:=by
 rcases h with⟨rfl,h⟩|⟨x,B,rfl,rfl,hx,ha,hl⟩
 .exact MV W 2 dc n Y v Q E (r1 a Z) h q
 have t:tyV Y (.S x)=O "list":=by unfold tyV;dsimp only;exact rr hx Z
 exact W.e 37 a Z Z Z<|kz (Tx:="list") t Z<|B1 (Tx:="list") t Z Z<|Io (MV W 1 dc) (rm a Z) (λb c=>⟨jD<|c _ _ hx,jE<|c _ _ hx⟩) ha hl dc q
structure Wr(lO Y:N)(w l:a8)(ls:aa):Prop where
 x:bH lO Y
 n:lO l=X
 w:∃dx,Y w=O (.d8 627 dx [(26,.S l)])
 l:Y l=O (.aF<|bQ ls)
 z:ls.length<=100
theorem Wr.dq{w l:a8}(h:Wr lO Y w l ls)(x:bH Y c8):Wr lO c8 w l ls:=⟨h.x.aU x,h.n,h.w.imp λU e=>x _ _ e,x _ _ h.l,h.z⟩
theorem x7{w l i f:a8}{P:V×aw->Prop}(h:Wr lO Y w l ls)(a:uA 627 i=O f)(b:pI i [(26,V.S l)]=X)(q:P (.S f,[.S w])):gX (tZ w i Y) P:=ka (h.w) λU h=>wZ h a b q
def dP(w:aq)(us:aa):aq:=iC [32]<|w::(eF us.length++[58])::us
theorem n'(h:m<=1000000):(eF m).length<=7:=rr (xZ _)<|(uS dc).mpr<|cw h dc
theorem O0(h:m<=1000000):(m:Int).natAbs.log2<1920:=(x2 (n:=(m:Int))<|cw h<|by decide+kernel).1
theorem qi(h:m<=1000000)(q:Q (.aQ<|eF m) Y):bE Γ (.fK "str") [.aL m] Y Q E:=xU (O0 h) (mX<|aD (n' h) dc) q
@[simp]theorem dI(l:aa):(bQ l).length=l.length:=aT ..
theorem abA{us L:aw}(he:us.length=L.length)(h40:L.length<=40)(hs:∀u∈us,EG 2 u=D):((us.map sh).map bW).sum<=725280:=rr (eE)<|aD (Gn _ 18132 us λu h=>Gq 2 _<|hs u h)<|gG 18132<|he▸h40
theorem MW(W:WA g)(xs:50<=n){w l x:a8}{word:aq}{L us:aw}(h:Wr lO Y w l ls)(aO:ls.length<100)(P:word.length<=100)(o:Y x=O (.aF L))(c:us.length=L.length)(f:L.length<=40)(F:∀(k:Nat) (v:V),L[k]?=O v->∃u,us[k]?=O u/\ShR lO v u) (q:∀a,Wr lO a w l (ls++[dP word<|us.map sh])->Q .bR a):bE ⟨g,X,n⟩ (.S 617) [.S w,.aQ word,.S x] Y Q E:=by
 refine ka (h.w) λdx Tg=>?_;have ok:∀u∈us,EG 2 u=D:=λu p=>by
  refine gi p λk i=>cK (F k _<|aV<|c▸(gl i)) λR s t=>?_;replace s:=i▸s;exact rr (aJ s) t.ok
 have aE:=abA c f ok;have H:=n' (m:=L.length)<|aD f dc;have I:us.take L.length=us:=by refine rl c ?_;exact dD
 refine W.e 39 xs Z Z Z<|d9 Tg Z Z<|nB h.l<|jQ o<|qi (aD f dc) ⟨DK (aD H dc)<|aK rfl,λr ρ=>?_⟩;have j:bH Y (Y.aX r<|.aF [.aQ word,.aQ<|eF L.length++[58]]):=bH.cu ρ;have K:=N.aM Y r<|.aF [.aQ word,.aQ<|eF L.length++[58]];generalize Y.aX r (.aF [.aQ word,.aQ<|eF L.length++[58]])=j8 at*;refine zh (hd:=X) (it:=.S x) (jD<|j _ _ o) (λk y a=>y=bQ ((us.take k).map sh)/\bH j8 a) ⟨Z,.cL⟩ (λU U a U h=>jE<|h.2 _ _<|j _ _ o) ?_ ?_
 .intro k v y a i z;obtain⟨rfl,d⟩:=z;exact cK (F k v i) λu p t=>abz W (rm xs Z) (t.dq<|h.x.aU<|j.aU d) λT vs=>⟨Gr p,d.aU vs⟩
 .intro y a z;obtain⟨rfl,d⟩:=z;intro aG G;refine rr I<|jS (N.dF G<|d _ _ K) (N.aM ..) ?_ λσ M=>?_
  .refine rr (dI _)<|rr (aT _)<|rr c ?_;exact DK (by decide:2<=1000)<|aD f dc
  refine tC (l:=word::(eF L.length++[58])::us.map sh) (N.aM ..) ?_ ?_
  .refine rr (i1)<|rr (i1)<|rr (aY)<|rr (show [58].length=1 from Z)<|rr (gP)<|rr (gP)<|rr (aT _)<|rr c<|rr (show [32].length=1 from Z) ?_;lia
  .have A:=(h.dq<|j.aU d).dq<|(bH.cu G).e0 (C:=.aF<|bQ<|word::(eF L.length++[58])::us.map sh) M;refine jR A.l (rr (dI _)<|cD aO<|mX dc)<|ka (A.w) λaZ aB=>q _ ⟨λb C e=>(N.da _ _<|n5 e h.n λh=>nq aP h ff).trans<|A.x _ _ e,h.n,⟨aZ,(N.da _ _ (λe=>by replace Tg:=e▸Tg;exact(nq Internal.cP.ctorIdx (aJ<|Tg.symm.trans h.l) ff):w≠l)).trans aB⟩,(N.aM ..).trans ?_,by refine rr (aY) ?_;exact aO⟩;rw [dP];refine rr (aT _)<|rr c ?_;rw [bQ,bQ];exact rr (bN) Z
end
set_option genInjectivity false in
structure kK where
 (dj dp bB bU:ar)
set_option genInjectivity false in
structure kg where
 bp:aa
 cy:Int
 (dt dE d5 bC:ar)
 (dJ cF:kK)
 (jT dX:ar)
def vM(Y:N)(C x:a8)(i:Nat)(P:V->Prop):Prop:=∃dx a v,Y x=O (.d8 C dx a)/\a.lookup i=O v/\P v
theorem gN{x:a8}{P Q:V->Prop}(h:vM Y C x i P)(b:uz C i=D)(q:∀v,P v->Q v):uB x i Y Q:=iT h λdx a v c d e=>d9 c b d<|q v e
theorem DM{x:a8}{l:aw}{Q:V->Prop}(h:vM Y C x i λv=>∃y,v=.S y/\Y y=O (.aF l))(a:uz C i=D)(q:∀y,Y y=O (.aF l)->Q (.S y)):uB x i Y Q:=gN h a λU b=>cK b λy e h=>e▸q y h
theorem aeZ{x:a8}{w:V}{Q:V->Prop}(h:vM Y C x i (·=w))(a:uz C i=D)(q:Q w):uB x i Y Q:=gN h a λU e=>e▸q
theorem vM.dq{x:a8}{P:V->Prop}(h:vM Y C x i P)(f:bH Y c8):vM c8 C x i P:=iT h λdx a v b c d=>jX dx a v (f _ _ b) c d
theorem vM.f2{x:a8}{P P':V->Prop}(h:vM Y C x i P)(f:F2 Y c8)(n:(C !=234&&C !=741)=D)(q:∀v,P v->P' v):vM c8 C x i P':=iT h λdx a v b c d=>jX dx a v (f _ _ b n Z) c<|q v d
structure MX(Y:N)(x:a8)(p:kK):Prop where
 b:vM Y 504 x 16 (IL Y · p.dj)
 t:vM Y 504 x 14 (IL Y · p.dp)
 c:vM Y 504 x 15 (IL Y · p.bB)
 o:vM Y 504 x 17 (IL Y · p.bU)
 m:∃dx b t c o,Y x=O (.d8 504 dx [(16,b),(14,t),(15,c),(17,o)])
def qX(Y:N)(v:V)(p:kK):Prop:=∃x,v=.S x/\MX Y x p
structure Zt(Y:N)(x:a8)(p:kg):Prop where
 nm:vM Y 560 x 7 (TL Y · p.bp)
 ct:vM Y 560 x 8 (·=.aL p.cy)
 lf:vM Y 560 x 9 (IL Y · p.dt)
 le:vM Y 560 x 10 (IL Y · p.dE)
 bf:vM Y 560 x 11 (IL Y · p.d5)
 df:vM Y 560 x 12 (IL Y · p.bC)
 ac:vM Y 560 x 18 (qX Y · p.dJ)
 b:vM Y 560 x 16 (IL Y · p.dJ.dj)
 t:vM Y 560 x 14 (IL Y · p.dJ.dp)
 c:vM Y 560 x 15 (IL Y · p.dJ.bB)
 o:vM Y 560 x 17 (IL Y · p.dJ.bU)
 go:vM Y 560 x 19 (qX Y · p.cF)
 gb:vM Y 560 x 20 (IL Y · p.cF.dj)
 gt:vM Y 560 x 21 (IL Y · p.cF.dp)
 gc:vM Y 560 x 22 (IL Y · p.cF.bB)
 g':vM Y 560 x 23 (IL Y · p.cF.bU)
 gd:vM Y 560 x 24 (IL Y · p.jT)
 gm:vM Y 560 x 25 (IL Y · p.dX)
def iY(Y:N)(v:V)(p:kg):Prop:=∃x,v=.S x/\Zt Y x p
theorem iY.x{x:a8}{p:kg}(h:iY Y (.S x) p):Zt Y x p:=by refine cK h λU e h=>?_;exact by obtain rfl:=Internal.V.S.inj e;exact h
theorem MX.m_{x i f:a8}{p:kK}{P:V×aw->Prop}(h:MX Y x p)(d:uA 504 i=O f)(a:(i==16||i==14||i==15||i==17)=bk)(q:P (.S f,[.S x])):gX (tZ x i Y) P:=by refine q9 (h.m) λdx b t c o h=>?_;simp only [Bool.or_eq_false_iff]at a;exact wZ h d (by simp only [eS,a];rfl) q
def sF(Y:N)(v:V)(u:Option aw):Prop:=(v=.bR/\u=X)\/∃x B,v=.S x/\u=O B/\Y x=O (.aF B)/\B.all (oR 1)=D
def jF(Y:N)(v:V)(cs:List (Option<|aw)):Prop:=∃x L,v=.S x/\Y x=O (.aF L)/\L.length=cs.length/\∀(k:Nat) (w:V),L[k]?=O w->∃u,cs[k]?=O u/\sF Y w u
variable{u:Option aw} {cs:List (Option<|aw)}
section
variable{v:V}
theorem MX.f2{x:a8}{p:kK}(h:MX Y x p)(f:F2 Y c8):MX c8 x p:=⟨h.b.f2 f Z λU i=>i.f2 f,h.t.f2 f Z λU i=>i.f2 f,h.c.f2 f Z λU i=>i.f2 f,h.o.f2 f Z λU i=>i.f2 f,let⟨dx,b,t,c,o,h⟩:=h.m;(AF dx b t c o<|f _ _ h Z Z)⟩
theorem qX.f2{p:kK}(h:qX Y v p)(f:F2 Y c8):qX c8 v p:=h.imp λU h=>⟨h.1,h.2.f2 f⟩
theorem qX.fr{p:kK}(h:qX Y v p)(f:Fr Y c8):qX c8 v p:=h.f2 f.f2
theorem Zt.f2{x:a8}{p:kg}(h:Zt Y x p)(f:F2 Y c8):Zt c8 x p:=
 have g:∀{l:ar} (v:V),IL Y v l->IL c8 v l:=λU i=>i.f2 f;have r:∀{q:kK} (v:V),qX Y v q->qX c8 v q:=λU i=>i.f2 f
 ⟨h.nm.f2 f Z λU i=>i.f2 f,h.ct.f2 f Z λU e=>e,h.lf.f2 f Z g,h.le.f2 f Z g,h.bf.f2 f Z g,h.df.f2 f Z g,h.ac.f2 f Z r,h.b.f2 f Z g,h.t.f2 f Z g,h.c.f2 f Z g,h.o.f2 f Z g,h.go.f2 f Z r,h.gb.f2 f Z g,h.gt.f2 f Z g,h.gc.f2 f Z g,h.g'.f2 f Z g,h.gd.f2 f Z g,h.gm.f2 f Z g⟩
theorem iY.f2{p:kg}(h:iY Y v p)(f:F2 Y c8):iY c8 v p:=h.imp λU h=>⟨h.1,h.2.f2 f⟩
theorem iY.fr{p:kg}(h:iY Y v p)(f:Fr Y c8):iY c8 v p:=h.f2 f.f2
theorem sF.f2(h:sF Y v u)(f:F2 Y c8):sF c8 v u:=h.imp id λy=>e9 y λx B c d g b=>gk x B c d (f _ _ g Z (K1 λa m k e=>by subst e;exact nq bP b ff)) b
theorem sF.fr(h:sF Y v u)(f:Fr Y c8):sF c8 v u:=h.f2 f.f2
theorem jF.f2(h:jF Y v cs)(f:F2 Y c8):jF c8 v cs:=by
 refine e9 h λx L e c d h=>gk x L e (f _ _ c Z<|K1 λa m k e=>?_) d λk w g=>?_
 .clear d c;subst e;refine cK (h 1 (.aL m) Z) λu U b=>?_;refine bV b (λz=>fw z λh U=>?_) λi=>j6 i λU U h U=>?_<;>exact nq Internal.V.ctorIdx h ff
 .exact cK (h k w g) λu e b=>bX u e<|b.f2 f
theorem jF.fr(h:jF Y v cs)(f:Fr Y c8):jF c8 v cs:=h.f2 f.f2
end
noncomputable def kR:Option aw->V
 |none=>.bR
 |some B=>.bD B
noncomputable def qj(l:ar):Bool:=l.length<=40&&l.all λn=>n.natAbs<10^170
def VY(l:aa):Bool:=l.length<=40&&l.all λs=>s.all VX&&s.length<=60
def ya(l:List (Option<|aw)):Bool:=l.length<=10&&l.all λu=>EG 2<|kR u
theorem XC(l:ar):(bh l).map sh=l.map eF:=eE ..
theorem XD(l:aa):(bQ l).map sh=l.map λs=>sh (.aQ s):=eE ..
theorem abB(ok:qj l=D){v:V}(h:(bh l)[k]?=O v):EG 2 v=D:=by rw [bh,bz]at h;exact Fs h λi a=>la (nR ok) i<|aW a
theorem abC{l:aa}(ok:VY l=D){v:V}(h:(bQ l)[k]?=O v):EG 2 v=D:=by rw [bQ,bz]at h;exact Fs h λi a=>la (nR ok) i<|aW a
section
variable{E:Ex} {w l:a8} {word:aq}
theorem rZ(W:WA g)(d:50<=n){v:V}{ns:ar}(h:Wr lO Y w l ls)(e:gh (ls.length+1) 100=D)(f:gh word.length 100=D)(a:IL lO v ns)(ok:qj ns=D)(q:∀b,Wr lO b w l (ls++[dP word<|ns.map eF])->Q .bR b):bE ⟨g,X,n⟩ (.S 617) [.S w,.aQ word,v] Y Q E:=by obtain⟨x,rfl,a⟩:=a;refine MW W d (us:=bh ns) h (aK e) (aK f) (h.x _ _ a) Z (by rw [bh];refine rr (aT _) ?_;exact aI<|nL ok) (λk v c=>bX v c<|.inl ⟨Z,abB ok c⟩) ?_;exact rr (XC _) q
theorem abD(W:WA g)(d:50<=n){v:V}{ns:aa}(h:Wr lO Y w l ls)(e:gh (ls.length+1) 100=D)(f:gh word.length 100=D)(a:TL lO v ns)(ok:VY ns=D)(q:∀b,Wr lO b w l (ls++[dP word<|ns.map λs=>sh<|.aQ s])->Q .bR b):bE ⟨g,X,n⟩ (.S 617) [.S w,.aQ word,v] Y Q E:=by obtain⟨x,rfl,a⟩:=a;refine MW W d (us:=bQ ns) h (aK e) (aK f) (h.x _ _ a) Z (by rw [bQ];refine rr (aT _) ?_;exact aI<|nL ok) (λk v c=>bX v c<|.inl ⟨Z,abC ok c⟩) ?_;exact rr (XD _) q
theorem abE(W:WA g)(j:50<=n){v:V}(h:Wr lO Y w l ls)(m:gh (ls.length+1) 100=D)(o:gh word.length 100=D)(c:jF lO v cs)(ok:ya cs=D)(q:∀e,Wr lO e w l (ls++[dP word<|cs.map λu=>sh<|kR u])->Q .bR e):bE ⟨g,X,n⟩ (.S 617) [.S w,.aQ word,v] Y Q E:=by
 obtain⟨x,L,rfl,c,f,p⟩:=c;refine ba ok λok1 r=>MW W j (us:=cs.map kR) h (aK m) (aK o) (h.x _ _ c) (bL (aT _)<|rr f Z) (aD (f▸aI ok1) dc) (λk v i=>?_) ?_
 .refine cK (p k v i) λu d s=>bX (kR u) (by refine bL (bz)<|rr d ?_;rfl) ?_;have:=la r u<|aW d;clear d i
  rcases s with⟨rfl,rfl⟩|⟨y,B,rfl,rfl,hy,_⟩
  .exact .inl ⟨Z,Z⟩
  .exact ba this λb a=>.inr<|gk y B Z Z hy<|JB a<|aI b
 .exact rr (eE) q
theorem Th(W:WA g)(b:5<=n){hdl:aq}(q:∀w l c,Wr Y c w l [hdl]->Q (.S w) c):bE ⟨g,X,n⟩ (.S 627) [.aQ hdl] Y Q E:=by refine W.aeM.go (r1 b Z) λx dx e i ne=>(W.d 38 Z).Zh W.kf (rm b Z) (dW (bO _) (dA _)<|bO _) Z ?_;intro l h;have f:=N.aM (Y.aX dx<|.fu x) x<|.d8 627 dx [];have a:=(bH.cL.aX i (C:=.fu x)).aX e (C:=.d8 627 dx []);exact pL (N.dF h f) Z Z ⟨Z,q x l _ ⟨(a.aX<|fp a h).aX e,fp a h,⟨dx,N.aM ..⟩,(N.da _ _ (eG h f).symm).trans<|N.aM ..,cg<|dA _⟩⟩
def nO(k:Nat):aq:=[101,110,100,32]++eF (k+1:Nat)
def mG(ls:aa):aq:=iC [10] (ls++[nO ls.length])++[10]
theorem Ti(h:k<=100):(nO k).length<=11:=by rw [nO];exact rr (aY)<|eZ (n'<|aD (cg h) dc) 4
theorem Tj(h:ls.length<=100)(a:(ls.map bW).sum<=1000000):((ls++[nO ls.length]).map bW).sum+(ls++[nO ls.length]).length*1<=1001000:=by refine rr (bN)<|rr (m3)<|rr (aY)<|rr (Nat.mul_one _) ?_;exact aD (cV (cV a<|Ti h)<|cG h 1) dc
theorem abF(W:WA g)(d:5<=n)(h:Wr lO Y w l ls)(a:(ls.map bW).sum<=1000000)(q:∀b,bH lO b->Q (.aQ<|mG ls) b):bE ⟨g,X,n⟩ (.S 624) [.S w] Y Q E:=by
 refine ka (h.w) λdx Tg=>W.e 40 d Z Z Z<|d9 Tg Z Z<|d9 Tg Z Z<|ei h.l (dI _)<|qi (m:=ls.length+1) (aD (cg h.z) dc) ⟨DK (aK rfl)<|aD (n'<|aD (cg h.z) dc) dc,λr c=>?_⟩;refine jS (N.dF c h.l) (N.aM ..) ?_ λi f=>?_
 .exact rr (dI _)<|DK (aD h.z dc) (by decide:1<=1000)
 refine tC (l:=ls++[nO ls.length]) ((N.aM ..).trans<|aH (O∘cP.aF) ((bN (l₁:=ls) (l₂:=[nO ls.length])).symm:bQ ls++[V.aQ<|nO ls.length]=bQ (ls++[nO ls.length]))) (aD (Tj h.z a) dc) ⟨mX<|aD (cG (aD (mW [10] _)<|Tj h.z a) 1) dc,?_⟩;exact q _<|(h.x.aU<|bH.cu c).e0 f
end
abbrev vN:aq:=[110,97,109,101,115]
abbrev mY:aq:=[116,101,114,109,105,110,97,108,115]
abbrev vO:aq:=[108,101,102,116,115]
abbrev iE:aq:=[108,101,110,103,116,104,115]
abbrev ib:aq:=[98,101,102,111,114,101,115]
abbrev gE:aq:=[100,101,102,97,117,108,116,115]
abbrev jl:aq:=[103,111,116,111,95,100,101,102,97,117,108,116,115]
abbrev lg:aq:=[103,111,116,111,95,109,97,115,107,115]
abbrev vP:aq:=[99,111,100,101,115]
abbrev rq:aq:=[98,97,115,101,115]
abbrev rv:aq:=[116,97,98,108,101]
abbrev rz:aq:=[99,104,101,99,107]
abbrev oT:aq:=[111,119,110,101,114,115]
abbrev lV:aq:=[103,111,116,111,95]
abbrev w_head:aq:=[103,114,97,109,109,97,114,109,105,108,108,32,112,97,114,115,101,114,32,49]
def MY(pre:aq)(p:kK):aa:=[dP (pre++rq)<|p.dj.map eF,dP (pre++rv)<|p.dp.map eF,dP (pre++rz)<|p.bB.map eF,dP (pre++oT)<|p.bU.map eF]
def Ao(p:kg)(cs:List (Option<|aw)):aa:=[w_head,dP vN<|p.bp.map λs=>sh<|.aQ s,dP mY [eF p.cy],dP vO<|p.dt.map eF,dP iE<|p.dE.map eF,dP ib<|p.d5.map eF,dP gE<|p.bC.map eF]++MY [] p.dJ++[dP jl<|p.jT.map eF,dP lg<|p.dX.map eF]++MY lV p.cF++[dP vP<|cs.map λu=>sh<|kR u]
def Lb(p:kK):Bool:=qj p.dj&&qj p.dp&&qj p.bB&&qj p.bU
def qY(p:kg):Bool:=VY p.bp&&qj [p.cy]&&qj p.dt&&qj p.dE&&qj p.d5&&qj p.bC&&Lb p.dJ&&qj p.jT&&qj p.dX&&Lb p.cF
theorem Ip(w:aq)(us:aa)(h:us.length<=1000000):(dP w us).length<=w.length+10+(us.map bW).sum+us.length:=by have a:=mW [32]<|w::(eF us.length++[58])::us;have b:=n' h;rw [eL,eL,i1,i1,aY,show [58].length=1 from Z,gP,gP,show [32].length=1 from Z]at a;unfold dP;lia
theorem Gs{w:aq}{l:List α}{f:α->aq}{xs C:Nat}(a:l.length<=C)(c:C<=1000000)(d:w.length<=100)(h:∀x∈l,(f x).length<=xs):(dP w<|l.map f).length<=110+C*xs+C:=by have b:=Ip w (l.map f)<|rr (aT _)<|aD a c;rw [eE,aT]at b;exact aD b<|cV (cV (cG d 10)<|aD (Gn (λx=>(f x).length) xs l h)<|gG xs a) a
theorem qz{w:aq}(h:qj l=D)(c:w.length<=100):(dP w<|l.map eF).length<=10000:=
 have⟨a,b⟩:=an h
 aD (Gs (C:=40) (xs:=171) (aI a) dc c λx d=>(x2<|aI<|la b x d).2) dc
theorem abG{w:aq}{l:aa}(h:VY l=D)(c:w.length<=100):(dP w<|l.map λs=>sh<|.aQ s).length<=10000:=
 have⟨a,b⟩:=an h
 aD (Gs (C:=40) (xs:=180) (aI a) dc c λx d=>Gq 0 (.aQ x)<|la b x d) dc
theorem abH{w:aq}{l:List (Option<|aw)}(h:ya l=D)(c:w.length<=100):(dP w<|l.map λu=>sh<|kR u).length<=200000:=
 have⟨a,b⟩:=an h
 aD (Gs (C:=10) (xs:=18132) (aI a) dc c λx d=>Gq 2 _<|la b x d) dc
structure OkR(p:kK):Prop where
 b:qj p.dj=D
 t:qj p.dp=D
 c:qj p.bB=D
 o:qj p.bU=D
theorem Tn{p:kK}(h:Lb p=D):OkR p:=
 have⟨a,o⟩:=an h;have⟨a,c⟩:=an a;have⟨b,t⟩:=an a
 ⟨b,t,c,o⟩
structure OkP(p:kg):Prop where
 nm:VY p.bp=D
 ct:qj [p.cy]=D
 lf:qj p.dt=D
 le:qj p.dE=D
 bf:qj p.d5=D
 df:qj p.bC=D
 ac:OkR p.dJ
 gd:qj p.jT=D
 gm:qj p.dX=D
 go:OkR p.cF
theorem To{p:kg}(h:qY p=D):OkP p:=
 have⟨a,h10⟩:=an h;have⟨a,h9⟩:=an a;have⟨a,h8⟩:=an a;have⟨a,h7⟩:=an a;have⟨a,h6⟩:=an a;have⟨a,h5⟩:=an a;have⟨a,h4⟩:=an a;have⟨a,h3⟩:=an a;have⟨h1,h2⟩:=an a
 ⟨h1,h2,h3,h4,h5,h6,Tn h7,h8,h9,Tn h10⟩
theorem Iq{a b:aq}(h:a.length<=10)(c:gh b.length 90=D):(a++b).length<=100:=by refine rr (aY) ?_;exact cV h<|aK c
noncomputable def Ir(ls:aa):Nat:=(ls.map bW).sum
theorem jd{l:aq}{r:aa}{a b:Nat}(h:l.length<=a)(c:Ir r<=b):Ir (l::r)<=a+b:=cV h c
theorem yb:Ir []<=0:=bO 0
theorem yc{l r:aa}{a b:Nat}(h:Ir l<=a)(c:Ir r<=b):Ir (l++r)<=a+b:=by unfold Ir;refine rr (bN)<|rr (m3) ?_;exact cV h c
variable{pre:aq}
theorem EJ{p:kK}(h:OkR p)(a:pre.length<=10):Ir (MY pre p)<=40000:=aD (jd (qz h.b<|Iq a Z)<|jd (qz h.t<|Iq a Z)<|jd (qz h.c<|Iq a Z)<|jd (qz h.o<|Iq a Z) yb) (aK rfl)
theorem yd{p:kg}(h:qY p=D)(c:ya cs=D):((Ao p cs).map bW).sum<=400000/\(Ao p cs).length=18:=by have h:=To h;have z:∀{w:aq},gh w.length 100=D->w.length<=100:=aK;have a:=jd (a:=20) (l:=w_head) dc<|jd (abG (w:=vN) h.nm<|z Z)<|jd (qz (w:=mY) h.ct<|z Z)<|jd (qz (w:=vO) h.lf<|z Z)<|jd (qz (w:=iE) h.le<|z Z)<|jd (qz (w:=ib) h.bf<|z Z)<|jd (qz (w:=gE) h.df<|z Z) yb;have b:=jd (qz (w:=jl) h.gd<|z Z)<|jd (qz (w:=lg) h.gm<|z Z) yb;exact⟨aD (yc (yc (yc (yc a<|EJ (pre:=[]) h.ac<|dA _) b)<|EJ (pre:=lV) h.go dc)<|jd (abH (w:=vP) c<|z Z) yb) dc,Z⟩
variable{cv:V}
section
variable{E:Ex} {w l:a8}
theorem Cj(W:WA g)(f:60<=n){v:V}{p:kK}(h:Wr lO Y w l ls)(i:gh (ls.length+10) 100=D)(j:gh pre.length 10=D)(d:qX lO v p)(ok:OkR p)(q:∀A,Wr lO A w l (ls++MY pre p)->Q .bR A):bE ⟨g,X,n⟩ (.S 753) [.S w,.aQ pre,v] Y Q E:=by obtain⟨x,rfl,d⟩:=d;have j:=aK j;have i:=aK i;have z:∀{b:aq},gh b.length 90=D->pre.length+b.length<=cE:=λu=>DK (aD j dc)<|aD (aK u) dc;have m:∀{b:aq},gh b.length 90=D->gh (pre++b).length 100=D:=λu=>oY<|Iq j u;have zl:∀{k:aa},gh k.length 9=D->gh ((ls++k).length+1) 100=D:=λC=>oY<|rr (aY)<|aD (cg<|eZ (aK C) _) i;refine W.e 55 f Z Z Z<|x7 h Z Z ⟨z Z,?_⟩;refine gN (d.b.dq h.x) Z λv a=>rZ W (rm f Z) h (oY<|aD (eZ dc _) i) (m Z) a ok.b λF y=>x7 y Z Z ⟨z Z,?_⟩;refine gN (d.t.dq y.x) Z λv a=>rZ W (rm f Z) y (zl Z) (m Z) a ok.t λG r=>?_;rw [bF]at r;refine x7 r Z Z ⟨z Z,?_⟩;refine gN (d.c.dq r.x) Z λv a=>rZ W (rm f Z) r (zl Z) (m Z) a ok.c λH s=>?_;rw [bF]at s;refine x7 s Z Z ⟨z Z,?_⟩;refine gN (d.o.dq s.x) Z λv a=>rZ W (rm f Z) s (zl Z) (m Z) a ok.o λaO xs=>?_;rw [bF]at xs;exact q aO xs
theorem XE{c:Int}(ok:qj [c]=D):EG 2 (.aL c)=D:=(Hn _).symm.trans ok
theorem AQ(W:WA g)(b:70<=n){v:V}{p:kg}(c:iY Y v p)(i:jF Y cv cs)(ok:qY p=D)(o:ya cs=D)(q:∀f,bH Y f->Q (.aQ<|mG<|Ao p cs) f):bE ⟨g,X,n⟩ (.S 768) [v,cv] Y Q E:=by
 obtain⟨x,rfl,c⟩:=c;have j:=(yd ok o).1;have ok:=To ok;refine W.e 57 b Z Z Z<|Th W (rm b Z) λw l r h=>x7 h Z Z<|gN (c.nm.dq h.x) Z λv a=>abD W (rm b Z) h Z Z a ok.nm λd h=>x7 h Z Z<|gN (c.ct.dq h.x) Z λv a=>?_;intro t m;have h:=h.dq<|bH.cu m (C:=.aF [v]);subst a;refine MW W (rm b Z) (us:=[.aL p.cy]) (x:=t) h (aK rfl) dc (N.aM ..) Z (aK rfl) (λk v a=>bX v a<|.inl ⟨Z,?_⟩) λs h=>?_
 .cases ms (aW a);exact XE ok.ct
 exact x7 h Z Z<|gN (c.lf.dq h.x) Z λv a=>rZ W (rm b Z) h Z Z a ok.lf λd h=>x7 h Z Z<|gN (c.le.dq h.x) Z λv a=>rZ W (rm b Z) h Z Z a ok.le λd h=>x7 h Z Z<|gN (c.bf.dq h.x) Z λv a=>rZ W (rm b Z) h Z Z a ok.bf λd h=>x7 h Z Z<|gN (c.df.dq h.x) Z λv a=>rZ W (rm b Z) h Z Z a ok.df λd h=>gN (c.ac.dq h.x) Z λv a=>Cj W (rm b Z) h Z Z a ok.ac λd h=>x7 h Z Z<|gN (c.gd.dq h.x) Z λv a=>rZ W (rm b Z) h Z Z a ok.gd λd h=>x7 h Z Z<|gN (c.gm.dq h.x) Z λv a=>rZ W (rm b Z) h Z Z a ok.gm λd h=>gN (c.go.dq h.x) Z λv a=>Cj W (rm b Z) h Z Z a ok.go λd h=>x7 h Z Z<|abE W (rm b Z) h Z Z i o λd h=>x7 h Z Z<|abF W (rm b Z) (ls:=Ao p cs) h (aD j dc) q
end
def Kc(c:a8)(Y c8:N):Prop:=∀b,b≠c->∀C,Y b=O C->c8 b=O C
section
variable{l x d:a8} {C:cP}
theorem Kc.aU(x:Kc c Y c8)(y:Kc c c8 qV):Kc c Y qV:=λb h C e=>y b h C<|x b h C e
theorem Kc.cL:Kc c Y Y:=λU U U e=>e
theorem Kc.aX(x:Kc c Y c8)(n:Y l=X):Kc c Y (c8.aX l C):=λb h aO e=>(N.da _ _<|eG n e).trans<|x b h aO e
theorem Kc.cu(k:Kc x Y c8)(n:c8 l=X):Kc x Y (c8.aX l C):=λb h aO e=>N.dF n<|k b h aO e
theorem Kc.iV(k:Kc x Y c8):Kc x Y (c8.aX x C):=λb h aO e=>(N.da _ _ h).trans<|k b h aO e
theorem Kc.nn(k:Kc x Y c8)(n:c8 d=X)(ne:d≠x):Y d=X:=by
 cases e:Y d with
 |none=>rfl
 |some aO=>replace n:=(k d ne aO e).symm.trans n;exact nq aP n ff
theorem ye{aE:N->Prop}{i:Nat}{v:V}{C dx:a8}{a:At}(h:uz C i=D)(b:gh a.length 1000=D)(q:aE (Y.aX x<|.d8 C dx<|a.iV i v)):qs x i v (Y.aX x<|.d8 C dx a) aE:=pL (N.aM ..) h b<|rr (N.mU _ _ _ _) q
theorem pq{aE:N->Prop}{i:Nat}{v:V}{C dx:a8}{a:At}(b:At)(h:uz C i=D)(c:gh a.length 1000=D)(e:a.iV i v=b)(q:aE (Y.aX x<|.d8 C dx b)):qs x i v (Y.aX x<|.d8 C dx a) aE:=by subst e;exact ye h c q
theorem XF{f:Nat}{P:V×aw->Prop}(h:Y x=X)(a:L4 x i=O f)(q:P (.S f,[])):gX (tZ x i Y) P:=by rw [tZ];exact rr h<|rr a q
theorem Tp{k:Int}{v:V}{kv:ak}(h:Y x=O (.cQ kv))(a:kv.length<=1000)(q:aE (Y.aX x<|.cQ<|lS kv (.i k) v)):nj x (.aL k) v Y aE:=.d h a Z q
theorem XG{k:aq}{v:V}{kv:ak}(h:Y x=O (.cQ kv))(a:kv.length<=1000)(q:aE (Y.aX x<|.cQ<|lS kv (.s k) v)):nj x (.aQ k) v Y aE:=.d h a Z q
end
theorem Tr(k:KK)(v:V):∀kv:ak,(lS kv k v).length<=kv.length+1:=by
 intro l;induction l with
 |nil=>
  exact bO 1
 |cons c r i=>
  obtain⟨a,b⟩:=c;unfold lS;by_cases h:a=k
  .exact rr (bI h)<|ej _
  .exact rr (bu h)<|cg<|i
variable{lf:V} {bf:V} {count:Nat} {df:V} {ac:V} {gd:V}
section
variable{E:Ex}
theorem yf(W:WA g)(h:5<=n){b t c o:V}{p:kK}(f:IL Y b p.dj)(i:IL Y t p.dp)(j:IL Y c p.bB)(k:IL Y o p.bU)(q:∀v a,bH Y a->qX a v p->Q v a):bE ⟨g,X,n⟩ (.S 504) [b,t,c,o] Y Q E:=by refine W.aeK.go (r1 h Z) λx dx l m ne=>(W.d 26 Z).Zh W.kf (rm h Z) (dW (bO _) (dA _)<|bO _) Z<|ye Z Z<|ye Z Z<|ye Z Z<|ye Z Z ?_;have e:bH Y ((Y.aX dx<|.fu x).aX x<|.d8 504 dx [(16,b),(14,t),(15,c),(17,o)]):=(bH.cL.aX m).aX l;exact⟨Z,q _ _ e<|bX x Z ⟨jX dx _ _ (N.aM ..) Z<|f.fr e.fr,jX dx _ _ (N.aM ..) Z<|i.fr e.fr,jX dx _ _ (N.aM ..) Z<|j.fr e.fr,jX dx _ _ (N.aM ..) Z<|k.fr e.fr,dx,b,t,c,o,N.aM ..⟩⟩
theorem Ts(W:WA g)(t:3<=n){x:a8}{nm le:V}{names:aa}(f:Y x=O (.d8 560 dx []))(u:TL Y nm names)(c:count<=names.length)(i:names.length<=1000)(q:∀w A a,Kc x Y a->a x=O (.d8 560 dx [(7,nm),(8,.aL count),(9,lf),(10,le),(11,bf),(12,w),(13,A)])->Q .bR a):bE ⟨g,X,n⟩ (.S 271) [.S x,nm,.aL count,lf,le,bf] Y Q E:=by
 refine cK u λy xs h=>?_;obtain rfl:=xs;have aO:y≠x:=λe=>by replace h:=f▸e▸h;exact nq Internal.cP.ctorIdx (aJ h) ff
 refine W.e 15 t Z Z Z<|pL f Z Z<|ye Z Z<|ye Z Z<|ye Z Z<|ye Z Z ?_;intro l j;refine pL (N.dF j<|N.aM ..) Z Z ?_;have p:=((Kc.cL.iV).cu (C:=.aF []) j:Kc x Y _).iV (C:=.d8 560 dx [(7,.S y),(8,.aL count),(9,lf),(10,le),(11,bf),(12,.S l)]);intro d hd;refine pL (N.dF hd<|N.aM ..) Z Z<|mj (aD (aD c i) dc)<|ED (m:=count) (λk eP a=>(∃kv,a d=O (.cQ kv)/\kv.length<=k)/\Kc x Y a/\a x=O (.d8 560 dx [(7,.S y),(8,.aL count),(9,lf),(10,le),(11,bf),(12,.S l),(13,.S d)])/\∃o,eP=[O<|.S x,O<|.S y,O<|.aL count,O lf,O le,O bf,o]) (mT (bX [] ((N.da _ _<|(eG hd<|N.aM ..).symm).trans<|N.aM ..)<|bO 0) ((p.cu (C:=.cQ []) hd).iV (C:=.d8 560 dx [(7,.S y),(8,.aL count),(9,lf),(10,le),(11,bf),(12,.S l),(13,.S d)])) (N.aM ..)<|yD _ Z) (λU U U U=>Internal.MJ) ?_ ?_
 .intro k eP a r z;obtain⟨⟨kv,F,s⟩,fr,b,o,rfl⟩:=z;have G:=aV<|cD r c;refine d9 b Z Z<|dv (v:=.aQ names[k]) (fr y aO _ h) ((kq ..).trans (by rw [bQ];refine bL (bz)<|rr G ?_;rfl)) ?_;exact XG F (aD s<|aD (dH r)<|aD c i)<|mT (bX _ (N.aM ..)<|aD (Tr ..)<|cg s) (fr.aX<|p.nn hd<|(eG hd<|N.aM ..).symm) ((N.da _ _ ((eG hd<|N.aM ..).symm).symm).trans b)<|yD _ Z
 .intro eP a z;obtain⟨_,fr,b,o,rfl⟩:=z;exact q _ _ a fr b
theorem ae0{x:a8}{p:kg}{nm le d2 b t c o go b' t' c' o' gm:V}(h:Y x=O (.d8 560 dx [(7,nm),(8,.aL count),(9,lf),(10,le),(11,bf),(12,df),(13,d2),(18,ac),(16,b),(14,t),(15,c),(17,o),(19,go),(20,b'),(21,t'),(22,c'),(23,o'),(24,gd),(25,gm)]))(a:p.cy=count)(d:TL Y nm p.bp) (f:IL Y lf p.dt) (g:IL Y le p.dE) (j:IL Y bf p.d5) (l:IL Y df p.bC) (m:qX Y ac p.dJ) (n:IL Y b p.dJ.dj) (r:IL Y t p.dJ.dp) (s:IL Y c p.dJ.bB) (u:IL Y o p.dJ.bU) (w:qX Y go p.cF) (y:IL Y b' p.cF.dj) (z:IL Y t' p.cF.dp) (A:IL Y c' p.cF.bB) (xs:IL Y o' p.cF.bU) (C:IL Y gd p.jT) (aO:IL Y gm p.dX):Zt Y x p:=
 have k:∀{i:Nat} {v:V} {P:V->Prop},pI i [(7,nm),(8,.aL count),(9,lf),(10,le),(11,bf),(12,df),(13,d2),(18,ac),(16,b),(14,t),(15,c),(17,o),(19,go),(20,b'),(21,t'),(22,c'),(23,o'),(24,gd),(25,gm)]=O v->P v->vM Y 560 x i P:=λe q=>jX dx _ _ h e q
 ⟨k Z d,k Z<|aH V.aL a.symm,k Z f,k Z g,k Z j,k Z l,k Z m,k Z n,k Z r,k Z s,k Z u,k Z w,k Z y,k Z z,k Z A,k Z xs,k Z C,k Z aO⟩
theorem qA(W:WA g)(r:10<=n){nm lf le bf df ac go gd gm:V}{p:kg}{count:Nat}(G:p.cy=count)(H:count<=p.bp.length)(I:p.bp.length<=1000)(w:TL Y nm p.bp) (ρ:IL Y lf p.dt) (K:IL Y le p.dE) (vs:IL Y bf p.d5) (M:IL Y df p.bC) (A:qX Y ac p.dJ) (xs:qX Y go p.cF) (aZ:IL Y gd p.jT) (aB:IL Y gm p.dX)(q:∀v s,bH Y s->iY s v p->Q v s):bE ⟨g,X,n⟩ (.S 560) [.bD [nm,.aL count,lf,le,bf],df,ac,go,gd,gm] Y Q E:=by refine cK (id A) λa z k=>?_;obtain rfl:=z;refine cK (id xs) λj z l=>?_;obtain rfl:=z;refine W.aeL.go (r1 r Z) λx dx u P ne=>(W.d 32 Z).Xt W.aeP λR=>(W.d 32 Z).Zh W.kf (rm r Z) (dW (bO _) (dA _)<|bO _) Z<|have F:bH Y ((Y.aX dx<|.fu x).aX x<|.d8 560 dx []):=(bH.cL.aX P).aX u;(dW Z Z ?_);exact XF R Z<|Ts W (ir (rm r Z:3+1<=n-1)) (dx:=dx) (N.aM ..) (w.fr F.fr) H I λd1 h aE fr T=>have i:∀aO,bH Y (aE.aX x aO):=λaO y C e=>(N.da _ _<|eG u e).trans<|fr y (eG u e) _<|F _ _ e;pL T Z Z<|pq [(7,nm),(8,.aL count),(9,lf),(10,le),(11,bf),(12,df),(13,h),(18,.S a)] Z Z Z<|gN (k.b.dq<|i _) Z λb aG=>pq [(7,nm),(8,.aL count),(9,lf),(10,le),(11,bf),(12,df),(13,h),(18,.S a),(16,b)] Z Z Z<|gN (k.t.dq<|i _) Z λt σ=>pq [(7,nm),(8,.aL count),(9,lf),(10,le),(11,bf),(12,df),(13,h),(18,.S a),(16,b),(14,t)] Z Z Z<|gN (k.c.dq<|i _) Z λc i3=>pq [(7,nm),(8,.aL count),(9,lf),(10,le),(11,bf),(12,df),(13,h),(18,.S a),(16,b),(14,t),(15,c)] Z Z Z<|gN (k.o.dq<|i _) Z λo i4=>pq [(7,nm),(8,.aL count),(9,lf),(10,le),(11,bf),(12,df),(13,h),(18,.S a),(16,b),(14,t),(15,c),(17,o)] Z Z Z<|pq [(7,nm),(8,.aL count),(9,lf),(10,le),(11,bf),(12,df),(13,h),(18,.S a),(16,b),(14,t),(15,c),(17,o),(19,.S j)] Z Z Z<|gN (l.b.dq<|i _) Z λb' j1=>pq [(7,nm),(8,.aL count),(9,lf),(10,le),(11,bf),(12,df),(13,h),(18,.S a),(16,b),(14,t),(15,c),(17,o),(19,.S j),(20,b')] Z Z Z<|gN (l.t.dq<|i _) Z λt' j2=>pq [(7,nm),(8,.aL count),(9,lf),(10,le),(11,bf),(12,df),(13,h),(18,.S a),(16,b),(14,t),(15,c),(17,o),(19,.S j),(20,b'),(21,t')] Z Z Z<|gN (l.c.dq<|i _) Z λc' j3=>pq [(7,nm),(8,.aL count),(9,lf),(10,le),(11,bf),(12,df),(13,h),(18,.S a),(16,b),(14,t),(15,c),(17,o),(19,.S j),(20,b'),(21,t'),(22,c')] Z Z Z<|gN (l.o.dq<|i _) Z λm j4=>pq [(7,nm),(8,.aL count),(9,lf),(10,le),(11,bf),(12,df),(13,h),(18,.S a),(16,b),(14,t),(15,c),(17,o),(19,.S j),(20,b'),(21,t'),(22,c'),(23,m)] Z Z Z<|pq [(7,nm),(8,.aL count),(9,lf),(10,le),(11,bf),(12,df),(13,h),(18,.S a),(16,b),(14,t),(15,c),(17,o),(19,.S j),(20,b'),(21,t'),(22,c'),(23,m),(24,gd)] Z Z Z<|pq [(7,nm),(8,.aL count),(9,lf),(10,le),(11,bf),(12,df),(13,h),(18,.S a),(16,b),(14,t),(15,c),(17,o),(19,.S j),(20,b'),(21,t'),(22,c'),(23,m),(24,gd),(25,gm)] Z Z Z<|have f:=(i<|.d8 560 dx [(7,nm),(8,.aL count),(9,lf),(10,le),(11,bf),(12,df),(13,h),(18,.S a),(16,b),(14,t),(15,c),(17,o),(19,.S j),(20,b'),(21,t'),(22,c'),(23,m),(24,gd),(25,gm)]).fr;⟨Z,q _ _ (i _)<|bX x Z<|ae0 (N.aM ..) G (w.fr f) (ρ.fr f) (K.fr f) (vs.fr f) (M.fr f) (A.fr f) (aG.fr f) (σ.fr f) (i3.fr f) (i4.fr f) (xs.fr f) (j1.fr f) (j2.fr f) (j3.fr f) (j4.fr f) (aZ.fr f)<|aB.fr f⟩
end
noncomputable def dg(l:ar)(i:Int):Int:=l.getD i.toNat 0
@[simp]theorem cZ(l:ar):(bh l).length=l.length:=aT ..
theorem AR{l:ar}{k:Nat}(h:k<l.length):dg l k=l[k]:=aH (Z4 · 0)<|aV h
theorem ft(h:i<l.length):mO (bh l) (i:Int)=O (.aL<|dg l i):=by refine rr (kq _ _) ?_;rw [bh];refine rr (bz)<|rr (aV h)<|rr (AR h) ?_;rfl
theorem rA{i:Int}(h:0<=i)(a:i<l.length):mO (bh l) i=O (.aL<|dg l i):=by refine zp h λk z=>?_;obtain rfl:=z;exact ft<|zI a
def It(p:kK)(r:Int):Bool:=decide (0<=dg p.bU r)&&decide (dg p.bU r<=r)&&decide (dg p.bU (dg p.bU r)=dg p.bU r)&&decide (dg p.dj r=dg p.dj (dg p.bU r))
def Ck(p:kK)(many:Nat):Bool:=p.dj.length==many&&p.bU.length==many&&(dk many).all λ(r:Nat)=>It p r
def uU(p:kK)(columns:Int)(c:Int):Bool:=decide (0<=dg p.bB c)&&decide (dg p.bB c<=p.bU.length)&&(decide (dg p.bB c≠0)||decide (dg p.dp c=0))&& (decide (dg p.bB c=0)||(decide (dg p.bU (dg p.bB c-1)=dg p.bB c-1)&&decide (0<=c-dg p.dj (dg p.bB c-1))&&decide (c-dg p.dj (dg p.bB c-1)<columns)))
def yg(p:kK)(columns:Int):Bool:=p.dp.length==p.bB.length&&(p.bB==[]||dg p.bB (p.bB.length-1) !=0)&&(dk p.bB.length).all λ(c:Nat)=>uU p columns c
theorem sG{f:Nat->Bool}(h:(dk k).all f=D)(a:f k=D):(dk<|k+1).all f=D:=by refine rr (qd)<|bL (Wb)<|rr h ?_;exact(Hn _).trans a
theorem yh{f:Nat->Bool}(h:k<m)(a:f k=bk):(dk m).all f=bk:=List.all_eq_false.mpr<|bX k (J9 h)<|Bool.eq_false_iff.mp a
theorem jv{a:Bool}(h:b=bk):(a&&b)=bk:=by exact rr h<|kP _
theorem e7{a:Bool}(h:a=bk):(a&&b)=bk:=by refine rr h ?_;rfl
theorem kT{a:Bool}(h:a=D)(h':b=D):(a&&b)=D:=by refine rr h<|bL h' ?_;rfl
structure PrG(Y:N)(x:a8)(p:kK)(dx b t c o:a8):Prop where
 h:Y x=O (.d8 504 dx [(16,.S b),(14,.S t),(15,.S c),(17,.S o)])
 b:Y b=O (.aF<|bh p.dj)
 t:Y t=O (.aF<|bh p.dp)
 c:Y c=O (.aF<|bh p.bB)
 o:Y o=O (.aF<|bh p.bU)
theorem vM.il{x:a8}{a:At}{v:V}(h:vM Y C x i (IL Y · l))(d:Y x=O (.d8 C dx a))(e:a.lookup i=O v):∃y,v=.S y/\Y y=O (.aF<|bh l):=by refine iT h λg j k b c f=>have b:=d.symm.trans b;?_;cases b;replace c:=e.symm.trans c;exact rr (aJ c) f
theorem MX.nu{x:a8}{p:kK}(h:MX Y x p):∃dx b t c o,PrG Y x p dx b t c o:=by refine q9 (h.m) λdx b t c o a=>cK (h.b.il a Z) λb z d=>?_;obtain rfl:=z;refine cK (h.t.il a Z) λt z e=>?_;obtain rfl:=z;refine cK (h.c.il a Z) λc z f=>?_;obtain rfl:=z;refine cK (h.o.il a Z) λo z g=>?_;obtain rfl:=z;exact AF dx b t c o ⟨a,d,e,f,g⟩
theorem PrG.dq{x b t o:a8}{p:kK}(h:PrG Y x p dx b t c o)(e:bH Y c8):PrG c8 x p dx b t c o:=⟨e _ _ h.h,e _ _ h.b,e _ _ h.t,e _ _ h.c,e _ _ h.o⟩
theorem Iu{x:a8}(h:Y x=O (.aF B))(a:Y y=O (.aF ys))(c:(if B.length=ys.length then xD B ys else O bk)=O b)(q:P (!b)):gX ((Q4 x y Y).map (!·)) P:=by rw [Q4];refine rr h<|rr a ?_;dsimp only;exact rr c q
theorem Co(l:ar):(if(bh l).length=([]:aw).length then xD (bh l) []else O bk)=O (decide (l=[])):=by
 induction l with
 |nil=>rfl
 |cons y r=>rfl
theorem O1(h:l≠[]):mO (bh l) (-1)=O (.aL<|dg l<|l.length-1):=by have a:=List.length_pos_iff.mpr h;refine rl (rA (l:=l) (i:=(l.length:Int)-1) (by lia)<|vu _ dc) ?_;unfold mO;refine bL (bu dc)<|rr (cZ _)<|bL (bI<|by lia)<|rr (bI<|by lia) ?_;rfl
def Lc(Q:aj)(b:Bool)(Y:N):Prop:=∀s,(s=[]↔b=D)->Q (.aQ s) Y
theorem Lc.no(h:Lc Q b Y)(e:b=bk){a:Nat}{s:aq}:Q (.aQ<|a::s) Y:=h _ ⟨λh=>nq ek h ff,λx=>by replace x:=e.symm.trans x;exact nq bP x ff⟩
theorem Lc.yes(h:Lc Q b Y)(e:b=D):Q (.aQ []) Y:=h _ ⟨λU=>e,λU=>rfl⟩
variable{many:Nat} {columns:Int}
section
variable{E:Ex}
theorem Iv(W:WA g)(A:3<=n){x:a8}{p:kK}(xs:MX Y x p)(C:p.bU.length<=1000)(q:Lc Q (Ck p many) Y):bE ⟨g,X,n⟩ (.S 487) [.S x,.aL many] Y Q E:=by
 refine q9 (xs.nu) λdx b t c o H=>W.e 28 A Z Z Z<|d9 H.h Z Z<|ei H.b (cZ _) ?_;by_cases f:p.dj.length=many
 case neg=>
  exact zU (m4 λe=>f<|ij e)<|q.no<|e7<|e7<|beq_false_of_ne f
 refine rp (nN<|aH Bf f)<|d9 H.h Z Z<|ei H.o (cZ _) ?_;by_cases d:p.bU.length=many
 case neg=>
  exact zU (m4 λe=>d<|ij e)<|q.no<|e7<|jv<|beq_false_of_ne d
 refine rp (nN<|aH Bf d)<|mj (aD (d▸C) dc)<|KZ (m:=many) (λo:au×au=>[O<|.S x,O<|.aL many,o.1,o.2]) (λk U=>((dk k).all λ(r:Nat)=>It p r)=D) (_,_) Z (λk o ρ j y aO=>?_) λo y=>?_
 .have l:It p k=bk->∀{a:Nat} {s:aq},Q (.aQ<|a::s) Y:=λh=>q.no<|jv<|yh j h;refine d9 H.h Z Z<|dv H.o (ft<|d▸j)<|tU (λa=>l<|e7<|e7<|e7<|bj<|wj a) λi=>?_;refine tU (λa=>l<|e7<|e7<|jv<|bj<|wj a) λu=>?_;have i:=Ka i;have u:=Ka u;have z:=ig u<|it<|d▸j;refine d9 H.h Z Z<|dv H.o (rA i z) ?_;by_cases v:dg p.bU (dg p.bU k)=dg p.bU k
  case neg=>exact zU (m4 v)<|l<|e7<|jv<|bj v
  refine rp (nN v)<|d9 H.h Z Z<|dv H.b (ft<|f▸j)<|d9 H.h Z Z<|dv H.b (rA i (by refine rr f<|rl d ?_;exact z)) ?_;by_cases w:dg p.dj k=dg p.dj (dg p.bU k)
  case neg=>exact qw (m4 w)<|l<|jv<|bj w
  exact t6 (nN w)<|aO (_,_)<|sG y<|kT (kT (kT (aN i)<|aN u)<|aN v)<|aN w
 .exact q.yes<|kT (kT (be f)<|be d) y
theorem Gu(W:WA g)(vs:3<=n){x:a8}{p:kK}(M:MX Y x p)(aZ:p.bB.length<=1000)(aB:p.dj.length=p.bU.length)(q:∀aO,bH Y aO->Lc Q (yg p columns) aO):bE ⟨g,X,n⟩ (.S 494) [.S x,.aL columns] Y Q E:=by
 refine q9 (M.nu) λdx b t c o H=>W.e 29 vs Z Z Z<|d9 H.h Z Z<|jQ H.t<|d9 H.h Z Z<|ei H.c (cZ _)<|rr (cZ _) ?_;by_cases f:p.dp.length=p.bB.length
 case neg=>exact qw (m4 λe=>f<|ij e)<|(q Y .cL).no<|e7<|e7<|beq_false_of_ne f
 refine t6 (nN<|aH Bf f)<|d9 H.h Z Z ?_;intro r P;have F:=bH.cu (C:=.aF []) P;have q:=q _ F;have H:=H.dq F;have R:=N.aM Y r<|.aF [];generalize Y.aX r (.aF [])=j8 at*;refine Iu H.c R (Co _) ?_;have G:((p.bB==[]||dg p.bB (p.bB.length-1) !=0)=D)->iy ⟨g,X,n-1⟩ (kU E) (aey.drop 2) [O<|.S x,O<|.aL columns,X,X] j8 (yZ Q):=λaE=>by
  refine d9 H.h Z Z<|ei H.c (cZ _)<|mj (aD aZ dc)<|KZ (m:=p.bB.length) (λo:au×au=>[O<|.S x,O<|.aL columns,o.1,o.2]) (λk U=>((dk k).all λ(c:Nat)=>uU p columns c)=D) (_,_) Z (λk o ρ w y T=>?_) λo y=>?_
  .have d:uU p columns k=bk->∀{a:Nat} {s:aq},Q (.aQ<|a::s) j8:=λh=>q.no<|jv<|yh w h;have I:uU p columns k=D->∀aG o2,ρ [O<|.S x,O<|.aL columns,aG,o2] j8:=λh U U=>T (_,_)<|sG y h;refine d9 H.h Z Z<|dv H.c (ft w)<|tU (λa=>d<|e7<|e7<|e7<|bj<|by lia) λj=>?_;refine d9 H.h Z Z<|ei H.o (cZ _)<|tU (λa=>d<|e7<|e7<|jv<|bj<|by lia) λK=>?_;by_cases c0:dg p.bB k=0
   .refine pk (λU=>?_) λa=>cM (rr c0 Z) a;refine d9 H.h Z Z<|dv H.t (ft<|f▸w) ?_;by_cases l:dg p.dp k=0
    case neg=>exact uN (m4 l)<|d<|e7<|jv<|Bool.or_eq_false_iff.mpr ⟨bj λh=>h c0,bj l⟩
    refine uO (nN l)<|pk (λa=>cM a<|rr c0 dc) λU=>?_;exact I (kT (kT (kT (aN<|JZ c0.symm)<|aN<|rr c0<|bT _)<|oB<|.inr<|aN l)<|oB<|.inl<|aN c0) _ _
   have z:0<=dg p.bB k-1:=by lia
   have A:(decide (dg p.bU (dg p.bB k-1)=dg p.bB k-1)&&decide (0<=(k:Int)-dg p.dj (dg p.bB k-1))&&decide ((k:Int)-dg p.dj (dg p.bB k-1)<columns))=bk->uU p columns k=bk:=λh=>jv<|Bool.or_eq_false_iff.mpr ⟨bj c0,h⟩;refine pk (λa=>cM a<|i5 ‹_›) λU=>?_;refine pk (λU=>?_) λa=>cM z a;refine d9 H.h Z Z<|dv H.o (rA z (nle K:dg p.bB k-1<p.bU.length)) ?_;by_cases u:dg p.bU (dg p.bB k-1)=dg p.bB k-1
   case neg=>exact K3 (m4 u)<|d<|A<|e7<|e7<|bj u
   refine rp (nN u)<|d9 H.h Z Z<|dv H.b (rA z<|rr aB (nle K:dg p.bB k-1<p.bU.length))<|lL (λxs=>?_) λxs=>d<|A<|e7<|jv<|bj xs;by_cases v:(k:Int)-dg p.dj (dg p.bB k-1)<columns
   case neg=>exact K3 (m4 v)<|d<|A<|jv<|bj v
   exact rp (nN v)<|I (kT (kT (kT (aN<|by lia)<|aN<|by lia)<|oB<|.inl<|aN c0)<|oB<|.inr<|kT (kT (aN u)<|aN xs)<|aN v) _ _
  .exact q.yes<|kT (kT (be f) aE) y
 by_cases i:p.bB=[]
 .exact uO (nN i)<|G<|rr i Z
 .refine uN (m4 i)<|d9 H.h Z Z<|dv H.c (O1 i)<|pk (λj=>q.no<|e7<|jv<|Bool.or_eq_false_iff.mpr ⟨beq_false_of_ne i,?_⟩) λj=>G<|oB<|.inr<|bne_iff_ne.mpr j;exact rr j Z
end
def HD(Y:N)(hs:List a8)(rows:List (List<|Int×Int)):Prop:=hs.length=rows.length/\∀(k:Nat) (h:a8),hs[k]?=O h->∃row,rows[k]?=O row/\Y h=O (.cQ<|r9 row)
def DL(Y:N)(v:V)(rows:List (List<|Int×Int)):Prop:=∃x hs,v=.S x/\Y x=O (.aF<|hs.map .S)/\HD Y hs rows
variable{hs:List a8} {rows:List (List<|Int×Int)}
theorem HD.f2(h:HD Y hs rows)(f:F2 Y c8):HD c8 hs rows:=⟨h.1,λk a e=>cK (h.2 k a e) λr b c=>bX r b<|f _ _ c Z Z⟩
theorem HD.fr(h:HD Y hs rows)(f:Fr Y c8):HD c8 hs rows:=h.f2 f.f2
theorem yi(h:List a8):abl (.aF<|h.map .S)=D:=K1 λa m k e=>by
 induction h with
 |nil=>exact nq ek e ff
 |cons a r=>
  induction r with
  |nil=>exact nq ek (gg e).2 ff
  |cons b r=>exact nq Internal.V.ctorIdx (gg (gg e).2).1 ff
theorem DL.f2{v:V}(h:DL Y v rows)(f:F2 Y c8):DL c8 v rows:=fE h λx a e b h=>fe x a e (f _ _ b Z<|yi a)<|h.f2 f
theorem DL.fr{v:V}(h:DL Y v rows)(f:Fr Y c8):DL c8 v rows:=h.f2 f.f2
variable{row:af}
theorem HD.aX{h:a8}(H:HD Y hs rows)(n:hs.Nodup)(c:hs[k]?=O h):HD (Y.aX h<|.cQ<|r9 row) hs (rows.set k row):=by
 refine⟨H.1.trans List.length_set.symm,λj a e=>?_⟩;refine gs c λi q=>?_;by_cases b:j=k
 .clear q;induction b
  replace e:=c▸e;exact rr (aJ e)<|bX row (eK<|rl (H.1) i)<|N.aM ..
 .exact cK (H.2 j a e) λr d f=>gs e λg q1=>bX r ((i9<|lF b).trans d)<|(N.da _ _ (λx=>b ((tN n).mp<|q1.trans<|x.trans q.symm):a≠h)).trans f
theorem HD.at{f:Nat->af}(H:HD Y hs ((dk m).map f))(b:k<m):∃h,hs[k]?=O h/\mO (hs.map V.S) (k:Int)=O (.S h)/\Y h=O (.cQ<|r9<|f k):=by have a:=H.1;replace a:=(et)▸(aT _)▸a;have e:=aV (l:=hs)<|a▸b;refine cK (H.2 k _ e) λc r1 r=>have r1:=(jI b)▸(bz)▸r1;?_;exact rr (aJ r1)<|fW _ e (by refine rr (kq _ _)<|rr (bz)<|rr e ?_;rfl) r
def uV(p:kK)(m:Nat)(o:Int):af:=(dk m).filterMap λ(c:Nat)=>if dg p.bB c=o+1 then O (c-dg p.dj o,dg p.dp c)else X
def Ap(p:kK)(o:Int):af:=uV p p.bB.length o
def zX(p:kK):List (List<|Int×Int):=p.bU.map<|Ap p
theorem tE(p:kK)(m:Nat)(o:Int):uV p (m+1) o=uV p m o++if dg p.bB m=o+1 then [((m:Int)-dg p.dj o,dg p.dp m)]else []:=by
 unfold uV;refine rr (qd)<|bL (oI)<|rr (iJ) ?_;by_cases h:dg p.bB m=o+1
 .refine rr (bI h)<|rr (bI h) ?_;rfl
 .refine rr (bu h)<|rr (bu h) ?_;rfl
theorem sH{p:kK}{o:Int}{q:Int×Int}(h:q∈uV p m o):∃c:Nat,c<m/\q.1=c-dg p.dj o/\dg p.bB c=o+1/\q.2=dg p.dp c:=by
 refine cK (List.mem_filterMap.mp h) λc a e=>?_;clear h;split at e
 .exact rl (aJ e)<|lQ c (mr_ a) Z (by assumption) Z
 .exact nq aP e ff
theorem Iw:∀(kv:af) (k x:Int),(∀q∈kv,q.1≠k)->lS (r9 kv) (.i k) (.aL x)=r9 (kv++[(k,x)]):=by
 intro l;induction l with
 |nil=>
  intro k x U;exact Z
 |cons q r a=>
  intro k x h;have a:=a k x λy b=>h y<|di _ b;unfold r9 at a⊢;refine rr (eL) ?_;rw [lS];refine rr (bu λe=>h q (bS ..)<|KK.i.inj e)<|rr a ?_;rfl
structure XH(p:kK):Prop where
 tab:p.dp.length=p.bB.length
 bas:p.dj.length=p.bU.length
 chk:∀c:Nat,c<p.bB.length->dg p.bB c=0\/(1<=dg p.bB c/\dg p.bB c<=p.bU.length)
 uo:∀o∈p.bU,0<=o/\o<p.bU.length
 z1:p.bB.length<=1000
 z2:p.bU.length<=1000
theorem r7{o:Int}(h:l[k]?=O o):dg l k=o:=gs h λa b=>rr (AR a)<|b
theorem Tt{p:kK}{c:Int}(i:Ck p m=D)(j:yg p c=D)(z:p.bB.length<=1000)(l:p.bU.length<=1000):XH p:=by
 refine ba i λa r=>ba a λa b=>ba j λd e=>have b:=cR b;⟨cR<|nL d,(cR a).trans b.symm,λc n=>?_,λo q=>?_,z,l⟩
 .exact ba (la e c<|J9 n) λx U=>ba (nL x) λx y=>(Int.lt_or_eq_of_le<|aI x).elim (λh=>.inr ⟨h,aI y⟩) λh=>.inl h.symm
 .refine gi q λk f=>have g:=gl f;ba (la r k<|J9<|b▸g) λx U=>ba (nL x) λx y=>have x:=aI x;have y:=aI y;?_;rw [r7 f]at x y;exact⟨x,ig y<|it g⟩
def w7(p:kK)(j:Nat):List (List<|Int×Int):=(dk p.bU.length).map λ(o:Nat)=>uV p j o
theorem Ld{p:kK}(h:dg p.bB j=0):w7 p (j+1)=w7 p j:=jH λo U=>by exact rr (tE _ _ _)<|rr (bu<|by lia)<|dS _
theorem O2{p:kK}{o:Nat}(h:dg p.bB j=o+1)(a:o<p.bU.length):(w7 p j).set o (uV p j o++[((j:Int)-dg p.dj o,dg p.dp j)])=w7 p (j+1):=by
 apply QB;intro k;by_cases b:k=o
 .exact rr b<|bL (eK (by refine rr (aT _)<|rr (et) ?_;exact a))<|rr (bz)<|rr (jI a)<|rr (pH _ _)<|rr (tE _ _ _)<|rr (bI h) Z
 .refine rr (i9<|lF b)<|rr (bz)<|rr (bz) ?_;by_cases c:k<p.bU.length
  .exact rr (jI c)<|rr (pH _ _)<|rr (pH _ _)<|rr (tE _ _ _)<|rr (bu<|by lia)<|rr (dS _) Z
  .refine rr (lM<|rr (et)<|gS c) ?_;rfl
theorem EK{p:kK}{o:Int}:(r9<|uV p j o).length<=j:=by rw [r9];refine rr (aT _) ?_;rw [uV];exact aD (km ..)<|cC et
theorem XI{x:a8}{k:Int}{v:V}{kv kv':ak}(h:Y x=O (.cQ kv))(a:kv.length<=1000)(e:lS kv (.i k) v=kv')(q:aE (Y.aX x<|.cQ kv')):nj x (.aL k) v Y aE:=by subst e;exact Tp h a q
theorem HD.jO{rs:List a8}{r:a8}(H:HD Y rs rows)(b:Y r=X):HD (Y.aX r<|.cQ<|r9 row) (rs++[r]) (rows++[row]):=by
 refine⟨by refine bL (aY)<|rr (aY)<|rr (H.1) ?_;rfl,λi h e=>?_⟩;by_cases a:i<rs.length
 .replace e:=(fX a)▸e;exact cK (H.2 i h e) λrow c d=>bX row ((fX<|H.1▸a).trans c)<|N.dF b d
 .have a:=gS a;replace e:=(eN a)▸e;refine bX row ((eN<|H.1▸a).trans ?_) ?_
  .have:=gl e;refine rl (H.1)<|rr (Nat.lt_one_iff.mp this) ?_;rfl
  .replace e:=(Nat.lt_one_iff.mp<|gl e)▸e;exact rr (aJ e)<|N.aM ..
theorem EL(h:List a8)(r:a8):h.map V.S++[.S r]=(h++[r]).map V.S:=(bN (l₁:=h) (l₂:=[r])).symm
structure New(Y:N)(hs:List a8)(k:Nat)(c8:N):Prop where
 l:hs.length=k
 d:hs.Nodup
 x:bH Y c8
 n:∀h∈hs,Y h=X/\c8 h=O (.cQ [])
theorem New.jO{r:a8}(H:New Y hs k c8)(e:c8 r=X):New Y (hs++[r]) (k+1) (c8.aX r<|.cQ []):=by
 refine⟨by refine bL (aY)<|rr (H.l) ?_;rfl,?_,H.x.e0 e,λh c=>?_⟩
 .refine ri (jq)<|dW H.d (kQ ..) λa f b g=>?_;cases ms g
  exact eG e (H.n a f).2
 .rcases ma c with c|c
  .exact⟨(H.n h c).1,N.dF e (H.n h c).2⟩
  .cases ms c;exact⟨fp H.x e,N.aM ..⟩
section
variable{E:Ex}
theorem qC(W:WA g)(hn:3<=n){x:a8}{p:kK}(hp:MX Y x p)(ok:XH p)(q:∀w a,bH Y a->DL a w (zX p)->Q w a):bE ⟨g,X,n⟩ (.S 466) [.S x] Y Q E:=by
 refine q9 (hp.nu) λdx b t c o G=>W.e 27 hn Z Z Z<|d9 G.h Z Z<|zh (hd:=X) (it:=.S o) (B:=bh p.bU) (jD G.o) (λk f a=>∃i:List a8,f=i.map .S/\New Y i k a) (bX [] Z ⟨Z,kN,.cL,nofun⟩)
  (λk f a U y1=>cK y1 λU U h=>jE<|h.x _ _ G.o) ?_ ?_
 .intro k y f a vs v;(refine cK v λi z h=>?_;refine rr z ?_);intro r A;exact bX (i++[r]) (EL ..)<|h.jO A
 intro f j8 v;(refine cK v λi z aZ=>?_;refine rr z ?_);intro l R;have aE:=aZ.x.e0 R (C:=.aF<|i.map .S);refine d9 (aE _ _ G.h) Z Z<|ei (aE _ _ G.c) (cZ _)<|mj (aD ok.z1 dc)<|B7 (m:=p.bB.length) (λo:au×au=>[O<|.S x,o.1,O<|.S l,o.2]) (λj U a=>bH Y a/\a l=O (.aF<|i.map .S)/\HD a i (w7 p j)) (_,_)
  (mT aE (N.aM ..) (by rw [w7];refine rr (aT _)<|rr (et) ?_;exact aZ.l.trans<|cZ _) λk h e=>?_) (λj oo qR ρ aO F hJ=>?_) λoo qR F=>?_
 .have M:=gl e;exact bX [] (by rw [w7];refine bL (bz)<|rr (jI<|(cZ _)▸(aZ.l)▸M) ?_;rfl)<|N.dF R (aZ.n h<|aW e).2
 .refine m7 F λs I H=>?_;have u:=G.dq s;refine d9 u.h Z Z<|dv u.c (ft aO) ?_;by_cases aB:dg p.bB j=0
  .exact t6 (nN aB)<|hJ (oo.1,O<|.aL j) _<|dW s I<|rr (Ld aB) H
  .refine fw ((ok.chk j aO).resolve_left aB) λc1 c2=>zp (pQ c1) λo0 T=>have aG:o0<p.bU.length:=zI<|T▸Int.sub_one_lt_of_le c2;hV (H.at aG) λh P σ r2=>qw (m4 aB)<|d9 u.h Z Z<|dv u.c (ft aO)<|d9 u.h Z Z<|dv u.t (ft<|ok.tab▸aO)<|dv I (rr T σ) ?_;refine d9 u.h Z Z<|dv u.b (rr T<|ft<|ok.bas▸aG) ?_;refine XI r2 (aD EK<|aD (dH aO) ok.z1) (Iw _ _ _ λq hq=>?_) ?_
   .refine hV (sH hq) λc hc e U=>rr e ?_;lia
   refine hJ (_,_) _<|dW (λy C e=>(N.da _ _<|eG (aZ.n _<|aW P).1 e).trans<|s _ _ e) ((N.da _ _ (eG R (aZ.n _<|aW P).2).symm).trans I) ?_;exact rl (O2 (by lia) aG)<|H.aX aZ.d P
 .refine m7 F λs I H=>?_;refine d9 (s _ _ G.h) Z Z<|zh (hd:=X) (it:=.S o) (B:=bh p.bU) (jD<|s _ _ G.o) (λk f a=>bH qR a/\∃xs:List a8,f=xs.map .S/\HD a xs ((p.bU.take k).map<|Ap p)) (Fp .cL [] Z Z λU U h=>nq aP h ff)
   (λk f a U h=>jE<|h.1 _ _<|s _ _ G.o) ?_ ?_
  .intro k y f a vs v;(refine Bi v λK xs z H3=>?_;refine rr z ?_);rw [bh,bz]at vs;refine om vs λo M z=>?_;obtain rfl:=z;refine fw (ok.uo o<|aW M) λq1 q2=>?_;clear vs;refine zp q1 λo' z=>?_;obtain rfl:=z;refine hV (H.at (zI q2)) λh P σ r2=>dv (K _ _ I) σ<|Ih (K _ _ r2) λr A=>Bl (K.e0 A) (xs++[r]) (EL ..) ?_;refine rr (dK)<|rr M<|rr (bN) ?_;exact H3.jO A
  .intro f a v;(refine Bi v λK xs z H3=>?_;refine rr z ?_);intro r A;exact q _ _ ((s.aU K).e0 A)<|fe r xs Z (N.aM ..)<|((dD)▸(cZ _)▸H3).fr (bH.cu A).fr
def Tu(p:kK)(many:Nat):Bool:=(dk many).all λ(r:Nat)=>decide (Ap p (dg p.bU r)≠[])||decide (dg p.dj r=0)
def kG(p:kK)(many:Nat)(columns:Int):Bool:=Ck p many&&yg p columns&&Tu p many
theorem ae1{x:a8}{kv:ak}(h:Y x=O (.cQ kv))(a:Y y=O (.cQ []))(q:P kv.isEmpty):gX (Q4 x y Y) P:=by unfold Q4;refine rr h<|rr a ?_;exact q
theorem abI(W:WA g)(A:6<=n){x:a8}{p:kK}(u:MX Y x p)(vs:p.bU.length<=1000)(R:p.bB.length<=1000)(q:∀d,bH Y d->Lc Q (kG p many columns) d):bE ⟨g,X,n⟩ (.S 501) [.S x,.aL many,.aL columns] Y Q E:=by
 refine W.e 30 A Z Z Z<|u.m_ Z Z<|Iv W (rm A Z) u vs λs f=>?_;by_cases i:Ck p many=D
 case neg=>
  induction s with
  |nil=>exact cM (f.mp Z) i
  |cons a s=>exact(q Y .cL).no<|e7<|e7<|Bool.eq_false_iff.mpr i
 have es:=f.mpr i;subst es;refine ba i λa U=>ba a λxs j=>have xs:=cR xs;have j:=cR j;u.m_ Z Z<|Gu W (rm A Z) u R (xs.trans j.symm) λj8 I s f=>?_;by_cases v:yg p columns=D
 case neg=>
  induction s with
  |nil=>exact cM (f.mp Z) v
  |cons a s=>exact(q j8 I).no<|e7<|jv<|Bool.eq_false_iff.mpr v
 have es:=f.mpr v;subst es;have M:=u.f2 I.fr.f2;refine M.m_ Z Z<|qC W (rm A Z) M (Tt i v R vs) λw qR aZ aO=>fE aO λl f o9 hl2 H=>rr o9<|q9 ((M.f2 aZ.fr.f2).nu) λdx b t c o G=>have aE:=H.1.trans<|(aT ..).trans j;mj (aD (j▸vs:many<=1000) dc)<|B7 (m:=many) (λo=>[O<|.S x,O<|.aL many,O<|.aL columns,O<|.aQ [],O<|.S l,o]) (λk U d=>bH qR d/\((dk k).all λ(r:Nat)=>decide (Ap p (dg p.bU r)≠[])||decide (dg p.dj r=0))=D) _ ⟨.cL,Z⟩ (λk o d ρ y y2 T=>fw y2 λaB aG=>?_) λo d F=>?_
 .refine cK (H.2 k _<|aV<|aE▸y) λσ r1 P=>?_;have hko:=aV<|j▸y;have er:σ=Ap p (dg p.bU k):=by
   rw [zX,bz,hko]at r1;clear P;exact bL (pP<|aJ r1)<|rr (r7 hko) Z
  refine dv (aB _ _ hl2) ((kq ..).trans<|(bz ..).trans<|aH (qP V.S)<|aV<|aE▸y) ?_;intro r hr;refine ae1 (N.dF hr<|aB _ _ P) (N.aM ..)<|have e:=aB.e0 hr (C:=.cQ []);?_;clear r1 P;induction σ with
  |cons z zs=>exact T _ _ ⟨e,sG aG<|oB<|.inl<|aN<|er▸(λh=>nq ek h ff)⟩
  |nil=>
   refine d9 (e _ _ G.h) Z Z<|dv (e _ _ G.b) (ft<|xs▸y) ?_;by_cases K:dg p.dj k=0
   .exact uO (nN K)<|T _ _ ⟨e,sG aG<|oB<|.inr<|aN K⟩
   .exact uN (m4 K)<|(q _<|(I.aU aZ).aU e).no<|jv<|yh y<|Bool.or_eq_false_iff.mpr ⟨bj λh=>h er.symm,bj K⟩
 .exact(q _<|(I.aU aZ).aU F.1).yes<|kT (kT i v) F.2
end
def EM(pre:aq)(many:Nat)(columns:Int)(least most:ao)(p:aq):R (kK×aq):=
 (nS (pre++rq) X X X p).bJ λa=>(nS (pre++rv) least most X a.2).bJ λb=>(nS (pre++rz) X X X b.2).bJ λc=>(nS (pre++oT) X X X c.2).bJ λd=>
 if kG ⟨a.1,b.1,c.1,d.1⟩ many columns then .ok (⟨a.1,b.1,c.1,d.1⟩,d.2)else .eA d.2
set_option genInjectivity false in
structure Fm where
 bp:aa
 cy:Int
 (dt dE d5:ar)
abbrev yj:aq:=[36,97,99,99,101,112,116]
noncomputable def jm:aa:=[[36,101,110,100],[101,114,114,111,114],[36,117,110,100,101,102,105,110,101,100]]
def zY(names:aa)(count:Int)(dt:ar):Bool:=decide (names.getD count.toNat []=yj)&&decide (dt≠[])&&decide (dg dt 0=count)&&decide (count∉dt.drop 1)
def pW(dE d5:ar)(m:Nat):Bool:=decide (dg dE 0=2)&&(dk m).all λ(r:Nat)=>decide (dg d5 r=0)||decide (dg dE r=0)
def Gv(p:aq):R (Fm×aq):=(zk vN p).bJ λa=>if a.1.take 3≠jm then .eA a.2 else(S5 mY 3 ((a.1.length:Int)-1) a.2).bJ λb=> (nS vO (O b.1) (O<|(a.1.length:Int)-1) X b.2).bJ λc=>if zY a.1 b.1 c.1=bk then .eA c.2 else (nS iE (O 0) X (O (c.1.length:Int)) c.2).bJ λd=>(nS ib (O 0) X (O (c.1.length:Int)) d.2).bJ λe=>if pW d.1 e.1 c.1.length then .ok (⟨a.1,b.1,c.1,d.1,e.1⟩,e.2)else .eA e.2
theorem Cp{w p:aq}{a:aa×aq}(h:zk w p=.ok a):a.1.length<=60:=by
 refine bo h λb c e=>?_;split at e
 .exact rl (R.ok.inj e)<|aD (cC<|aT ..)<|(oS c).2
 .exact nq Internal.R.ctorIdx e ff
theorem EN{a b:aa}(h:a.length=b.length):xD (bQ a) (bQ b)=O (decide (a=b)):=by
 induction a generalizing b with
 |nil=>exact rr (i' h.symm) Z
 |cons x r i=>
  induction b with
  |nil=>cases h
  |cons y s=>
   show(match Wy (.aQ x) (.aQ y),xD (bQ r) (bQ s)with|some p,O q=>O (p&&q)|_,_=>X)=_;exact rr (i<|eQ h)<|aH O<|rl (Bool.decide_and _ _)<|decide_eq_decide.mpr List.cons_eq_cons.symm
theorem ae2(a b:aa):(if(bQ a).length=(bQ b).length then xD (bQ a) (bQ b)else O bk)=O (decide (a=b)):=by
 refine rr (dI _)<|rr (dI _) ?_;by_cases h:a.length=b.length
 .exact rr (bI h)<|EN h
 .exact rr (bu h)<|aH O (bj λe=>h<|aH bW e).symm
theorem MZ(l:aa)(k:Nat):hU (bQ l) X (O (k:Int))=bQ (l.take k):=(vL ..).trans (xw ..).symm
theorem Le(l:List α):hU l (O 1) X=l.drop 1:=by
 induction l with
 |nil=>rfl
 |cons x r=>simp [hU,wm]
theorem Tv(l:ar):hU (bh l) (O 1) X=bh (l.drop 1):=(Le _).trans (Ho ..).symm
theorem ae3:xG 746=O (.aF<|bQ jm):=rfl
theorem abJ{x:a8}(h:Y x=O (.aF B))(a:xG y=O (.aF ys))(c:(if B.length=ys.length then xD B ys else O bk)=O b)(q:P (!b)):gX ((eqG x y Y).map (!·)) P:=by rw [eqG];refine rr h<|rr a ?_;dsimp only;exact rr c q
theorem XJ{l:aa}{i:Int}(a:0<=i)(b:i<l.length):mO (bQ l) i=O (.aQ<|l.getD i.toNat []):=by refine zp a λk z=>?_;obtain rfl:=z;have h:=aV<|zI b;refine bL (kq _ _) ?_;rw [bQ];refine bL (bz)<|rr h<|?_;exact aH (λo=>O<|V.aQ<|Z4 o []) h.symm
section
variable{E:Ex} {r:a8} {p w:aq}
theorem zZ(W:WA g)(f:90<=n)(K:MN args.length 2 6=D)(vs:args++[V.bR,V.bR].drop (args.length-4)=[.S r,.aQ pre,.aL many,.aL columns,qW least,qW most])(t:pre.length<=800) (h:Rd Y r c T p ln) (H:fH r c T E (ln+1+1+1+1) (λp u=>∀v,qX u v p->Q v u) Y (EM pre many columns least most p)):bE ⟨g,X,n⟩ (.S 761) args Y Q E:=by
 have z:∀{b:aq},gh b.length 100=D->pre.length+b.length<=cE:=λk=>DK (aD t dc)<|aD (aK k) dc;have j:∀{b:aq},gh b.length 100=D->(pre++b).length<=900:=λk=>by refine rr (aY) ?_;exact cV t<|aK k
 refine(W.d 56 Z).Ii (args':=[.S r,.aQ pre,.aL many,.aL columns,qW least,qW most]) W (r1 f Z) K vs<|fR h Z Z ⟨z Z,?_⟩;refine kD W (least:=X) (most:=X) (many:=X) (rm f Z) Z Z (j Z) h<|H.gV .cL λa1 j8 e1 w y H v1 M=>?_;refine fR w Z Z ⟨z Z,?_⟩;refine kD W (least:=least) (most:=most) (many:=X) (rm f Z) Z Z (j Z) w<|H.gV y λaZ qR e2 A f2 H v2 aB=>?_;have l:=y.aU f2;refine fR A Z Z ⟨z Z,?_⟩;refine kD W (least:=X) (most:=X) (many:=X) (rm f Z) Z Z (j Z) A<|H.gV l λP Df R xs C H v3 aE=>?_;refine fR xs Z Z ⟨z Z,?_⟩;refine kD W (least:=X) (most:=X) (many:=X) (rm f Z) Z Z (j Z) xs<|H.gV (l.aU C) λaG DN σ h4 aO H v4 i4=>?_;have m:=C.aU aO;refine yf W (p:=⟨a1.1,aZ.1,P.1,aG.1⟩) (rm f Z) (M.fr<|f2.aU m) (aB.fr m) (aE.fr aO) i4 λv5 Qp F i=>?_;obtain⟨x,rfl,i⟩:=i;refine i.m_ Z Z<|abI W (rm f Z) i (aD ((ke σ).2.2) dc) (aD ((ke R).2.2) dc) λG o s I=>have q:=h4.dq<|F.aU o;have ρ:Fr Y G:=(l.aU m).aU (F.aU o).fr;?_;induction s with
 |nil=>exact(H.De<|I.mp Z) G q ρ _<|bX x Z<|i.f2 o.fr.f2
 |cons a s=>
  exact fR q Z Z<|mw W (rm f Z) q ρ<|H.Cd λe=>nq ek (I.mpr e) ff
theorem Gw(W:WA g)(j:100<=n)(h:Rd Y r c T p ln)(H:fH r c T E (ln+1+1+1+1+1) (λa t=>∀nm lf le aO,TL t nm a.bp->IL t lf a.dt->IL t le a.dE->IL t aO a.d5->Q (.bD [nm,.aL a.cy,lf,le,aO]) t) Y (Gv p)):bE ⟨g,X,n⟩ (.S 775) [.S r] Y Q E:=by
 refine W.e 58 j Z Z Z<|fR h Z Z<|XA W (rm j Z) dc h<|H.gV .cL λa j8 e1 F u H v l1=>?_;refine cK (id l1) λx z hx=>?_;obtain rfl:=z;have za:=Cp e1;refine zS hx λs hs=>have B:=bH.cu (C:=.aF<|hU (bQ a.1) X<|O 3) hs;have hs1:=N.aM j8 s<|.aF<|hU (bQ a.1) X<|O 3;have u:=u.aU B.fr;?_;generalize j8.aX s (.aF<|hU (bQ a.1) X<|O 3)=j8 at*;refine abJ hs1 ae3 (b:=decide (a.1.take 3=jm)) (rr (show hU (bQ a.1) X (O 3)=_ from MZ a.1 3)<|ae2 ..) ?_;by_cases G:a.1.take 3=jm
 case neg=>
  exact qw (m4 G)<|fR (F.dq B) Z Z<|mw W (rm j Z) (F.dq B) u<|H.De G
 replace H:=H.Cd<|not_not_intro G;refine t6 (nN G)<|fR (F.dq B) Z Z<|ei (B _ _ hx) (dI _)<|aeW W (rm j Z) dc (F.dq B)<|H.gV u λb qR e2 h2 f2 H b1 b2=>?_;have f2':=u.aU f2;have hx2:=f2 _ _ (B _ _ hx) Z;refine fR h2 Z Z<|ei hx2 (dI _)<|kD W (least:=O b.1) (most:=O<|(a.1.length:Int)-1) (many:=X) (rm j Z) Z Z dc h2<|H.gV f2' λf Df e3 q f3 H v3 l3=>?_;have f3':=f2'.aU f3;refine IL.e l3 λy A=>have I:zY a.1 b.1 f.1=bk->∀{w:aq} {DN:N} {Q:aj},bH Df DN->bE ⟨g,X,n-1⟩ (.S 652) [.S r,.aQ w] DN Q E:=λhb U U U d=>mw W (rm j Z) (q.dq d) (f3'.aU d.fr)<|H.De hb;dv (f3 _ _ hx2 Z) (XJ (by lia)<|by lia) ?_;by_cases K:a.1.getD b.1.toNat []=yj
 case neg=>
  exact zU (m4 K)<|fR q Z Z<|I (e7<|e7<|e7<|bj K) .cL
 refine rp (nN K) ?_;intro s2 hs2;have d:=bH.cu (C:=.aF []) hs2;refine Xs (d _ _ A) (N.aM ..) (Co _)<|tU (λxs=>?_) λxs=>?_
 .exact fR (q.dq d) Z Z<|I (e7<|e7<|jv<|bj<|not_not_intro xs) d
 refine dv (d _ _ A) (ft (i:=0)<|List.length_pos_iff.mpr xs) ?_;by_cases vs:dg f.1 0=b.1
 case neg=>
  exact zU (m4 vs)<|fR (q.dq d) Z Z<|I (e7<|jv<|bj vs) d
 refine rp (nN vs)<|zS (d _ _ A) λs3 hs3=>have l:=d.e0 (C:=.aF<|hU (bh f.1) (O 1) X) hs3;Zr (N.aM ..) (b:=decide (b.1∈f.1.drop 1)) (rr (Tv _)<|OX ..) ?_;generalize(Df.aX s2<|.aF []).aX s3 (.aF<|hU (bh f.1) (O 1) X)=DN at*;refine tU (λg5=>?_) λg5=>?_
 .exact fR (q.dq l) Z Z<|I (jv<|bj<|not_not_intro g5) l
 replace H:=H.Cd<|rr (show zY a.1 b.1 f.1=D from kT (kT (kT (aN K)<|aN xs)<|aN vs) (aN g5)) dc;refine fR (q.dq l) Z Z<|ei (l _ _ A) (cZ _)<|kD W (least:=O 0) (most:=X) (many:=O (f.1.length:Int)) (rm j Z) Z Z dc (q.dq l)<|H.gV (f3'.aU l.fr) λM Qp e5 h5 f5 H v5 aZ=>?_;have f5':=(f3'.aU l.fr).aU f5;have y5:=f5 _ _ (l _ _ A) Z;refine fR h5 Z Z<|ei y5 (cZ _)<|kD W (least:=O 0) (most:=X) (many:=O (f.1.length:Int)) (rm j Z) Z Z dc h5<|H.gV f5' λa6 DO e6 aB P H v6 l6=>?_;have f6':=f5'.aU P;have y6:=P _ _ y5 Z;replace aZ:=aZ.fr P;refine IL.x aZ λle z hle=>?_;obtain rfl:=z;refine IL.x l6 λaO z hbf=>?_;obtain rfl:=z;have zd:=ij<|(ke e5).1 _ Z;have ae4:pW M.1 a6.1 f.1.length=bk->∀{w:aq} {Q:aj},bE ⟨g,X,n-1⟩ (.S 652) [.S r,.aQ w] DO Q E:=λhb U U=>mw W (rm j Z) aB f6'<|H.Cd<|rr hb dc;refine dv hle (ft (i:=0)<|zd▸List.length_pos_iff.mpr xs) ?_;by_cases R:dg M.1 0=2
 case neg=>
  exact qw (m4 R)<|fR aB Z Z<|ae4<|e7<|bj R
 refine t6 (nN R)<|ei y6 (cZ _)<|mj (aD ((ke e3).2.2) dc)<|KZ (m:=f.1.length) (λo=>[O<|.S r,O<|.S x,O<|.aL b.1,O<|.S y,O<|.S le,O<|.S aO,o]) (λk U=>((dk k).all λ(r:Nat)=>decide (dg a6.1 r=0)||decide (dg M.1 r=0))=D) _ Z (λk o ρ hk aE hJ=>?_) λo aE=>?_
 .refine dv hbf (ft<|(ij<|(ke e6).1 _ Z)▸hk) ?_;by_cases aG:dg a6.1 k=0
  .exact uO (nN aG)<|hJ _<|sG aE<|oB<|.inl<|aN aG
  refine uN (m4 aG)<|dv hle (ft<|zd▸hk) ?_;by_cases σ:dg M.1 k=0
  .exact uO (nN σ)<|hJ _<|sG aE<|oB<|.inr<|aN σ
  exact uN (m4 σ)<|fR aB Z Z<|ae4<|jv<|yh hk<|Bool.or_eq_false_iff.mpr ⟨bj aG,bj σ⟩
 .exact(H.De<|kT (aN R) aE) DO aB f6' _ _ _ _ ((l1.fr B.fr).fr<|(f2.aU f3).aU<|l.fr.aU<|f5.aU P) (bX y Z y6) aZ l6
end
theorem Tw(p:kK)(o:Int):∀m,(uV p m o).Pairwise λa b=>a.1<b.1:=by
 intro l;induction l with
 |zero=>
  exact .nil
 |succ m i=>
  refine rr (tE _ _ _)<|ri (List.pairwise_append) ?_;refine dW i ?_ λa d b h=>?_
  .split
   .exact kQ ..
   .exact .nil
  refine hV (sH d) λc f e U=>?_;split at h
  .cases ms h;exact rr e<|Int.sub_lt_sub_right (it f) _
  .cases h
theorem Tz(p:kK)(o:Int)(m:Nat):(uV p m o).length<=m:=aD (cC (aT (f:=λq:Int×Int=>(KK.i q.1,V.aL q.2))).symm) EK
theorem sI{q:Int×Int}(h:row.Pairwise (λa b=>a.1<b.1))(c:q∈row):ni (r9 row) (.i q.1)=O (.aL q.2):=by
 induction row with
 |nil=>cases c
 |cons p r d=>
  replace h:=List.pairwise_cons.mp h;show(if KK.i p.1=KK.i q.1 then O (V.aL p.2)else ni (r9 r) (.i q.1))=_;exact bV (mc c) (λe=>rr e<|bI Z) λc=>bL (bu λe=>nZ (h.1 q c)<|KK.i.inj e)<|d h.2 c
theorem sJ(r:af):(r9 r).map (·.1)=(r.map (·.1)).map KK.i:=by rw [r9];refine bL (eE)<|rr (eE) ?_;rfl
theorem TA{x:Int}(h:(jY l)[k]?=O x):x∈l:=(iD l).mem_iff.mp<|aW h
theorem XK{a b:Int×Int}(h:row.Pairwise (λa b=>a.1<b.1))(f:a∈row)(g:b∈row)(e:a.1=b.1):a=b:=by
 induction row with
 |nil=>cases f
 |cons p r i=>
  replace h:=List.pairwise_cons.mp h;refine bV (mc f) (λc=>?_) λc=>?_<;>refine bV (mc g) (λd=>?_) λd=>?_
  .exact c.trans d.symm
  .exact cM (c▸e)<|nZ<|h.1 b d
  .exact cM (d▸e.symm)<|nZ<|h.1 a c
  .exact i h.2 c d
theorem Zu{J:bw}{Q:VF->bw->N->Prop}{xs:V->bw->N->(VF->bw->N->Prop)->Prop}{x:a8}{ok:Int×Int->Bool}(s:row.Pairwise λa b=>a.1<b.1)(o:Y x=O (.aF (bh (jY (row.map (·.1))))))(I:bw->N->Prop)(t:∀eP c,I eP c->bH Y c) (u:I J Y) (h:∀q eP c ρ,q∈row->I eP c->(∀i j,ok q=D->I i j->ρ i j)->xs (.aL q.1) eP c (Ks Q ρ)) (w:∀eP c,row.all ok=D->I eP c->Q .eR eP c):t4 X xs Q J (.S x) Y:=by
 refine f_list o (λk eP c=>(∀y∈(jY (row.map (·.1))).take k,∃q∈row,q.1=y/\ok q=D)/\I eP c) ⟨nofun,u⟩ (λk eP c U h=>t _ _ h.2 _ _ o) ?_ ?_
 .intro k v eP c p l;refine fw l λg m=>?_;rw [bh,bz]at p;refine Fs p λy r=>mm (TA r) λq f A=>?_;induction A;refine h q eP c _ f m λi j n C=>⟨λz d=>?_,C⟩;rw [dK,r]at d;exact bV (ma d) (λd=>g z d) λd=>fW q f (ms d).symm n
 .intro eP c l;refine fw l λg m=>w eP c (al λq f=>?_) m;rw [cZ,dD]at g;refine hV (g q.1<|(iD _).mem_iff.mpr<|dm f) λE aO e n=>?_
  rwa [XK s aO f e]at n
noncomputable def kH(w' rules x:Int):Bool:=(decide (0<x)&&decide (x<w'))||(decide (-rules<x)&&decide (x<0))||decide (x=1048576)||decide (x=-1048576)
def pz(p:kK)(w' rules:Int):Bool:=(zX p).all λrow=>row.all λq=>kH w' rules q.2
theorem Gx{p:kK}(h:(zX p)[k]?=O row):row.Pairwise (λa b=>a.1<b.1)/\row.length<=p.bB.length:=by rw [zX,bz]at h;exact Fs h λo U=>⟨Tw p o _,Tz p o _⟩
noncomputable def ρA(r x:a8)(s u:Int)(o1 o2 o3 o4 o5:au):bw:=[O<|.S r,O<|.S x,O<|.aL s,O<|.aL u,o1,o2,o3,o4,o5]
variable{b7:Bool}
section
variable{E:Ex} {r x:a8} {q0:aq} {p:kK} {s u z:Int} {K:VF->bw->N->Prop} {o1 o2 o3 o4:au}
theorem Iy(h:Rd Y r c T q0 ln)(fl:kH s u z=bk->∀w Q,bE ⟨g,X,n⟩ (.S 652) [.S r,.aQ w] Y Q E){b8:Bool}(a:(b7||b8||decide (z=1048576)||decide (z=-1048576))=kH s u z)(b:kH s u z=D->K .eR (ρA r x s u o1 o2 (O<|.aL z) (O<|.du b7)<|O<|.du b8) Y):
 iy ⟨g,X,n⟩ (kU E) ((bd<|bd abf).drop 3) (ρA r x s u o1 o2 (O<|.aL z) (O<|.du b7)<|O<|.du b8) Y K:=by
 induction b7 with
 |true=>exact b a.symm
 |false=>
 induction b8 with
 |true=>exact b a.symm
 |false=>
 by_cases d:z=1048576
 .exact uO (nN d)<|b<|a.symm.trans<|rr (aN d) Z
 refine uN (m4 d) ?_;by_cases e:z=-1048576
 .exact uO (nN e)<|b<|a.symm.trans<|rr (aN e)<|acZ _
 exact uN (m4 e)<|fR h Z Z<|fl (a.symm.trans (by refine rr (bj d)<|bL (bj e) ?_;rfl)) _ _
theorem M0(h:Rd Y r c T q0 ln)(fl:kH s u z=bk->∀w Q,bE ⟨g,X,n⟩ (.S 652) [.S r,.aQ w] Y Q E)(b:b7=(decide (0<z)&&decide (z<s)))(d:kH s u z=D->∀o e,K .eR (ρA r x s u o1 o2 (O<|.aL z) o e) Y):
 iy ⟨g,X,n⟩ (kU E) ((bd<|bd abf).drop 2) (ρA r x s u o1 o2 (O<|.aL z) (O<|.du b7) o4) Y K:=by
 refine lL (λa=>?_) λa=>?_
 .exact Iy (b8:=decide (z<0)) h fl (by rw [kH];refine rr b<|rr (aN a) ?_;rfl) (d · _ _)
 .exact Iy (b8:=bk) h fl (by rw [kH];refine rr b<|rr (bj a) ?_;rfl) (d · _ _)
theorem Cs(W:WA g)(vs:20<=n)(h:Rd Y r c T q0 ln)(V:MX Y x p)(ok:XH p)(hz:p.bB.length<=60)(q:∀b,pz p s u=D->Rd b r c T q0 ln->bH Y b->Q .bR b) (e:pz p s u=bk->∀a b,TE Y ((T.length:Int)-q0.length) a b->E a () b):bE ⟨g,X,n⟩ (.S 782) [.S r,.S x,.aL s,.aL u] Y Q E:=by
 refine W.e 59 vs Z Z Z<|V.m_ Z Z<|qC W (rm vs Z) V ok λw j8 M aO=>fE aO λl hs aZ aG H=>rr aZ<|f_list aG (λk eP b=>(bH j8 b/\∀j f,j<k->(zX p)[j]?=O f->(f.all λq=>kH s u q.2)=D)/\∃aB o2 o3 o o5,eP=ρA r x s u aB o2 o3 o o5) (wO ⟨.cL,nofun⟩ X X X<|Bk X X Z) (λk eP b U h=>h.1.1 _ _ aG) ?_ ?_
 .intro k y eP xs A z;obtain⟨⟨m,P⟩,aB,o2,o3,o,o5,rfl⟩:=z;replace A:=(bz).symm.trans A;refine Fs A λd hd=>cK (H.2 k d hd) λf R σ=>fw (Gx R) λpw pl=>lz Z (m _ _ σ) (sJ f) (rr (aT _)<|cw (aD pl hz) dc) λi hi=>Zu pw (N.aM ..) (ok:=λq=>kH s u q.2) (λeP b=>bH (xs.aX i (.aF (bh (jY (f.map (·.1)))))) b/\∃o2 o3 o o5,eP=ρA r x s u (O<|.S d) o2 o3 o o5) (λU U h=>h.1) (wO .cL o2 o3 o<|yD o5 Z) ?_ ?_
  .clear hd A;intro z;obtain⟨kk,C⟩:=z;intro eP F ρ hq zy2;obtain⟨G,o2,o3,o,o5,rfl⟩:=zy2;intro hJ;have x23:bH xs F:=(bH.cu hi).aU G;have I:=M.aU<|m.aU x23;have fl:kH s u C=bk->∀w Q,bE ⟨g,X,n-1⟩ (.S 652) [.S r,.aQ w] F Q E:=λaE w Q=>xX W (rm vs Z) MJ (h.dq I) λa b t=>e (List.all_eq_false.mpr<|bX f (aW R)<|Bool.eq_false_iff.mp<|List.all_eq_false.mpr<|bX _ hq<|Bool.eq_false_iff.mp aE) a b<|t.g8 I.fr;have nxt:kH s u C=D->∀o7 o8,ρ (ρA r x s u (O<|.S d) (O<|.aL kk) (O<|.aL C) o7 o8) F:=λaE o7 o8=>hJ _ _ aE<|wO G _ _ _<|yD _ Z;exact B9 (x23 _ _<|m _ _ σ) (sI pw hq)<|lL (λa=>M0 (b7:=decide (C<s)) (h.dq I) fl (rr (aN a) Z) nxt) λa=>M0 (b7:=bk) (h.dq I) fl (rr (bj a) Z) nxt
  .clear hd A;intro eP F abK z;obtain⟨G,o2,o3,o,o5,rfl⟩:=z;refine wO ⟨m.aU<|(bH.cu hi).aU G,λj ahM v K=>?_⟩ _ _ _<|Bk _ _ Z;refine bV (Nat.lt_succ_iff_lt_or_eq.mp v) (λv=>?_) λaZ=>?_
   .exact P j ahM v K
   .obtain rfl:=aZ;replace K:=R.symm.trans K;exact rl (aJ K) abK
 .intro eP xs z;obtain⟨⟨m,P⟩,aB,o2,o3,o,o5,rfl⟩:=z;refine q xs (al λf ahN=>?_) (h.dq<|M.aU m)<|M.aU m;exact gi ahN λj v=>P j f (by refine rr (aT _)<|rr (H.1) ?_;exact gl v) v
end
theorem oa{p:kK}{c:Int}(h:kG p m c=D):Ck p m=D/\yg p c=D/\Tu p m=D:=
 have⟨a,b⟩:=an h;have⟨a,c⟩:=an a
 (dW a c b)
theorem fq{p:kK}{c:Int}(h:kG p m c=D):p.dj.length=m/\p.bU.length=m/\p.dp.length=p.bB.length:=
 have⟨h1,h2,_⟩:=oa h;have⟨a,b⟩:=an<|nL h1
 (dW (cR a) (cR b)<|cR<|nL<|nL h2)
theorem EO{p:kK}{cs:Int}(h:kG p m cs=D){c:Nat}(a:c<p.bB.length):uU p cs c=D:=la (nR (oa h).2.1) c (J9 a)
theorem Iz{p:kK}{cs:Int}(h:kG p m cs=D){r:Nat}(a:r<m):It p r=D:=la (nR (oa h).1) r (J9 a)
theorem IA{p:kK}{cs c:Int}(h:uU p cs c=D)(d:dg p.bB c≠0):0<=c-dg p.dj (dg p.bB c-1)/\c-dg p.dj (dg p.bB c-1)<cs:=ba ((Bool.or_eq_true_iff.mp<|nR h).resolve_left λe=>d<|aI e) λa b=>⟨aI<|nR a,aI b⟩
theorem zm{p:kK}{cs:Int}(h:kG p m cs=D)(f:row∈zX p){q:Int×Int}(g:q∈row):0<=q.1/\q.1<cs:=by refine mm f λo i z=>?_;obtain rfl:=z;refine gU (sH g) λc j e b U=>gi i λk d=>have l:=Iz h (r:=k)<|rl ((fq h).2.1)<|gl d;?_;have a:=IA (EO h j)<|rr b<|i5<|pR (r7 d▸aI (nL<|nL<|nL l):0<=o);replace a:=(eW _ _)▸b▸a;exact rr e a
theorem Ct{p:kK}{c:Int}(h:kG p m c=D)(z:p.bB.length<=1000)(a:p.bU.length<=1000):XH p:=Tt (oa h).1 (oa h).2.1 z a
noncomputable def oj(mask dflt:Int)(w':Nat):Bool:=decide ((mask=0)↔(dflt=-1))&&decide (mask.fdiv (2^w')=0)&&decide (dflt≠0)
noncomputable def pC(mask dflt:Int)(q:Int×Int):Bool:=decide (Ba (mask.fdiv<|2^q.1.toNat) 1≠0)&&decide (q.2≠dflt)&&decide (1<=q.2)
def nC(p:kK)(tv jw:ar)(w':Nat):Bool:=(dk jw.length).all λ(k:Nat)=>oj (dg jw k) (dg tv k) w'&&((zX p).getD k []).all (pC (dg jw k)<|dg tv k)
theorem nn:(0:Int)<=k:=bT k
noncomputable def ρG(r x y2 y3:a8)(st:Nat)(l:a8)(o1 o2:au):bw:=[O<|.S r,O<|.S x,O<|.S y2,O<|.S y3,O<|.aL st,O<|.S l,o1,o2]
section
variable{E:Ex} {r x y2 y3 l d:a8} {q0:aq} {p:kK} {st:Nat} {cs:Int} {tv jw:ar}
theorem TB(h:Rd Y r c T q0 ln)(hd:Y y2=O (.aF<|bh tv))(s:Y y3=O (.aF<|bh jw))(j:Y l=O (.aF<|hs.map .S))(m:mO (hs.map V.S) (k:Int)=O (.S d))(o:Y d=O (.cQ<|r9 row))(pw:row.Pairwise λa b=>a.1<b.1){q:Int×Int}(p:q∈row)(k0:0<=q.1)(t:k<jw.length) (u:k<tv.length) (fl:pC (dg jw k) (dg tv k) q=bk->∀w Q,bE ⟨g,X,n⟩ (.S 652) [.S r,.aQ w] Y Q E) {K:VF->bw->N->Prop} (v:pC (dg jw k) (dg tv k) q=D->K .eR (ρG r x y2 y3 st l (O<|.aL k)<|O<|.aL q.1) Y):
 iy ⟨g,X,n⟩ (kU E) (bd<|(bd<|aeC.drop 1).drop 2) (ρG r x y2 y3 st l (O<|.aL k)<|O<|.aL q.1) Y K:=by
 refine dv s (ft t) ⟨k0,?_⟩;refine tU (λe=>?_) λe=>?_
 .exact fR h Z Z<|fl (e7<|e7<|bj<|not_not_intro e) _ _
 refine dv j m<|B9 o (sI pw p)<|dv hd (ft u)<|tU (λf=>?_) λf=>?_
 .exact fR h Z Z<|fl (e7<|jv<|bj<|not_not_intro f) _ _
 exact dv j m<|B9 o (sI pw p)<|lL (λi=>fR h Z Z<|fl (jv<|bj<|wj i) _ _) λi=>v<|kT (kT (aN e)<|aN f)<|aN<|Ka i
theorem Gy(W:WA g)(P:20<=n){v2 v3:V}(h:Rd Y r c T q0 ln)(hp:MX Y x p)(hdf:IL Y v2 tv)(hma:IL Y v3 jw)(ok:kG p m cs=D)(z:p.bB.length<=60)(z2:m<=60)(l1:tv.length=m)(R:jw.length=m)(q:∀b,nC p tv jw st=D->Rd b r c T q0 ln->bH Y b->Q .bR b) (e:nC p tv jw st=bk->∀a b,TE Y ((T.length:Int)-q0.length) a b->E a () b):bE ⟨g,X,n⟩ (.S 789) [.S r,.S x,v2,v3,.aL st] Y Q E:=by
 refine cK hdf λy2 f aE=>rr f<|cK hma λy3 f C=>rr f<|W.e 60 P Z Z Z<|hp.m_ Z Z<|qC W (rm P Z) hp (Ct ok (aD z dc)<|rr ((fq ok).2.1)<|aD z2 dc) λw j8 F aO=>fE aO λl hs f hl H=>rr f<|ei (F _ _ C) (cZ _)<|mj (rr R<|aD z2 dc)<|ED (m:=jw.length) (λk eP b=>(bH j8 b/\∀j,j<k->(oj (dg jw j) (dg tv j) st&&((zX p).getD j []).all (pC (dg jw j)<|dg tv j))=D)/\∃aG o2,eP=ρG r x y2 y3 st l aG o2) (tQ ⟨.cL,nofun⟩ X X Z) (λU U U U=>MJ) ?_ ?_
 .intro k eP σ u v;obtain⟨⟨o,ha⟩,aG,o2,rfl⟩:=v;have s:=F.aU o;have h2:=h.dq s;have G:k<tv.length:=by refine rr l1<|rl R ?_;exact u
  have hlen:=H.1.trans<|(aT ..).trans (fq ok).2.1;have A:=aV (by refine rr hlen<|rl R ?_;exact u);have I:=(kq ..).trans<|(bz ..).trans<|aH (qP V.S) A;generalize hs[k]=d at A I;refine cK (H.2 k d A) λK vs ed=>fw (Gx vs) λpw pl=>?_;have eg:(zX p).getD k []=K:=by refine bL (bx)<|rr vs ?_;rfl
  have fl:(oj (dg jw k) (dg tv k) st&&K.all (pC (dg jw k)<|dg tv k))=bk->∀{b:N},bH Y b->∀w Q,bE ⟨g,X,n-1⟩ (.S 652) [.S r,.aQ w] b Q E:=λhb b x w Q=>xX W (rm P Z) MJ (h.dq x) λa b t=>e (yh u<|rr eg hb) a b<|t.g8 x.fr;refine dv (s _ _ C) (ft u)<|dv (s _ _ aE) (ft G) ?_;by_cases a1:(dg jw k=0↔dg tv k=-1)
  case neg=>
   exact qw (m4 λe=>a1<|decide_eq_decide.mp e)<|fR h2 Z Z<|fl (e7<|e7<|e7<|bj a1) s _ _
  refine t6 (nN<|decide_eq_decide.mpr a1)<|dv (s _ _ C) (ft u) ⟨nn,?_⟩;by_cases M:(dg jw k).fdiv (2^st)=0
  case neg=>
   exact zU (m4 M)<|fR h2 Z Z<|fl (e7<|e7<|jv<|bj M) s _ _
  refine rp (nN M)<|dv (s _ _ aE) (ft G)<|tU (λa3=>?_) λa3=>?_
  .exact fR h2 Z Z<|fl (e7<|jv<|bj<|not_not_intro a3) s _ _
  refine dv (o _ _ hl) I<|lz Z (o _ _ ed) (sJ K) (rr (aT _)<|cw (aD pl z) dc) λi aZ=>Zu pw (N.aM ..) (ok:=pC (dg jw k)<|dg tv k) (λeP b=>bH (σ.aX i (.aF (bh (jY (K.map (·.1)))))) b/\∃o2,eP=ρG r x y2 y3 st l (O<|.aL k) o2) (λU U h=>h.1) (rP .cL o2 Z) ?_ ?_
  .clear A;intro q eP Df ρ hq v;(refine xy v λy o2 f=>?_;refine rr f ?_);intro hJ;have aB:=s.aU<|(bH.cu aZ).aU y;exact TB (h.dq aB) (aB _ _ aE) (aB _ _ C) (((bH.cu aZ).aU y) _ _<|o _ _ hl) I (((bH.cu aZ).aU y) _ _<|o _ _ ed) pw hq (zm ok (aW vs) hq).1 u G (λho=>fl (jv<|List.all_eq_false.mpr<|bX _ hq<|Bool.eq_false_iff.mp ho) aB) λho=>hJ _ _ ho<|rP y _ Z
  .clear I A vs fl u G;intro eP Df abK v;obtain⟨y,o2,rfl⟩:=v;refine tQ ⟨o.aU<|(bH.cu aZ).aU y,λj xs=>?_⟩ _ _ Z;exact bV (Nat.lt_succ_iff_lt_or_eq.mp xs) (λxs=>ha j xs) λf=>rr f<|rr eg<|kT (kT (kT (aN a1)<|aN M)<|aN a3) abK
 .intro eP σ v;obtain⟨⟨o,ha⟩,aG,o2,rfl⟩:=v;exact q σ (al λj xs=>ha j<|mr_ xs) (h.dq<|F.aU o)<|F.aU o
end
abbrev Gz:aq:=[106,117,109,112]
abbrev qF:aq:=[117,110,108,101,115,115]
abbrev sL:aq:=[97,114,103]
abbrev my:aq:=[112,117,115,104]
abbrev EP:aq:=[103,101,116]
abbrev ER:aq:=[112,117,116]
abbrev ES:aq:=[116,119,111]
abbrev ET:aq:=[111,110,101]
abbrev Cv:aq:=[119,111,114,100]
abbrev nD:aq:=[115,101,116]
abbrev TC:aq:=[110,111,112,101]
abbrev TF:aq:=[121,121,101,114,114,111,107]
noncomputable def Zv(op:aq)(m x:Int):ai:=if op=Gz\/op=qF then O (decide (0<=x)&&decide (x<=m))else if op=sL then O (decide (1<=x))else if op=my then O D else if op=nD then O bk else X
noncomputable def Zw(op s:aq):ai:=if op=my then O D else if op=EP\/op=ER then O (decide (s≠[]))else if op=ES then(if s=[43]then O D else X)else if op=ET then(if s=[45]then O D else X)else if op=Cv then(if s=TF then O D else X)else X
noncomputable def Zx(op:aq):ai:=if op=nD then O D else if op=TC then O bk else X
def tV(op:aq)(v:V)(m:Int):ai:=match v with
 |.aL x=>Zv op m x
 |.aQ s=>Zw op s
 |.bR=>Zx op
 |_=>X
noncomputable def wC(op:aq):Int×Int:=if op=my\/op=sL\/op=EP then(0,1)else if op=nD\/op=ER\/op=qF then(1,0)else if op=ES then(2,1)else if op=ET then(1,1)else(0,0)
noncomputable def uW(op:aq)(v:V)(at_:Int):ar:=match v with
 |.aL x=>if op=Gz then [x]else if op=qF then [at_+1,x]else [at_+1]
 |_=>[at_+1]
noncomputable def sM(cs:List (aq×V)):aw:=cs.map λc=>.bD [.aQ c.1,c.2]
section
variable{E:oZ} {J:bw} {Q:VF->bw->N->Prop}
def ahO(Γ:mM)(E:oZ)(C:a8)(x:Nat)(hb:av)(Q:VF->bw->N->Prop)(ea:a8)(J:bw)(Y:N):Prop:=∃C' dx at_ cx tb,Y ea=O (.fg C' dx at_ cx tb)/\Kn C' C=D/\
 iy ⟨Γ.g,O ea,Γ.n⟩ (λe J Y=>E e (J.set x X) Y) hb (J.set x<|O<|.S ea) Y λfl J Y=>Q fl (J.set x X) Y
theorem ae5{x:Nat}{body hb:av}(h:Γ.hd=X)(q:iy Γ (ahO Γ E C x hb Q) body J Y Q):vcS Γ E (.Ed body C x hb) J Y Q:=⟨h,q⟩
end
inductive PC(m:Int):aq->V->Bool->Prop where
 |ae6 (x:Int):PC m Gz (.aL x) (decide (0<=x)&&decide (x<=m))
 |unl (x:Int):PC m qF (.aL x) (decide (0<=x)&&decide (x<=m))
 |arg (x:Int):PC m sL (.aL x) (decide (1<=x))
 |Zy (x:Int):PC m my (.aL x) D
 |M1 (s:aq):PC m my (.aQ s) D
 |nu (s:aq):PC m EP (.aQ s) (decide (s≠[]))
 |iV (s:aq):PC m ER (.aQ s) (decide (s≠[]))
 |El:PC m ES (.aQ [43]) D
 |BM:PC m ET (.aQ [45]) D
 |word:PC m Cv (.aQ TF) D
 |ahP (x:Int):PC m nD (.aL x) bk
 |aaC:PC m nD .bR D
 |ahQ:PC m TC .bR bk
theorem so{c:Prop} [Decidable c]{x y:Option α}{b:α}{P:Prop}(h:ite c x y=O b)(t:c->x=O b->P)(e:y=O b->P):P:=(Decidable.em c).elim (λd=>t d<|(bI d).symm.trans h) λd=>e<|(bu d).symm.trans h
theorem O3{m:Int}{o op:aq}{w v:V}{u:Bool}(h:PC m o w u)(d:v=w)(c:op=o)(e:O u=O b):PC m op v b:=c▸d▸aJ e▸h
theorem Zz{op:aq}{v:V}{m:Int}(h:tV op v m=O b):PC m op v b:=by
 have no {P:Prop} (h:(X:ai)=O b):P:=nq aP h ff;cases v with
 |aL x=>exact so (show Zv op m x=O b from h) (λc e=>c.elim (λc=>O3 (.ae6 x) Z c e) λc=>O3 (.unl x) Z c e) λh=>so h (O3 (.arg x) Z) λh=>so h (O3 (.Zy x) Z) λh=>so h (O3 (.ahP x) Z) no
 |aQ s=>exact so (show Zw op s=O b from h) (O3 (.M1 s) Z) λh=>so h (λc e=>c.elim (λc=>O3 (.nu s) Z c e) λc=>O3 (.iV s) Z c e) λh=>so h (λc h=>so h (λd=>O3 .El (aH V.aQ d) c) no) λh=>so h (λc h=>so h (λd=>O3 .BM (aH V.aQ d) c) no) λh=>so h (λc h=>so h (λd=>O3 .word (aH V.aQ d) c) no) no
 |bR=>exact so (show Zx op=O b from h) (O3 .aaC Z) λh=>so h (O3 .ahQ Z) no
 |_=>exact no h
section
variable{E:Ex}
theorem O4(W:WA g)(c:3<=n){op:aq}{v:V}{m:Int}(h:PC m op v b)(q:Q (.du b) Y):bE ⟨g,X,n⟩ (.S 588) [.aQ op,v,.aL m] Y Q E:=by
 refine W.e 35 c Z Z Z ?_;induction h with
 |ae6 x=>
  exact kz (Tx:="int") Z Z<|lL (p:=0<=x) (λa=>qB (Q:=Q) q<|rr (aN a) Z) λa=>qB (Q:=Q) q<|rr (bj a) Z
 |unl x=>
  exact kz (Tx:="int") Z Z<|lL (p:=0<=x) (λa=>qB (Q:=Q) q<|rr (aN a) Z) λa=>qB (Q:=Q) q<|rr (bj a) Z
 |arg x=>
  exact kz (Tx:="int") Z Z<|BZ q
 |Zy x=>exact B1 (Tx:="int") Z Z Z q
 |M1 x=>exact B1 (Tx:="str") Z Z Z q
 |nu x=>
  exact kz (Tx:="str") Z Z<|qB (Q:=Q) q (decide_not ..).symm
 |iV x=>
  exact kz (Tx:="str") Z Z<|qB (Q:=Q) q (decide_not ..).symm
 |_=>exact q
end
def AE(Y:N)(a:a8)(c8:N):Prop:=bH Y c8/\Y a=X/\∃dx w tb,c8 a=O (.fg 95 dx [(3,.aQ w),(4,.bR)] .none tb)
theorem AE.g8(x:bH Y c8)(h:AE c8 a qV):AE Y a qV:=dW (x.aU h.1) (fp x h.2.1) h.2.2
section
variable{E:Ex}
theorem yk(W:WA g)(k:6<=n){w:aq}(e:∀a d,AE Y a d->E a () d):bE ⟨g,X,n⟩ (.S 95) [.aQ w] Y (λv Y=>Kr X (λa Y=>E a () Y) v Y) E:=by
 refine Zo W (rm (kj k) Z) W.m95 Z Z Z Z Z λx dx r f m o=>MM o Z MJ (λU h U=>nq aP h ff) λp l=>e x p<|dW (λb aO i=>have j:=eG f i;l.Bu b aO j ((N.da _ _ j).trans<|m b aO i)) f ?_;refine n0 (l.fg) λC s u y tb t c z=>?_;obtain⟨q,-⟩:=z;replace c:=(N.aM _ _ _).symm.trans c;cases c
 exact Bm dx w t q
theorem XM(W:WA g)(a:3<=n){op:aq}{v:V}{m:Int}(h:PC m op v b)(q:Q (.bD [.aL (wC op).1,.aL (wC op).2]) Y):bE ⟨g,X,n⟩ (.S 581) [.aQ op,v] Y Q E:=by
 refine W.e 34 a Z Z Z ?_;induction h with
 |_=>exact q
theorem XN(W:WA g)(c:3<=n){x:a8}{cs:List (aq×V)}{op:aq}{v:V}{m:Int}(d:Y x=O (.aF<|sM cs))(a:cs[k]?=O (op,v))(h:PC m op v b)(q:∀r,Y r=X->Q (.S r) (Y.aX r<|.aF<|bh<|uW op v k)):bE ⟨g,X,n⟩ (.S 574) [.S x,.aL k] Y Q E:=by
 refine W.e 33 c Z Z Z<|dv (v:=.bD [.aQ op,v]) d ((kq ..).trans (by rw [sM];refine bL (bz)<|rr a ?_;rfl)) ?_;refine dW Z Z ?_;clear a;induction h with
 |_=>exact q
end
noncomputable def Cw(cs:List (aq×V)):Nat->ar->af->ai
 |0,_,_=>X
 |_+1,ds,[]=>O<|decide (dg ds cs.length<=0)
 |f+1,ds,(a,d)::w=>
  if 0<=a/\a<=cs.length then
   if 0<=dg ds a then(if dg ds a=d then Cw cs f ds w else O bk)
   else if a=cs.length then Cw cs f (ds.set a.toNat d) w
   else match cs[a.toNat]? with
    |none=>X
    |some c=>if d<(wC c.1).1 then O bk else Cw cs f (ds.set a.toNat d) (((uW c.1 c.2 a).map λx=>(x,d-(wC c.1).1+(wC c.1).2)).reverse++w)
  else X
def TG(cs:List (aq×V)):ai:=if cs.all λc=>(tV c.1 c.2 cs.length).isSome then O (cs.all λc=>tV c.1 c.2 cs.length==O D)else X
def qG(cs:List (aq×V)):ai:=match TG cs with
 |some D=>Cw cs 50 (bg (cs.length+1)<|-1) [(0,0)]
 |x=>x
theorem XO{i:Int}{x:Int}(h:0<=i)(a:i<m):dg (bg m x) i=x:=by refine bL (bx)<|rr (kM)<|rr (bI<|by lia) ?_;rfl
theorem qk(l:ar)(k:Nat)(x:Int):(bh l).set k (.aL x)=bh (l.set k x):=List.map_set.symm
theorem yl{x:a8}{v:V}(h:Y x=O (.aF B))(a:k<B.length)(e:B.set k v=ys)(q:aE (Y.aX x<|.aF ys)):nj x (.aL k) v Y aE:=by subst e;exact zi h nn (it a) q
theorem TH(l:aw):(if l.length=([]:aw).length then xD l []else O bk)=O (decide (l=[])):=by
 induction l with
 |nil=>rfl
 |cons y r=>rfl
theorem GA(a d:Int)(w:af):fC ((a,d)::w).reverse=fC w.reverse++[.bD [.aL a,.aL d]]:=by refine rr (iH) ?_;rw [fC];refine rr (bN) ?_;rfl
theorem GB{cs:List (aq×V)}(h:qG cs=O b):(∀c∈cs,∃b',tV c.1 c.2 cs.length=O b')/\TG cs=O (cs.all λc=>tV c.1 c.2 cs.length==O D):=by
 have a:(cs.all λc=>(tV c.1 c.2 cs.length).isSome)=D:=Decidable.by_contra λn=>by
  unfold qG TG at h;replace h:=(bu n)▸h;exact nq aP h ff
 exact⟨λc d=>Option.isSome_iff_exists.mp<|la a c d,bI a⟩
theorem ae7{cs:List (aq×V)}(h:qG cs=O b){c:aq×V}(a:c∈cs)(e:tV c.1 c.2 cs.length=O bk):b=bk:=by have:=(GB h).2;rw [show(cs.all λc=>tV c.1 c.2 cs.length==O D)=bk from List.all_eq_false.mpr (bX c a (by rw [e];exact dc))]at this;unfold qG at h;rw [this]at h;exact rr (aJ h) Z
theorem abL{cs:List (aq×V)}(h:qG cs=O b)(a:∀(j:Nat) c,j<cs.length->cs[j]?=O c->tV c.1 c.2 cs.length=O D):Cw cs 50 (bg (cs.length+1)<|-1) [(0,0)]=O b:=by
 have:=(GB h).2;rw [show(cs.all λc=>tV c.1 c.2 cs.length==O D)=D from al λc e=>by
  refine gi e λj d=>?_;rw [a j c (gl d) d];rfl]at this
 unfold qG at h;replace h:=this▸h;exact h
theorem TJ{op:aq}{v:V}{k:Int}:(uW op v k).length<=2:=by
 cases v with
 |aL x=>exact iteInduction (motive:=λl:ar=>l.length<=2) (λU=>ej 1) λU=>iteInduction (motive:=λl:ar=>l.length<=2) (λU=>bO _) λU=>ej 1
 |_=>exact ej 1
theorem ae8{x:a8}{P:V×aw->Prop}(h:Y x=O (.aF B))(q:P (.eH "list.pop",[.S x])):gX (tZ x 51 Y) P:=by rw [tZ];exact rr h q
theorem ae9{x:a8}{P:V×aw->Prop}(h:Y x=O (.aF B))(q:P (.eH "list.extend",[.S x])):gX (tZ x 52 Y) P:=by rw [tZ];exact rr h q
structure CI(Y:N)(dr wr:a8)(cs:List (aq×V))(b:Bool)(f:Nat)(ds:ar)(w:af)(c8:N):Prop where
 q:Cw cs f ds w=O b
 l:ds.length=cs.length+1
 z:w.length+2*f<=200
 x:bH Y c8
 d:c8 dr=O (.aF<|bh ds)
 w:c8 wr=O (.aF<|fC w.reverse)
noncomputable def ρC(x:a8)(o1 o2:au)(dr wr:a8)(o5 o6 o7:au):bw:=[O<|.S x,o1,o2,O<|.S dr,O<|.S wr,o5,o6,o7]
variable{o5:au}
section
variable{E:Ex}
theorem EU(h:m<=1000):m<=1000000/\(eF m).length<=1000:=⟨aD h dc,aD (n'<|aD h dc) dc⟩
theorem XQ(W:WA g)(xs:10<=n){x dr wr:a8}{cs:List (aq×V)}{f:Nat}{ds:ar}{at_ d:Int}{w:af}{o1 o2 o6:au}(aO:Y x=O (.aF<|sM cs))(hz:cs.length<=20)(ha:∀(j:Nat) c,j<cs.length->cs[j]?=O c->tV c.1 c.2 cs.length=O D)(e:b=bk->∀a p,AE Y a p->E a () p) (i:CI Y dr wr cs b (f+1) ds ((at_,d)::w) j8) (K:dr≠wr) (hdr:Y dr=X) (hwr:Y wr=X) {Q':VF->bw->N->Prop} {I:bw->N->Prop} (q:∀ds w o1 o2 o5 o6 o7 p,CI Y dr wr cs b f ds w p->I (ρC x o1 o2 dr wr o5 o6 o7) p):
 iy ⟨g,X,n-1⟩ (kU E) (bd<|aez.drop 3) (ρC x o1 o2 dr wr o5 o6 o7) j8 (Ks Q' I):=by
 have o:=i.q;have hwz:w.length+1+2*(f+1)<=200:=i.z;have hw0:=i.w;by_cases F:0<=at_/\at_<=cs.length
 case neg=>exact nq aP ((bu F).symm.trans o) ff
 replace o:=(bI F).symm.trans o;refine zp F.1 λm o9=>?_;obtain rfl:=o9;have vs:=li F.2;have u:m<ds.length:=i.l▸jx vs;have G:m<=1000:=aD vs<|aD hz dc;refine ae8 ((GA _ _ _)▸hw0) ?_;refine aeo ((GA _ _ _)▸hw0) ?_;refine dW Z Z ?_;have M:bH Y (j8.aX wr<|.aF<|fC w.reverse):=i.x.aX hwr;have H:=(N.da j8 (.aF<|fC w.reverse) K).trans i.d;have hw3:=N.aM j8 wr<|.aF<|fC w.reverse;generalize j8.aX wr (.aF<|fC w.reverse)=qR at*;refine dv H (ft u) ?_;refine lL (λaZ=>?_) λaZ=>?_
 .replace o:=(bI aZ).symm.trans o;refine dv H (ft u) ?_;by_cases r:dg ds m=d
  .replace o:=(bI r).symm.trans o;exact t6 (nN r)<|q ds w _ _ _ _ _ _ ⟨o,i.l,by lia,M,H,hw3⟩
  .clear i q;obtain rfl:=aJ<|(bu r).symm.trans o;refine qw (m4 r) ?_;refine qi (EU G).1 ?_;exact⟨DK (aK rfl) (EU G).2,yk W (rm xs Z) λa p t=>e Z a p<|t.g8 M⟩
 replace o:=(bu aZ).symm.trans o;refine yl H (by refine rr (cZ _) ?_;exact u) (qk ..) ?_;have s:bH Y (qR.aX dr<|.aF<|bh<|ds.set m d):=M.aX hdr;have aB:=(N.da qR (.aF<|bh<|ds.set m d) K.symm).trans hw3;have hd4:=N.aM qR dr<|.aF<|bh<|ds.set m d;generalize qR.aX dr (.aF<|bh<|ds.set m d)=Df at*;refine ei (s _ _ aO) (aT ..:(sM cs).length=cs.length) ?_;refine lL (λr=>?_) λr=>?_
 .replace o:=(bI r).symm.trans o;exact q _ w _ _ _ _ _ _ ⟨o,List.length_set.trans i.l,by lia,s,hd4,aB⟩
 replace o:=(bu r).symm.trans o;have u:m<cs.length:=QE vs λe=>r<|aH Bf e;have A:cs[m]?=O cs[m]:=aV u;have P:=Zz<|ha m _ u A;generalize cs[m]=cc at A P;obtain⟨op,v⟩:=cc;replace o:=A▸(show((m:Int)).toNat=m from Z)▸o;have e2:mO (sM cs) (m:Int)=O (.bD [.aQ op,v]):=(kq ..).trans (by rw [sM];refine bL (bz)<|rr A ?_;rfl);refine dv (s _ _ aO) e2 ?_;refine dv (s _ _ aO) e2 ?_;refine XM W (rm xs Z) P ?_;refine dW Z Z ?_;replace o:(if d<(wC op).1 then O bk else Cw cs f (ds.set m d) (((uW op v m).map λx=>(x,d-(wC op).1+(wC op).2)).reverse++w))=O b:=o;refine lL (λQ=>?_) λQ=>?_
 .clear i q;obtain rfl:=aJ<|(bI Q).symm.trans o;refine qi (EU G).1 ?_;exact⟨DK (aK rfl) (EU G).2,yk W (rm xs Z) λa p t=>e Z a p<|t.g8 s⟩
 replace o:=(bu Q).symm.trans o;refine ae9 aB ?_;refine XN W (rm xs Z) (s _ _ aO) A P λR aE=>?_;have x4:=s.e0 aE (C:=.aF<|bh<|uW op v m);have hw5:=N.dF (C:=.aF<|bh<|uW op v m) aE aB;have hd5:=N.dF (C:=.aF<|bh<|uW op v m) aE hd4;have ρ:=N.aM Df R<|.aF<|bh<|uW op v m;have ZA:(uW op v m).length<=2:=TJ;generalize Df.aX R (.aF<|bh<|uW op v m)=DN at*;generalize uW op v m=gs at*;refine zh (hd:=X) (it:=.S R) (B:=bh gs) (jD ρ) (λk T aG=>T=fC ((gs.take k).map λx=>(x,d-(wC op).1+(wC op).2))/\aG=DN) ⟨Z,Z⟩ (λU U U U h=>jE (by refine rr (h.2) ?_;exact ρ)) ?_ ?_
 .clear ρ;clear hd5 hw5 i q x4;intro k y T aG hy σ;obtain⟨rfl,rfl⟩:=σ;rw [bh,bz]at hy;refine Fs hy λz hk=>?_;refine⟨?_,Z⟩;refine rr (dK)<|rr hk<|rr (bN) ?_;rw [fC,fC];refine rr (bN) ?_;rfl
 .clear ρ;intro T aG σ;obtain⟨rfl,rfl⟩:=σ;intro r3 hr3;refine rr (cZ _)<|rr (dD) ?_;refine Ss (N.dF hr3 hw5) (N.aM ..) (by rw [fC,fC];refine rr (aT _)<|rr (aT _)<|rr (aT _)<|rr (NW) ?_;lia) ?_;refine q _ _ _ _ _ _ _ _ ⟨o,List.length_set.trans i.l,?_,(x4.e0 hr3).aX hwr,(N.da _ _ K).trans<|N.dF hr3 hd5,(N.aM ..).trans ?_⟩
  .refine rr (aY)<|rr (NW)<|rr (aT _) ?_;lia
  .refine rr (List.reverse_append)<|rr (List.reverse_reverse _) ?_;exact aH (O∘cP.aF) List.map_append.symm
theorem GC(W:WA g)(G:10<=n){x:a8}{cs:List (aq×V)}(s:Y x=O (.aF<|sM cs))(aB:cs.length<=20)(h:qG cs=O b)(q:b=D->∀m,bH Y m->Q .bR m)(e:b=bk->∀a m,AE Y a m->E a () m):bE ⟨g,X,n⟩ (.S 593) [.S x] Y Q E:=by
 refine W.e 36 G Z Z Z<|abi s (λk eP m=>(m=Y/\∀(j:Nat) c,j<k->cs[j]?=O c->tV c.1 c.2 cs.length=O D)/\∃u o2,eP=[O<|.S x,u,o2,X,X,X,X,X]) (tQ ⟨Z,nofun⟩ _ _ Z) (λk eP m U h=>h.1.1▸s) ?_ ?_
 .clear q;intro k v eP m P o;obtain⟨⟨rfl,A⟩,u,o2,rfl⟩:=o;rw [sM,bz]at P;refine Fs P λxs ρ=>?_;obtain⟨op,w⟩:=xs;refine ei s (aT ..:(sM cs).length=cs.length)<|ka ((GB h).1 _<|aW ρ) λb' R=>O4 W (rm G Z) (Zz R) ?_;clear P;clear s;induction b' with
  |true=>
   refine tQ ⟨Z,λj c K vs=>?_⟩ _ _ Z;clear e;refine bV (Nat.lt_succ_iff_lt_or_eq.mp K) (λK=>?_) λxs=>?_
   .exact A j _ K vs
   .induction xs;replace vs:=ρ.symm.trans vs;exact rl (aJ vs) R
  |false=>
   have σ:=EU<|aD (dH<|gl ρ)<|aD aB dc;exact qi σ.1 ⟨DK (aK rfl) σ.2,yk W (rm G Z)<|e<|ae7 h (aW ρ) R⟩
 intro eP m o;obtain⟨⟨rfl,A⟩,u,o2,rfl⟩:=o;replace A:=(aT ..:(sM cs).length=cs.length)▸A;have aO:=abL h A;refine ei s (aT ..:(sM cs).length=cs.length)<|mj (k:=cs.length+1) (aD (cg aB) dc)<|zh (hd:=X) (it:=.wk 0 ((cs.length+1:Nat):Int)) qh (λk aE F=>aE=bh (bg k<|-1)/\F=m) ⟨Z,Z⟩ (λU U U U U=>⟨trivial,MJ⟩) ?_ ?_
 .clear e A s q;intro k y aE F T o;obtain⟨rfl,rfl⟩:=o;replace T:=(bz).symm.trans T;exact om T λj K xs=>⟨by refine rr (wx) ?_;rw [bh,bh];refine rr (bN) ?_;rfl,Z⟩
 intro aE F o;obtain⟨rfl,rfl⟩:=o;intro dr hdr;refine rr (aT _)<|rr (et) ?_;intro H hwr;have aG:dr≠H:=eG hwr<|N.aM ..;have ae':F H=X:=by rwa [N.da _ _ aG.symm]at hwr
 refine OP (λf eP m=>∃I w u o2 o5 o6 M,eP=ρC x u o2 dr H o5 o6 M/\CI F dr H cs b f I w m)
  (n:=50) (sr _ _ _ _ _ _ _ ⟨Z,aO,ef,dc,(bH.cu hdr).aX ae',(N.da _ _ aG).trans<|N.aM ..,N.aM ..⟩) ?_
 intro f eP j8 o;(refine n4 o λI w u o2 o5 o6 M xs=>?_;obtain⟨rfl,i⟩:=xs);intro r aO;have aZ:=i.x.e0 (C:=.aF []) aO;refine Iu (N.dF aO i.w) (N.aM ..) (TH _)<|have i2:CI F dr H cs b f I w (j8.aX r<|.aF []):=⟨i.q,i.l,i.z,aZ,N.dF aO i.d,N.dF aO i.w⟩;?_;cases f with
 |zero=>exact nq aP (i.q) ff
 |succ f=>
 induction w with
 |nil=>
  exact t6 Z<|ei (aZ _ _ s) (aT ..:(sM cs).length=cs.length)<|dv i2.d (ft<|i.l▸dM _)<|lL (λg=>yk W (rm G Z) λa m t=>e ((aJ i.q).symm.trans<|bj<|wj g) a m<|t.g8 aZ) λg=>q ((aJ i.q).symm.trans<|aN<|Ka g) _ aZ
 |cons p w=>
  obtain⟨at_,d⟩:=p;refine qw (m4 λe=>?_) ?_
  .replace e:=(GA _ _ _).symm.trans e;exact dy _ _ (List.append_eq_nil_iff.mp e).2
  exact XQ W G s aB A e i2 aG hdr ae' λI w u o2 o5 o6 M m c=>⟨f,dM _,I,w,u,o2,o5,o6,M,Z,c⟩
end
noncomputable def xb:V->Option (aq×V)
 |.bD [.aQ a,v]=>O (a,v)
 |_=>X
noncomputable def nT:aw->Option (List<|aq×V)
 |[]=>O []
 |x::r=>match xb x,nT r with
  |some a,O l=>O<|a::l
  |_,_=>X
def pD:V->ai
 |.bR=>O D
 |.bD B=>match nT B with
  |none=>O bk
  |some cs=>if cs.length<=20 then qG cs else X
 |_=>O bk
theorem M3{v:V}{a:aq×V}(h:xb v=O a):v=.bD [.aQ a.1,a.2]:=by
 cases v with
 |bD B=>
  cases B with
  |nil=>exact nq aP h ff
  |cons x r=>
   cases x with
   |aQ s=>
    cases r with
    |nil=>cases h
    |cons y r=>
     induction r with
     |nil=>cases h;rfl
     |cons=>cases h
   |_=>exact nq aP h ff
 |_=>cases h
theorem M4(x:V)(r:aw):nT (x::r)=((xb x).bind λa=>(nT r).bind λl=>O<|a::l):=by
 show(match xb x,nT r with|some a,O l=>O (a::l)|_,_=>X)=_;induction xb x with
 |none=>rfl
 |some a=>cases nT r<;>rfl
theorem Cy{x:V}{r:aw}{cs:List (aq×V)}(h:nT (x::r)=O cs):∃a l,xb x=O a/\nT r=O l/\cs=a::l:=by
 replace h:((xb x).bind λa=>(nT r).bind λl=>O<|a::l)=O cs:=(M4 x r).symm.trans h;cases e1:xb x with
 |none=>replace h:=e1▸h;exact nq aP h ff
 |some a=>
  cases e2:nT r with
  |none=>replace h:=e2▸e1▸h;cases h
  |some l=>replace h:=e2▸e1▸h;exact rl (aJ h)<|fe a l Z Z Z
theorem TK:∀{B:aw} {cs:List (aq×V)},nT B=O cs->B=sM cs:=by
 intro b;induction b with
 |nil=>
  intro cs h;exact rl (aJ h) Z
 |cons x r i=>
  intro cs h;refine fE (Cy h) λa l e c z=>rr z<|rr (M3 e)<|rr (i c) ?_;rfl
theorem Lf{x:V}(h:x∈B)(e:xb x=X):nT B=X:=by
 cases e2:nT B with
 |none=>rfl
 |some cs=>
  induction B generalizing cs with
  |nil=>cases h
  |cons y r i=>
   refine fE (Cy e2) λa l b c z=>?_;clear e2
   rcases mc h with rfl|h
   .replace b:=e.symm.trans b;exact nq aP b ff
   .exact nq aP (i h l c) ff
theorem Lg(h:∀x∈B,∃a,xb x=O a):∃cs,nT B=O cs:=by
 induction B with
 |nil=>exact⟨[],Z⟩
 |cons y r i=>exact ka (i λx b=>h x<|di _ b) λcs e=>ka (h y<|bS ..) λa c=>⟨a::cs,rr (M4 y r)<|rr c<|rr e Z⟩
theorem IB{a:aq×V}(h:xb (.bD ys)=O a):ys=[.aQ a.1,a.2]:=V.bD.inj<|M3 h
theorem XR{l:List α}(h:l.length=2):∃x y,l=[x,y]:=by
 cases l with
 |nil=>cases h
 |cons x l=>
  induction l with
  |nil=>cases h
  |cons y l=>exact Bk x y<|aH (λl=>x::y::l)<|i'<|eQ<|eQ h
theorem EV{o:Option α}(h:∀a,o≠O a):o=X:=by
 induction o with
 |none=>rfl
 |some a=>exact cM Z<|h a
section
variable{E:Ex} {r:a8} {q0:aq}
theorem O5{y:V}{o3:au}(h:Rd Y r c T q0 ln)(i:oR 1 y=D)(b:xb y=X->∀{w:aq} {Q:aj},bE ⟨g,X,n⟩ (.S 652) [.S r,.aQ w] Y Q E){K:VF->bw->N->Prop}(ok:(∃a,xb y=O a)->K .eR [O<|.S r,O<|.bD B,O y,o3] Y):
 iy ⟨g,X,n⟩ (kU E) (bd<|aeD.drop 2) [O<|.S r,O<|.bD B,O y,o3] Y K:=by
 cases y with
 |bD f=>
  refine kz (Tx:="tuple") Z Z<|OD ?_;by_cases d:f.length=2
  case neg=>
   exact zU (m4 λe=>d<|ij e)<|fR h Z Z<|b<|EV λa e=>d<|rr (IB e) Z
  refine mK (XR d) λx z j=>?_;obtain rfl:=j;have k:=la i x<|bS ..;have no:Zq x=bk->xb (.bD [x,z])=X:=λh=>EV λa e=>by
   replace h:=((gg<|IB e).1)▸h;exact nq bP h ff
  clear d;clear i;cases x with
  |aQ s=>
   exact kz (Tx:="str") Z Z<|ok ⟨(s,z),Z⟩
  |bR=>
   exact kz (Tx:="NoneType") Z Z<|fR h Z Z<|b<|no Z
  |aL=>
   exact kz (Tx:="int") Z Z<|fR h Z Z<|b<|no Z
  |_=>exact nq bP k ff
 |bR=>
  exact kz (Tx:="NoneType") Z Z<|fR h Z Z<|b Z
 |aL=>
  exact kz (Tx:="int") Z Z<|fR h Z Z<|b Z
 |aQ=>
  exact kz (Tx:="str") Z Z<|fR h Z Z<|b Z
 |_=>cases i
theorem Lh{cs:List (aq×V)}(h:pD (.bD B)=O b)(e:nT B=O cs):cs.length<=20/\qG cs=O b:=by
 have h:(match nT B with|none=>O bk|some cs=>if cs.length<=20 then qG cs else X)=O b:=h;replace h:=e▸h;by_cases l:cs.length<=20
 .exact⟨l,(bI l).symm.trans h⟩
 .exact nq aP ((bu l).symm.trans h) ff
theorem O6(h:pD (.bD B)=O b)(e:nT B=X):b=bk:=by have h:(match nT B with|none=>O bk|some cs=>if cs.length<=20 then qG cs else X)=O b:=h;replace h:=e▸h;exact(aJ h).symm
theorem IC(W:WA g)(s:30<=n){v:V}(h:Rd Y r c T q0 ln)(z:oR 2 v=D)(f:pD v=O b)(q:b=D->∀w u d,bH Y d->sF d w u->kR u=v->Q w d) (e:b=bk->∀a d,TE Y ((T.length:Int)-q0.length) a d->E a () d):bE ⟨g,X,n⟩ (.S 796) [.S r,v] Y Q E:=by
 have p:b=bk->∀{w:aq} {Q:aj},bE ⟨g,X,n-1⟩ (.S 652) [.S r,.aQ w] Y Q E:=λf U U=>xX W (rm s Z) MJ h<|e f;refine W.e 61 s Z Z Z ?_;cases v with
 |bR=>exact q (aJ f).symm .bR X Y .cL (.inl ⟨Z,Z⟩) Z
 |aL x=>
  exact kz (Tx:="int") Z Z<|fR h Z Z<|p (aJ f).symm
 |aQ x=>
  exact kz (Tx:="str") Z Z<|fR h Z Z<|p (aJ f).symm
 |bD B=>
  have K:∀x∈B,oR 1 x=D:=la z;refine kz (Tx:="tuple") Z Z<|f_tup (B:=B) (λk eP d=>(d=Y/\∀(j:Nat) x,j<k->B[j]?=O x->∃a,xb x=O a)/\∃o,eP=[O<|.S r,O<|.bD B,o,X]) (rP ⟨Z,nofun⟩ _ Z) ?_ ?_
  .clear e z q;intro k y eP d A xs;obtain⟨⟨rfl,C⟩,o,rfl⟩:=xs;refine O5 h (K y<|aW A) (λvs=>p<|O6 f<|Lf (aW A) vs) λok=>rP ⟨Z,λj x i m=>?_⟩ _ Z;clear p;clear f;refine bV (Nat.lt_succ_iff_lt_or_eq.mp i) (λi=>?_) λM=>?_
   .exact C j x i m
   .obtain rfl:=M;replace m:=A.symm.trans m;exact rl (aJ m) ok
  .clear p;intro eP d xs;obtain⟨⟨rfl,C⟩,o,rfl⟩:=xs;refine ka (Lg (B:=B) λx m=>by
    exact gi m λj i=>C j x (gl i) i) λcs H=>?_
   refine fw (Lh f H) λaZ f=>ae5 Z<|Su λl I=>GC W (rm s Z) (b:=b) ((N.aM ..).trans<|rr (TK H) Z) aZ f (λaB P aO=>?_) λR a P t=>?_
   .exact Su λaE aG=>q aB _ (O B) _ (((bH.cu I:bH d (d.aX l<|.aF B)).aU aO).e0 aG) (.inr<|gk aE B Z Z (N.aM ..) z) Z
   .refine m7 t λaO hna σ=>xA σ λρ w tb F=>have G:=(bH.cu I:bH d (d.aX l<|.aF B)).aU aO;(vA 95 ρ _ .none tb F Z ?_);exact fR (h.dq G) Z Z<|Gg F Z Z<|xX W (rm s Z) (λea e=>by refine rl (aJ e) ?_;exact J8 95 ρ _ tb F) (h.dq G) λa' Df t=>e R a' Df<|t.g8 G.fr
 |_=>exact nq bP z ff
end
noncomputable def toCode:V->Option aw
 |.bD B=>O B
 |_=>X
theorem EW{v:V}(h:kR u=v):u=toCode v:=by subst h;induction u<;>rfl
noncomputable def fS:aw->ai
 |[]=>O D
 |v::r=>(pD v).bind λb=>if b then fS r else O bk
def TM(f:Fm)(d:ar)(a go:kK)(gd gm:ar)(p:aq):R (kg×List (Option<|aw)):=(mP vP p).bJ λc=>if c.1.length≠f.dt.length then .eA c.2 else match fS c.1 with
 |none=>.jc
 |some bk=>.eA c.2
 |some D=>(K9 18 c.2).bJ λU=>.ok (⟨f.bp,f.cy,f.dt,f.dE,f.d5,d,a,go,gd,gm⟩,c.1.map toCode)
def gJ(p:aq):R (kg×List (Option<|aw)):=
 ((xn w_head p).bJ<|xn [10]).bJ λp=>(Gv p).bJ λf=>(nS gE (O 0) (O<|(f.1.dt.length:Int)-1) X f.2).bJ λd=>if d.1=[]then .eA d.2 else
 (EM [] d.1.length f.1.cy X X d.2).bJ λa=>if pz a.1 d.1.length f.1.dt.length=bk then .eA a.2 else
 (nS jl (O<|-1) (O<|(d.1.length:Int)-1) (O<|(f.1.bp.length:Int)-f.1.cy) a.2).bJ λgd=>(nS lg X X (O<|(f.1.bp.length:Int)-f.1.cy) gd.2).bJ λgm=>
 (EM lV ((f.1.bp.length:Int)-f.1.cy).toNat d.1.length (O 0) (O<|(d.1.length:Int)-1) gm.2).bJ λgo=>if nC go.1 gd.1 gm.1 d.1.length=bk then .eA go.2 else
 TM f.1 d.1 a.1 go.1 gd.1 gm.1 go.2
theorem GD{p:Prop} [Decidable p]{x y:R α}{a:α}(h:(if p then x else y)=.ok a):p/\x=.ok a\/¬p/\y=.ok a:=by
 by_cases c:p
 .rw [bI c]at h;exact .inl ⟨c,h⟩
 .rw [bu c]at h;exact .inr ⟨c,h⟩
theorem M5{w:aq}{least most:Int}{p:aq}{a:Int×aq}(h:S5 w least most p=.ok a):least<=a.1/\a.1<=most:=by refine bo h λz e h=>?_;obtain⟨l,p⟩:=z;refine rl (R.ok.inj h)<|have l:=ke e;ka (List.length_eq_one_iff.mp<|ij (l.1 1 Z).symm) λy e=>?_;subst e;exact⟨(l.2.1 y<|List.mem_singleton.mpr Z).1 _ Z,(l.2.1 y<|List.mem_singleton.mpr Z).2 _ Z⟩
theorem O7{p:aq}{a:Fm×aq}(h:Gv p=.ok a):3<=a.1.cy/\a.1.cy<=(a.1.bp.length:Int)-1/\a.1.bp.length<=60/\a.1.dt.length<=60:=by refine bo h λb i h=>have h:=((GD h).resolve_left λx=>nq Internal.R.ctorIdx (x.2) ff).2;bo h λc g h=>bo h λd j h=>have h:=((GD h).resolve_left λx=>nq Internal.R.ctorIdx (x.2) ff).2;bo h λe z h=>?_;refine bo h λf z h=>?_;obtain rfl:=Internal.R.ok.inj ((GD h).resolve_right λx=>nq Internal.R.ctorIdx (x.2) ff).2;exact mT (M5 g).1 (M5 g).2 (Cp i) (ke j).2.2
theorem ID{p:aq}{a:kK×aq}(h:EM pre many columns least most p=.ok a):kG a.1 many columns=D/\a.1.bB.length<=60:=bo h λb U h=>bo h λc U h=>bo h λd g h=>bo h λe U h=>fw ((GD h).resolve_right λx=>nq Internal.R.ctorIdx (x.2) ff) λf h=>rl (R.ok.inj h) ⟨f,(ke g).2.2⟩
section
variable{r:a8} {E:Ex} {S1:Int} {K:α->N->Prop} {K':β->N->Prop}
theorem fH.go{x:R (β×aq)}{f:β×aq->R (α×aq)}(H:fH r c T E ln K Y (x.bJ f))(k:∀a b,x=.ok a->Rd b r c T a.2 S1->Fr Y b->fH r c T E ln K b (f a)->K' a.1 b):fH r c T E S1 K' Y x:=H.gV .cL λa b e h f H=>k a b e h f<|H.g8 f
theorem fH.unit{x:R Unit}{f:Unit->R (α×aq)}{K':Unit->N->Prop}(H:fH r c T E ln K Y (x.bJ f))(k:∀b,Rd b r c T [] S1->Fr Y b->fH r c T E ln K b (f ())->K' () b):fH r c T E S1 K' Y (x.bJ λu=>.ok (u,[])):=by
 induction x with
 |ok a=>exactλb h f=>k b h f<|H.g8 f
 |eA p=>exact H
 |jc=>exact H
end
theorem Cz{cs:aw}{x:V}(h:cs[k]?=O x)(a:fS cs=fS (cs.drop k)):fS cs=(pD x).bind λb=>if b then fS (cs.drop<|k+1)else O bk:=by refine gs h λc e=>rr a<|rr (fY c)<|rr e ?_;rfl
structure CD(Y:N)(cs acc:aw)(k:Nat)(c8:N):Prop where
 a:fS cs=fS (cs.drop k)
 x:bH Y c8
 l:acc.length=k
 c:∀(j:Nat) (w:V),acc[j]?=O w->∃u,(cs.map toCode)[j]?=O u/\sF c8 w u
theorem CD.jO{cs:aw}{x w:V}(i:CD Y cs acc k c8)(d:cs[k]?=O x)(g:pD x=O D)(f:bH c8 qR)(m:sF qR w u)(n:kR u=x):CD Y cs (acc++[w]) (k+1) qR:=by
 refine⟨by exact rr (Cz d i.a)<|rr g Z,i.x.aU f,by refine bL (aY)<|rr (i.l) ?_;rfl,λj o h=>?_⟩;by_cases b:j<acc.length
 .refine cK (i.c j o<|(fX b)▸h) λp q r=>?_;exact bX p q<|r.fr f.fr
 .replace h:=(eN<|gS b)▸h;have e:=Nat.lt_one_iff.mp<|gl h;replace h:=e▸h;refine rl (aJ h)<|rr (vr (wi e)<|gS b)<|rr (i.l) ?_;exact bX u (by refine bL (bz)<|rr d<|rr (EW n) ?_;rfl) m
variable{o4:au}
section
variable{E:Ex}
theorem ZC(h:((l.length:Nat):Int)=0):l=[]:=List.length_eq_zero_iff.mp<|ij h
def KP(T:aq)(Q:aj)(pc:kg×List (Option<|aw))(Y:N):Prop:=gJ T=.ok pc/\∀v w,iY Y v pc.1->jF Y w pc.2->Q (.bD [v,w]) Y
def abM(x:R α):R (α×aq):=x.bJ λa=>.ok (a,[])
structure Li(Y:N)(fm:Fm)(nm lf le bf:V):Prop where
 nm:TL Y nm fm.bp
 lf:IL Y lf fm.dt
 le:IL Y le fm.dE
 bf:IL Y bf fm.d5
 z:0<=fm.cy/\fm.cy<=fm.bp.length/\fm.bp.length<=60
theorem Li.fr{fm:Fm}{nm le:V}(h:Li Y fm nm lf le bf)(f:Fr Y c8):Li c8 fm nm lf le bf:=⟨h.nm.fr f,h.lf.fr f,h.le.fr f,h.bf.fr f,h.z⟩
section
variable{r:a8} {p:aq} {fm:Fm} {nm le go v9 v10:V} {dl gd gm:ar} {aR gR:kK}
theorem abN(W:WA g)(d:150<=n)(same:∀p cs,gJ T=.ok (p,cs)->qY p=D/\ya cs=D/\mG (Ao p cs)=T)(h:Rd Y r c T p 18)(F:Li Y fm nm lf le bf)(l:IL Y df dl)(m:qX Y ac aR)(o:qX Y go gR)(q:IL Y v9 gd)(s:IL Y v10 gm){cs:aw}{w:V}(t:jF Y w (cs.map toCode)){o3 o12 o14:au}(H:fH r c T E 19 (KP T Q) Y (((K9 18 p).bJ λU=>.ok ((⟨fm.bp,fm.cy,fm.dt,fm.dE,fm.d5,dl,aR,gR,gd,gm⟩:kg),cs.map toCode)).bJ λa=>.ok (a,[]))):
 iy ⟨g,X,n-1⟩ (kU E) (Xo.drop 18) [O<|.aQ T,O<|.S r,O<|.bD [nm,.aL fm.cy,lf,le,bf],o3,o4,o5,O df,o7,O ac,O v9,O v10,O go,o12,O w,o14] Y (yZ Q):=by
 refine fR h Z Z<|S' W (rm d Z) h<|fH.unit H.lK λu e f H=>?_;exact fw (H u e .cL) λy U=>m7 (same _ _ y) λA xs C=>have F:=F.fr f;zp F.z.1 λaO i=>rr i<|qA W (rm d Z) (count:=aO) (p:=⟨fm.bp,fm.cy,fm.dt,fm.dE,fm.d5,dl,aR,gR,gd,gm⟩) i (li<|i▸F.z.2.1) (aD F.z.2.2 dc) F.nm F.lf F.le F.bf (l.fr f) (m.fr f) (o.fr f) (q.fr f) (s.fr f) λv I x j=>have k:=t.fr<|f.aU x.fr;fR (e.dq x) Z Z<|AQ W (rm d Z) j k A xs λG b=>rr C<|Il W (rm d Z) ((e.dq x).dq b)<|(H G ((e.dq x).dq b) (x.aU b).fr).2 _ _ (j.fr b.fr)<|k.fr b.fr
theorem TN(W:WA g)(j:150<=n)(same:∀p cs,gJ T=.ok (p,cs)->qY p=D/\ya cs=D/\mG (Ao p cs)=T)(h:Rd Y r c T p 17)(F:Li Y fm nm lf le bf)(aO:IL Y df dl)(G:qX Y ac aR)(I:qX Y go gR)(ρ:IL Y v9 gd)(K:IL Y v10 gm){o3:au}(H:fH r c T E 19 (KP T Q) Y (abM<|TM fm dl aR gR gd gm p)):
 iy ⟨g,X,n-1⟩ (kU E) (Xo.drop 15) [O<|.aQ T,O<|.S r,O<|.bD [nm,.aL fm.cy,lf,le,bf],o3,O<|.aL fm.dt.length,o5,O df,o7,O ac,O v9,O v10,O go,X,X,X] Y (yZ Q):=by
 refine fR h Z Z<|Gm W (rm j Z) dc h<|H.lK.go λvs M eB m fB H l s=>?_;refine fw (oS eB) λaZ cl=>?_;obtain⟨cs,pB⟩:=vs;refine jQ s ?_;by_cases o:cs.length=fm.dt.length
 case neg=>
  exact qw (m4 λe=>o<|ij e)<|fR m Z Z<|mw W (rm j Z) m .cL<|H.uQ.De o
 have H:=H.uQ.Cd<|not_not_intro o;dsimp only at H;refine t6 (nN<|aH Bf o)<|zh (hd:=X) (it:=.S l) (B:=cs) (jD s) (λk d t=>CD M cs d k t) ⟨Z,.cL,Z,λU U h=>nq aP h ff⟩ (λU U U U h=>jE<|h.x _ _ s) ?_ ?_
 .intro k x d t v i;have q:=Cz v i.a;cases ho:pD x with
  |none=>rw [ho]at q;replace H:=q▸H;exact H.elim
  |some b=>
   refine IC W (rm j Z) (m.dq i.x) (la aZ x<|aW v) ho (λy w u qR aB P R=>?_) λy=>?_
   .subst y;exact i.jO v ho aB P R
   .subst y;rw [ho]at q;rw [q]at H;exact H.g8 i.x.fr
 .intro d t i aE xs;have z:=i.a;replace z:=(List.drop_length)▸z;rw [z]at H;have A:=i.x.e0 (C:=.aF d) xs;have f:=fB.aU A.fr;exact abN W j same (m.dq A) (F.fr f) (aO.fr f) (G.fr f) (I.fr f) (ρ.fr f) (K.fr f) (gk aE d Z (N.aM ..) (rr (aT _) i.l) (λk w aG=>by
   exact cK (i.c k w aG) λu σ e2=>bX u σ<|e2.fr (bH.cu xs).fr)) (H.g8 A.fr)
theorem abO(W:WA g)(b:150<=n)(same:∀p cs,gJ T=.ok (p,cs)->qY p=D/\ya cs=D/\mG (Ao p cs)=T)(h:Rd Y r c T p 7)(F:Li Y fm nm lf le bf)(C:IL Y df dl)(aO:dl.length<=60)(H:fH r c T E 19 (KP T Q) Y (abM ((EM [] dl.length fm.cy X X p).bJ λa=>if pz a.1 dl.length fm.dt.length=bk then .eA a.2 else (nS jl (O<|-1) (O<|(dl.length:Int)-1) (O<|(fm.bp.length:Int)-fm.cy) a.2).bJ λj=>(nS lg X X (O<|(fm.bp.length:Int)-fm.cy) j.2).bJ λgm=> (EM lV ((fm.bp.length:Int)-fm.cy).toNat dl.length (O 0) (O<|(dl.length:Int)-1) gm.2).bJ λgo=>if nC go.1 j.1 gm.1 dl.length=bk then .eA go.2 else
 TM fm dl a.1 go.1 j.1 gm.1 go.2))):
  iy ⟨g,X,n-1⟩ (kU E) (Xo.drop 9) [O<|.aQ T,O<|.S r,O<|.bD [nm,.aL fm.cy,lf,le,bf],O<|.aL fm.cy,O<|.aL fm.dt.length,O<|.aL<|(fm.bp.length:Int)-fm.cy,O df,O<|.aL dl.length,X,X,X,X,X,X,X] Y (yZ Q):=by
 refine m7 (F.z) λc1 c2 c3=>zZ W (least:=X) (most:=X) (many:=dl.length) (columns:=fm.cy) (pre:=[]) (rm b Z) Z Z dc h<|H.lK.go λa Qp G I m H va o=>?_;refine fw (ID G) λq s=>cK (id o) λxa k ρ=>?_;obtain rfl:=k;refine Cs W (rm b Z) I ρ (Ct q (aD s dc)<|rr ((fq q).2.1)<|aD aO dc) s (λDO K t u=>?_) λl=>H.uQ.De l;have H:=(H.uQ.Cd (by refine rr K ?_;decide)).g8 u.fr;refine fR t Z Z<|kD W (least:=O<|-1) (most:=O<|(dl.length:Int)-1) (many:=O<|(fm.bp.length:Int)-fm.cy) (rm b Z) Z Z dc t<|H.lK.go λd Zp vs v M H v7 i=>?_;refine fR v Z Z<|kD W (least:=X) (most:=X) (many:=O<|(fm.bp.length:Int)-fm.cy) (rm b Z) Z Z dc v<|H.lK.go λd' σ8 aZ aB w H v8 e=>?_;have y:=(ke vs).1 _ Z;have A:=(ke aZ).1 _ Z;refine zp (pQ c2) λxo P=>?_;rw [P]at y A H⊢;refine zZ W (least:=O 0) (most:=O<|(dl.length:Int)-1) (many:=xo) (columns:=dl.length) (pre:=lV) (rm b Z) Z Z dc aB<|H.lK.go λa9 σ9 R aE f H v9 xs=>?_;refine fw (ID R) λV aG=>have i:=i.fr<|w.aU f;have e:=e.fr f;cK (id xs) λxg k σ=>?_;obtain rfl:=k;refine Gy W (rm b Z) aE σ i e V aG (by lia:xo<=60) (ij y).symm (ij A).symm (λσA g3 hA x=>?_) λl=>H.uQ.De l;have f:=u.fr.aU<|M.aU<|w.aU<|f.aU x.fr;exact TN W b same hA (F.fr<|m.aU f) (C.fr<|m.aU f) (o.fr f) (xs.fr x.fr) (i.fr x.fr) (e.fr x.fr)<|(H.uQ.Cd (by refine rr g3 ?_;decide)).g8 x.fr
end
theorem wD(W:WA g)(h:150<=n)(A:T.length<=1000000)(ns:gJ T≠.jc)(same:∀p cs,gJ T=.ok (p,cs)->qY p=D/\ya cs=D/\mG (Ao p cs)=T)(q:∀p cs v w b,gJ T=.ok (p,cs)->Fr Y b->iY b v p->jF b w cs->Q (.bD [v,w]) b)(e:∀p' a b,gJ T=.eA p'->TE Y ((T.length:Int)-p'.length) a b->E a () b):bE ⟨g,X,n⟩ (.S 801) [.aQ T] Y Q E:=by
 refine W.e 62 h Z Z Z<|Ta W (rm h Z) A λr c xs k l=>?_;have H:fH r c T E 19 (KP T Q) xs (abM<|gJ T):=by
  cases er:gJ T with
  |ok a=>exactλb U f=>⟨er,λv w C aO=>q _ _ _ _ b er (l.fr.aU f) C aO⟩
  |eA p=>exactλa b t=>e p a b er<|t.g8 l.fr
  |jc=>exact ns er
 refine fR k Z Z<|abv W (rm h Z) dc k<|H.lK.wB .cL λaG σ U G f2 H=>?_;refine Gw W (rm h Z) G<|(H.g8 f2).lK.go λa I ρ m f3 H nm K le vs o s M aZ=>?_;refine Bh (O7 ρ) λc1 c2 c3 c4=>?_;obtain⟨u,p3⟩:=a;have F:Li I u nm K le vs:=⟨o,s,M,aZ,bA dc c1,bA c2<|iQ _ dc,c3⟩;refine cK (id o) λnmA z aB=>?_;obtain rfl:=z;refine IL.x s λlfA z P=>?_;obtain rfl:=z;refine ei P (cZ _)<|ei aB (dI _)<|fR m Z Z<|kD W (least:=O 0) (most:=O<|(u.dt.length:Int)-1) (many:=X) (rm h Z) Z Z dc m<|H.lK.go λd DN R i aE H vd y=>?_;refine IL.x y λdfA z V=>?_;obtain rfl:=z;refine ei V (cZ _)<|lL (p:=(d.1.length:Int)=0) (λj=>?_) λj=>?_
 .exact fR i Z Z<|mw W (rm h Z) i .cL<|H.uQ.De<|ZC j
 exact abO W h same i (F.fr aE) y (ke R).2.2<|H.uQ.Cd λe=>j<|rr e Z
end
theorem rb{x:R α}{a:α}{f:α->R β}{y:R β}(h:x=.ok a)(k:f a=y):x.bJ f=y:=h▸k
theorem re{x:R α}{e:aq}{f:α->R β}(h:x=.eA e):x.bJ f=.eA e:=h▸Z
def Rb(l:α->Nat)(n:Nat):R α->Prop
 |.ok a=>l a<=n
 |.eA e=>e.length<=n
 |.jc=>True
def Mo(l:α->Nat)(r:aq->R α):Prop:=∀p,Rb l p.length<|r p
abbrev pN(a:α×aq):Nat:=a.2.length
section
variable{l:α->Nat} {m:β->Nat} {x y:R α}
theorem Rb.le(h:Rb l n x)(z:n<=k):Rb l k x:=by
 induction x with
 |ok a=>exact aD h z
 |eA e=>exact aD h z
 |jc=>trivial
theorem Rb.bJ{f:α->R β}(h:Rb l n x)(g:∀a,Rb m (l a)<|f a):Rb m n (x.bJ f):=by
 induction x with
 |ok a=>exact(g a).le h
 |eA e=>exact h
 |jc=>trivial
theorem Rb.cA{c:Prop} [Decidable c](h:Rb l n x)(h':Rb l n y):Rb l n (ite c x y):=iteInduction (motive:=Rb l n) (λU=>h) λU=>h'
theorem dz(p:aq)(k:Nat):(p.drop k).length<=p.length:=(Qw k p).length_le
theorem xd(w:aq):Mo bW (xn w):=λp=>.cA (dz p _)<|bO _
theorem ahR(p:aq):Rb pN p.length (rQ p)/\Rb pN p.tail.length (rQ p.tail):=by
 induction p with
 |nil=>exact⟨bO _,bO _⟩
 |cons d r i=>
  refine⟨?_,i.1⟩;induction r with
  |nil=>exact .cA (dA _)<|.cA (dA _)<|dA _
  |cons e s=>
   refine .cA ?_<|.cA (ej _)<|(i.1.bJ (m:=pN) λU=>bO _).le<|ej _;induction SR e with
   |none=>trivial
   |some x=>exact(i.2.bJ (m:=pN) λU=>bO _).le<|d7 _ 2
theorem ym(f:Nat->Bool)(p:aq):(p.dropWhile f).length<=p.length:=(List.dropWhile_sublist f).length_le
theorem TO(s:Int):Mo pN (OQ s):=λU=>.cA (ym ..)<|ym ..
theorem CA:Mo pN uP:=λp=>.cA ((TO (-1) _).le<|dz p 1)<|TO 1 p
theorem M6(h:Mo pN br):Mo pN (wA br):=λp=>.cA (((ahR _).1.bJ λU=>bO _).le<|dz p 1)<|.cA ((h _).le<|dz p 1)<|.cA (dz p 1)<|(CA p).bJ λU=>bO _
theorem XS{it:aq->R (V×aq)}(h:Mo pN it)(f:Nat):∀b,Mo pN (zV it f b):=by
 induction f with
 |zero=>exactλU U=>trivial
 |succ f i=>exactλb p=>.cA (dz p 1)<|(xd [32] p).bJ λp=>(h p).bJ λa=>i _ a.2
theorem afa{it:aq->R (V×aq)}(h:Mo pN it):Mo pN (rBr it):=λp=>.cA (dz p 1)<|(h p).bJ λa=>XS h _ _ a.2
theorem ahS(k:Nat):Mo pN (rI k):=by
 induction k with
 |zero=>exact M6 λU=>bO _
 |succ k i=>exact M6<|afa i
theorem XT(k:Nat):∀b,Mo pN (pM k b):=by
 induction k with
 |zero=>exactλU U=>bO _
 |succ k i=>exactλb p=>(xd [32] p).bJ λp=>(ahS 2 p).bJ λa=>i _ a.2
theorem TP(w:aq):Mo pN (mP w):=λp=>(xd _ p).bJ λp=>(CA p).bJ λa=>(xd [58] a.2).bJ λp=>.cA trivial<|(XT _ [] p).bJ λb=>(xd [10] b.2).bJ λU=>bO _
theorem abP(ln:Int):Mo (λU:Unit=>0) (K9 ln):=λp=>(xd _ p).bJ λp=>(CA p).bJ λa=>.cA (bO _)<|(xd [10] a.2).bJ λU=>.cA (dA _)<|bO _
end
def Nd(p:aq):Prop:=∀d r,p=d::r->mq d=bk
theorem M7(m:Nat):∀d∈sE m,mq d=D:=λd hd=>abq<|Ci m d hd
theorem ahT{l rest:aq}(h:∀d∈l,mq d=D)(a:Nd rest):(l++rest).takeWhile mq=l/\(l++rest).dropWhile mq=rest:=by
 induction l with
 |nil=>
  induction rest with
  |nil=>exact⟨Z,Z⟩
  |cons d r=>
   have e:¬mq d=D:=λh=>ic<|(a d r Z).symm.trans h;exact⟨D7 e,List.dropWhile_cons_of_neg e⟩
 |cons x l i=>
  have i:=i λd hd=>h d<|.tail _ hd;have e:=h x<|.head _;exact⟨(D8 e).trans (aH (x::·) i.1),(List.dropWhile_cons_of_pos e).trans i.2⟩
theorem TQ(m:Nat){rest:aq}(h:Nd rest):(sE m++rest).takeWhile mq=sE m/\(sE m++rest).dropWhile mq=rest:=ahT (M7 m) h
theorem M8(s:Int)(a:m<10^160){rest:aq}(b:Nd rest):OQ s (sE m++rest)=.ok (s*m,rest):=by refine fw (TQ m b) λe c=>have d:(sE m).length<=160:=(uS dc).mpr a;?_;unfold OQ;exact rr e<|rr c<|bL (bu (by rintro(h|h);exact MS m h;exact Nat.not_le.mpr ‹_› ‹_›))<|rr (Tc _) Z
theorem uX(m:Nat):∃d r,sE m=d::r/\mq d=D:=by
 cases h:sE m with
 |nil=>exact(MS m h).elim
 |cons d r=>exact lq d r Z<|M7 m d<|h▸.head _
theorem tF{d:Nat}(a:mq d=D)(h:gh 48 k=bk):d≠k:=λz=>ic<|h.symm.trans<|oY<|z▸(MP a).1
theorem M9{a d:Nat}{r:aq}(h:d≠a):¬[a].isPrefixOf (d::r)=D:=λe=>ic ((aH (·&&D)<|beq_false_of_ne<|lF h).symm.trans e)
theorem zo{i:Int}(h:i.natAbs<10^160){rest:aq}(b:Nd rest):uP (eF i++rest)=.ok (i,rest):=by
 refine bV (qy i) (λz=>cK z λm a e=>?_) λz=>cK z λm a e=>?_
 .obtain rfl:=a;exact rr e<|j6 (uX m) λd r hd c=>(bu<|show¬[45].isPrefixOf (sE m++rest)=D from rr hd (M9<|tF c Z)).trans<|(M8 1 h b).trans<|aH (λx=>R.ok (x,rest))<|afQ _
 .obtain rfl:=a;exact rr e<|(bI Z).trans<|(M8 (-1) (m:=m+1) (cw (cC (Fi ((m+1:Nat):Int)).symm) h) b).trans<|aH (λx=>R.ok (x,rest))<|Int.neg_one_mul _
theorem abQ(r:aq):∀s:aq,s.all VX=D->rQ ((s.map w6).flatten++34::r)=.ok (s,r):=by
 intro l;induction l with
 |nil=>
  intro U;exact(Gk dc).trans<|bI Z
 |cons d s i=>
  intro h;have i:=i<|nR h;refine rr (bF _ _ _) ?_;by_cases c:d=10
  .clear h;exact rr c<|(SX Z).trans<|rr i Z
  by_cases a:d=34
  .clear h;exact rr a<|(SX Z).trans<|rr i Z
  by_cases b:d=92
  .clear h;exact rr b<|(SX Z).trans<|rr i Z
  exact rr (show w6 d=[d]from(bu c).trans ((bu a).trans<|bu b))<|(Gk b).trans<|(bu a).trans<|rr i Z
def pE:Nat->V->Bool:=vk (λn=>n.natAbs<10^160) (λs=>s.all VX) λU=>D
theorem XU{d:Nat}(h:mq d=bk)(r:aq):Nd (d::r):=λU U e=>(gg e).1▸h
theorem abR:∀r,Nd (32::r):=XU Z
theorem afb:∀r,Nd (41::r):=XU Z
theorem XW:∀r,Nd (10::r):=XU Z
theorem ahU:∀r,Nd (58::r):=XU Z
def sp(us:aw):aq:=(us.map λu=>32::sh u).flatten
theorem M'(us:aw){rest:aq}(h:Nd rest):Nd (sp us++rest):=by
 induction us with
 |nil=>exact h
 |cons u r=>exact abR _
theorem abS(r:aw):r.length<=(sp r).length:=by
 induction r with
 |nil=>exact dA _
 |cons y r i=>exact cg<|aD i<|aD (gq ..)<|cC (aY (as:=sh y)).symm
theorem Lj(d:Nat)(r:aq):xn [d] (d::r)=.ok r:=bI (aH (·&&D)<|beq_self_eq_true d)
theorem XX{it:aq->R (V×aq)}(r:aq)(b:aw):∀(f:Nat) (c:aw),(∀u∈b,∀p,Nd p->it (sh u++p)=.ok (u,p))->b.length<f->zV it f c (sp b++41::r)=.ok (.bD<|c++b,r):=by
 induction b with
 |nil=>
  intro f c U d;induction f with
  |zero=>cases d
  |succ f=>exact(bI Z).trans<|aH (λa=>R.ok (V.bD a,r)) (dS c).symm
 |cons y b i=>
  intro f c h d;induction f with
  |zero=>cases d
  |succ f=>
   show zV it (f+1) c (32::((sh y++sp b)++41::r))=_;exact rr (bF (sh y) (sp b)<|41::r)<|(bu ic).trans<|rb (Lj 32 _)<|rb (h y (.head _) _<|M' b<|afb _)<|(i f (c++[y]) (λu e=>h u<|.tail _ e)<|J0 d).trans<|aH (λa=>R.ok (V.bD a,r))<|bF c [y] b
theorem Na(x:V)(r:aw):iC [32] (MT<|x::r)=sh x++sp r:=by refine rr (uT _)<|bL (wY _ _ _) ?_;rw [sp];exact rr (eE) Z
theorem ZD{d:Nat}{p:aq}(h:d≠45):rY (d::p)=bk:=aH (·&&_) (aH (·&&D)<|beq_false_of_ne h)
theorem IE{d:Nat}{p:aq}(h:d≠34)(b:d≠40)(c:rY (d::p)=bk):wA br (d::p)=(uP<|d::p).bJ λa=>.ok (.aL a.1,a.2):=(bu<|M9 h).trans<|(bu<|M9 b).trans<|bu λz=>ic<|c.symm.trans z
theorem Nb(f:∀B,pE k (.bD B)=D->∀p,br (iC [32] (MT B)++41::p)=.ok (.bD B,p))(u:V)(h:pE k u=D):∀p,Nd p->wA br (sh u++p)=.ok (u,p):=by
 refine Im (P:=λu=>∀p,Nd p->wA br (sh u++p)=.ok (u,p)) h (λp c=>?_) (λi h p c=>?_) (λs h p U=>?_) λB h p U=>?_
 .refine(bu ic).trans<|(bu ic).trans<|bI ?_;induction p with
  |nil=>rfl
  |cons d r=>exact aH (λb=>D&&(bk||!b))<|c d r Z
 .have g:∃d r,eF i=d::r/\d≠34/\d≠40/\rY (d::r++p)=bk:=by
   exact bV (qy i) (λj=>cK j λm t e=>j6 (uX m) λd r hd a=>gk d r (e.trans hd) (tF a Z) (tF a Z)<|ZD<|tF a Z) λl=>cK l λm v e=>j6 (uX<|m+1) λd r hd a=>gk 45 (d::r) (e.trans (aH (45::·) hd)) dc dc<|aH (λb=>D&&(bk||!b)) a
  refine e9 g λd r e n o q=>?_;show wA br (eF i++p)=_;exact rr e<|(IE n o q).trans<|rb (e▸(zo (aI h) c)) Z
 .exact(bI Z).trans<|(aH (λz=>(rQ z).bJ _)<|bF (s.map w6).flatten [34] p).trans<|rb (abQ p s h) Z
 .exact(bu ic).trans<|(bI Z).trans<|(aH br<|bF (iC [32]<|MT B) [41] p).trans<|f B h p
theorem XY(u:V)(h:pE k u=D):∃d r,sh u=d::r/\d≠41:=by refine Im (P:=λu=>∃d r,sh u=d::r/\d≠41) h (lq 45 [] Z dc) (λi U=>?_) (λs U=>lq 34 _ Z dc) λB U=>lq 40 _ Z dc;refine bV (qy i) (λz=>cK z λm c e=>?_) λa=>cK a λm f e=>lq 45 _ e dc;exact j6 (uX m) λd r hd b=>lq d r (e.trans hd)<|tF b Z
theorem afc:∀k u,pE k u=D->∀p,Nd p->rI k (sh u++p)=.ok (u,p):=by
 intro l;induction l with
 |zero=>
  exact Nb λB h=>nq bP h ff
 |succ k i=>
  exact Nb λB h p=>by
   have a:∀u∈B,pE k u=D:=la h;induction B with
   |nil=>rfl
   |cons x r=>
    refine j6 (XY x<|a x<|bS) λd s e hd=>rr (Na _ _)<|rr (bF _ _ _) ?_;rw [rBr,(by refine rr e ?_;simp [List.isPrefixOf,hd.symm]:([41].isPrefixOf<|sh x++(sp r++41::p))=bk)];refine rr (i x (a x<|bS) (sp r++41::p)<|M' r<|afb p)<|?_;have b:r.length<(sp r++41::p).length+1:=by
     have:=abS r;refine rr (aY) ?_;lia
    have:=XX p r _ [x] (λu f q c=>i u (a u<|di _ ‹_›) q c) b;exact this
theorem GF{q:aq}(b:Nd q)(us:aw):∀a:aw,us.all (pE 2)=D->pM (m+us.length) a (sp us++q)=pM m (a++us) q:=by
 induction us with
 |nil=>exactλa U=>aH (pM m · q) (dS a).symm
 |cons u us i=>
  intro a h;show pM (m+us.length+1) a (32::((sh u++sp us)++q))=_;exact rr (bF (sh u) (sp us) q) (rb (Lj 32 _) (rb (afc 2 u (Bool.and_eq_true_iff.mp h).1 _<|M' us b) ((i (a++[u]) (Bool.and_eq_true_iff.mp h).2).trans (aH (pM m · q)<|bF a [u] us))))
theorem Nc(us a:aw){q:aq}(h:us.all (pE 2)=D)(b:Nd q):pM us.length a (sp us++q)=.ok (a++us,q):=(aH (pM · a _) (nY us.length).symm).trans<|GF (m:=0) b us a h
theorem GG(w r:aq):xn w (w++r)=.ok r:=(bI<|List.isPrefixOf_iff_prefix.mpr<|Qg w r).trans<|aH R.ok D5
theorem xe(w t:aq){c:Int}(a:-60<=c/\c<=60):mP w (w++32::(eF c++58::t))=(pM c.toNat [] t).bJ λb=>(xn [10] b.2).bJ λp=>.ok (b.1,p):=rb ((aH (xn<|w++[32]) (bF w [32] _).symm).trans<|GG (w++[32]) _)<|rb (zo (cw (show c.natAbs<=60 by lia) (by decide+kernel):c.natAbs<10^160)<|ahU t)<|rb (Lj 58 t)<|bu λh=>h.elim (NY a.2)<|NY a.1
noncomputable def sp2(vs:aa):aq:=(vs.map (32::·)).flatten
theorem GH(A xs:aa):sp2 (A++xs)=sp2 A++sp2 xs:=(aH ac0 bN).trans List.flatten_append
theorem CB(us:aw):sp2 (us.map sh)=sp us:=aH ac0 eE
theorem IF(w:aq)(vs:aa)(q:aq):dP w vs++q=w++32::(eF vs.length++58::(sp2 vs++q)):=(aH (·++q)<|wY ..).trans ((bF w _ q).trans (aH (w++·) ((bF (32::(eF vs.length++[58])) (sp2 vs) q).trans (aH (32::·)<|bF (eF vs.length) [58] _))))
theorem XZ(w:aq)(us:aw)(q:aq):dP w (us.map sh)++q=w++32::(eF us.length++58::(sp us++q)):=(IF ..).trans<|rr (aT _)<|rr (CB us) Z
theorem CC(w:aq){us:aw}(h:us.all (pE 2)=D)(a:us.length<=60)(q:aq):mP w (dP w (us.map sh)++10::q)=.ok (us,q):=rr (XZ ..) ((xe w _<|by lia).trans<|rb (Nc us [] h<|XW q)<|rb (Lj 10 q) Z)
theorem TR(w:aq){us L:aw}(a:∀q,Nd q->∃e,rI 2 (t++q)=.eA e)(h:us.all (pE 2)=D)(d:us.length+1+L.length<=60)(q:aq):∃e,mP w (dP w (us.map sh++[t]++L.map sh)++10::q)=.eA e:=by
 have b:sp2 (us.map sh++[t]++L.map sh)++10::q=sp us++32::(t++(sp L++10::q)):=by
  rw [GH,GH,CB,CB,bF,bF];exact aH (sp us++·) (aH (32::·) (aH (·++_)<|dS t))
 refine rr (IF ..) (rr (by rw [aY,aY,aT,aT];exact(fO ..).trans ((aH (L.length+·)<|fO ..).trans (ku ..).symm):(us.map sh++[t]++L.map sh).length=L.length+1+us.length)<|rr b<|ka (a _<|M' L<|XW q) λe c=>⟨e,(xe w _<|by lia).trans<|re<|(GF (abR _) us [] h).trans<|rb (Lj 32 _)<|re c⟩)
theorem TS{ws:aw}{x:V}{q:aq}(h:(ws++[x]).all (pE 2)=D):∃e,((pM ws.length []<|sp (ws++[x])++10::q).bJ λb=>(xn [10] b.2).bJ λp=>(.ok (b.1,p):R (aw×aq)))=.eA e:=rr (by rw [<-CB,bN,GH,CB,bF];rfl:sp (ws++[x])++10::q=sp ws++32::((sh x++[])++10::q)) ⟨_,rb (Nc ws [] (nL<|List.all_append.symm.trans h)<|abR _) Z⟩
theorem TU(w:aq){us:aw}(h:us.all (pE 2)=D)(a:us.length<=50){c:Int}(b:c=us.length+1\/c=us.length-1)(q:aq):∃e,mP w (w++[32]++eF c++[58,32]++iC [32] (us.map sh)++10::q)=.eA e:=by
 refine rr ((bF ..).trans<|(bF ..).trans<|(bF ..).trans<|bF w [32] _)<|rr (xe w _<|by lia) ?_;clear a;induction us with
 |nil=>exact b.elim (λe=>e▸⟨10::q,Z⟩) λe=>e▸⟨32::10::q,Z⟩
 |cons u us=>
  refine rr (show iC [32] ((u::us).map sh)=sh u++sp us from(aH _ (uT _).symm).trans (Na ..))<|b.elim (λe=>rr e ⟨10::q,?_⟩) λe=>rr e ?_
  .exact re ((aH (pM · [] _)<|fO (us.length+1) 1).trans<|GF (m:=1) (XW q) (u::us) [] h)
  .refine rr (show(((u::us).length:Int)-1).toNat=us.length from(show((us.length:Int)+1-1).toNat=us.length from aH Int.toNat (eW ..)))<|bV (List.eq_nil_or_concat<|u::us) (λe=>nq ek e ff) λz=>mK z λd x e=>have a:us.length=d.length:=eQ<|(aH bW e).trans<|List.length_concat ..;?_;show∃e,((pM us.length []<|sp (u::us)++10::q).bJ _)=R.eA e;replace e:=e.trans List.concat_eq_append;exact rr a<|rr e<|TS<|e▸h
theorem abT{i:Int}(h:10^160<=i)(q:aq)(b:Nd q):∃e,rI 2 (eF i++q)=.eA e:=by refine zp (bA (by decide+kernel:(0:Int)<=10^160) h) λm c=>?_;obtain rfl:=c;exact j6 (uX m) λd r hd a=>fw (TQ m b) λf g=>have e:sE m++q=d::(r++q):=aH (·++q) hd;have j:uP (d::(r++q))=.eA q:=(bu<|M9<|tF a Z).trans<|e▸(bI<|.inr<|f.symm▸(Nat.not_le.mp λz=>wj (it<|(uS dc).mp z) ((by decide+kernel:((10^160:Nat):Int)=(10:Int)^160)▸h):160<(sE m).length)).trans (aH R.eA g);⟨q,rr (xZ m)<|rr e<|(IE (tF a Z) (tF a Z)<|ZD<|tF a Z).trans<|re j⟩
theorem IG(r:aq):∃e,rI 2 (40::40::40::r)=.eA e:=⟨_,Z⟩
theorem X0(q:aq):∃e,rI 2 (bg 1200 40++q)=.eA e:=IG _
noncomputable def cf:aa:=[vN,mY,vO,iE,ib,gE,rq,rv,rz,oT,jl,lg,lV++rq,lV++rv,lV++rz,lV++oT,vP]
def iN(a:ah)(j:Nat):ar:=(a.getD j []).map toInt
def sN(a:ah):aa:=(a.getD 0 []).map toS
def cN(a:ah):Int:=(iN a 1).headD 0
def TV(a:ah):kK:=⟨iN a 6,iN a 7,iN a 8,iN a 9⟩
def TX(a:ah):kK:=⟨iN a 12,iN a 13,iN a 14,iN a 15⟩
def wF(least most many:ao)(l:aw):Bool:=!(many.any (· !=(l.length:Int))||!l.all (uR least most))
def sP:Nat->ah->ai
 |0,a=>O<|xY (a.getD 0 [])&&decide ((sN a).take 3=jm)
 |1,a=>O<|wF (O 3) (O<|((sN a).length:Int)-1) (O 1)<|a.getD 1 []
 |2,a=>O<|wF (O<|cN a) (O<|((sN a).length:Int)-1) X (a.getD 2 [])&&zY (sN a) (cN a) (iN a 2)
 |3,a=>O<|wF (O 0) X (O ((iN a 2).length:Int))<|a.getD 3 []
 |4,a=>O<|wF (O 0) X (O ((iN a 2).length:Int)) (a.getD 4 [])&&pW (iN a 3) (iN a 4) (iN a 2).length
 |5,a=>O<|wF (O 0) (O<|((iN a 2).length:Int)-1) X (a.getD 5 [])&&decide (iN a 5≠[])
 |6,a=>O<|wF X X X<|a.getD 6 []
 |7,a=>O<|wF X X X<|a.getD 7 []
 |8,a=>O<|wF X X X<|a.getD 8 []
 |9,a=>O<|wF X X X (a.getD 9 [])&&(kG (TV a) (iN a 5).length (cN a)&&pz (TV a) (iN a 5).length (iN a 2).length)
 |10,a=>O<|wF (O<|-1) (O<|((iN a 5).length:Int)-1) (O<|((sN a).length:Int)-cN a)<|a.getD 10 []
 |11,a=>O<|wF X X (O<|((sN a).length:Int)-cN a)<|a.getD 11 []
 |12,a=>O<|wF X X X<|a.getD 12 []
 |13,a=>O<|wF (O 0) (O<|((iN a 5).length:Int)-1) X<|a.getD 13 []
 |14,a=>O<|wF X X X<|a.getD 14 []
 |15,a=>O<|wF X X X (a.getD 15 [])&&(kG (TX a) (((sN a).length:Int)-cN a).toNat (iN a 5).length&&nC (TX a) (iN a 10) (iN a 11) (iN a 5).length)
 |16,a=>if(a.getD 16 []).length≠(iN a 2).length then O bk else fS (a.getD 16 [])
 |_,_=>X
noncomputable def kS(o:ai)(x:R β)(q:aq):R β:=match o with
 |some D=>x
 |some bk=>.eA q
 |none=>.jc
noncomputable def zt:Nat->aa->ah->aq->R (ah×aq)
 |_,[],a,p=>.ok (a,p)
 |i,w::ws,a,p=>(mP w p).bJ λb=>kS (sP i<|a++[b.1]) (zt (i+1) ws (a++[b.1]) b.2) b.2
def mkP(a:ah):kg:=⟨sN a,cN a,iN a 2,iN a 3,iN a 4,iN a 5,TV a,TX a,iN a 10,iN a 11⟩
theorem lh(x:R α)(f:α->R β)(h:β->R γ):(x.bJ f).bJ h=x.bJ λa=>(f a).bJ h:=by induction x<;>rfl
theorem nE{x:R α}{f h:α->R β}(e:∀a,f a=h a):x.bJ f=x.bJ h:=aH x.bJ<|funext e
theorem X1(o:ai)(x:R β)(q:aq)(F:β->R γ):(kS o x q).bJ F=kS o (x.bJ F) q:=by
 induction o with
 |none=>rfl
 |some b=>induction b<;>rfl
variable{F:δ->R β} {F':δ->R β}
section
variable{δ ε:Type} {w:aq} {ws a:aa} {L:ah} {l m k:ao} {p:aq} {G:ah×aq->R β}
theorem TY:(zt i (w::ws) L p).bJ G=(mP w p).bJ λb=>kS (sP i<|L++[b.1]) ((zt (i+1) ws (L++[b.1]) b.2).bJ G) b.2:=(show(zt i (w::ws) L p).bJ G=_ from lh (mP w p) _ G).trans<|nE λb=>X1 ..
theorem TZ{F:ar×aq->R β}(c:aw->ai)(H:∀b,sP i (L++[b])=if wF l m k b then c b else O bk)(e:∀b q,F (b.map toInt,q)=kS (c b) ((zt (i+1) ws (L++[b]) q).bJ G) q):(nS w l m k p).bJ F=(zt i (w::ws) L p).bJ G:=by
 refine rr TY ?_;rw [nS];refine bL (lh _ _ _)<|nE λb=>rr (H _) ?_;rw [wF];cases(k.any (· !=(b.1.length:Int))||!b.1.all (uR l m))with
 |true=>rfl
 |false=>exact e b.1 b.2
theorem ahV{F:aa×aq->R β}(c:aw->ai)(H:∀b,sP i (L++[b])=if xY b then c b else O bk)(e:∀b q,F (b.map toS,q)=kS (c b) ((zt (i+1) ws (L++[b]) q).bJ G) q):(zk w p).bJ F=(zt i (w::ws) L p).bJ G:=by
 refine rr TY ?_;rw [zk];refine bL (lh _ _ _)<|nE λb=>rr (H _) ?_;induction xY b.1 with
 |true=>exact e b.1 b.2
 |false=>rfl
theorem zu{a:Bool}:O (a&&b)=if a then O b else O bk:=by induction a<;>rfl
theorem DP{a:Bool}:O a=if a then O D else O bk:=by induction a<;>rfl
theorem ZE{x:R β}{y:R β}{q:aq}(e:x=y):(if b=bk then .eA q else x)=kS (O b) y q:=by subst e;induction b<;>rfl
theorem abU{b:Bool}{x:R δ}{F:δ->R β}{y:R β}{q:aq}(e:x.bJ F=y):(if b=bk then .eA q else x).bJ F=kS (O b) y q:=by subst e;induction b<;>rfl
theorem Lk{b:Bool}{x:R δ}{F:δ->R β}{y:R β}{q:aq}(e:x.bJ F=y):(if b then x else .eA q).bJ F=kS (O b) y q:=by subst e;induction b<;>rfl
theorem abV{c:Prop} [Decidable c]{x:R δ}{F:δ->R β}{y:R β}{q:aq}(e:x.bJ F=y):(if¬c then .eA q else x).bJ F=kS (O<|decide c) y q:=by
 subst e;by_cases h:c
 .refine rr (bu<|not_not_intro h)<|rr (aN h) ?_;rfl
 .refine rr (bI h)<|rr (bj h) ?_;rfl
theorem uY{F:ar×aq->R δ}{F':δ->R β}(c:aw->ai)(H:∀b,sP i (L++[b])=if wF l m k b then c b else O bk)(e:∀b q,(F (b.map toInt,q)).bJ F'=kS (c b) ((zt (i+1) ws (L++[b]) q).bJ G) q):((nS w l m k p).bJ F).bJ F'=(zt i (w::ws) L p).bJ G:=(lh ..).trans<|TZ c H e
theorem afd{F:aa×aq->R δ}{F':δ->R β}(c:aw->ai)(H:∀b,sP i (L++[b])=if xY b then c b else O bk)(e:∀b q,(F (b.map toS,q)).bJ F'=kS (c b) ((zt (i+1) ws (L++[b]) q).bJ G) q):((zk w p).bJ F).bJ F'=(zt i (w::ws) L p).bJ G:=(lh ..).trans<|ahV c H e
theorem afe{l m:Int}{F:Int×aq->R δ}{F':δ->R β}(c:aw->ai)(H:∀b,sP i (L++[b])=if wF (O l) (O m) (O 1) b then c b else O bk)(e:∀b q,(F ((b.map toInt).headD 0,q)).bJ F'=kS (c b) ((zt (i+1) ws (L++[b]) q).bJ G) q):((S5 w l m p).bJ F).bJ F'=(zt i (w::ws) L p).bJ G:=by rw [S5];refine rr (lh _ _ _)<|rr (lh _ _ _) ?_;exact TZ (F:=λa=>(F (a.1.headD 0,a.2)).bJ F') c H e
theorem aff{c:Prop} [Decidable c] [Decidable<|¬c]{x y:R β}{q:aq}(e:x=y):(if c then .eA q else x)=kS (O<|decide ¬c) y q:=by
 subst e;by_cases h:c
 .refine rr (bI h)<|rr (bj<|not_not_intro h) ?_;rfl
 .refine rr (bu h)<|rr (aN h) ?_;rfl
theorem Nf{a:Bool}{x z:R β}{q:aq}(h:z=kS (O a) (kS (O b) x q) q):z=kS (O<|a&&b) x q:=by subst h;induction a<;>rfl
end
set_option maxHeartbeats 8000000 in
theorem O8(p:aq):gJ p=((xn w_head p).bJ<|xn [10]).bJ λp=>(zt 0 cf [] p).bJ λb=>(K9 18 b.2).bJ λU=>.ok (mkP b.1,(b.1.getD 16 []).map toCode):=by
 refine nE λp=>?_;unfold Gv cf;refine afd _ (λU=>zu) λb0 q=>abV<|afe _ (λU=>DP) λb1 q=>uY _ (λU=>zu) λb2 q=>abU<|uY (L:=[b0,b1,b2]) _ (λU=>DP) λb3 q=>uY (L:=[b0,b1,b2,b3]) _ (λU=>zu) λb4 q=>Lk<|TZ (L:=[b0,b1,b2,b3,b4]) _ (λU=>zu) λb5 q=>aff<|uY (L:=[b0,b1,b2,b3,b4,b5]) _ (λU=>DP) λb6 q=>uY (L:=[b0,b1,b2,b3,b4,b5,b6]) _ (λU=>DP) λb7 q=>uY (L:=[b0,b1,b2,b3,b4,b5,b6,b7]) _ (λU=>DP) λb8 q=>uY (L:=[b0,b1,b2,b3,b4,b5,b6,b7,b8]) _ (λU=>zu) λb9 q=>Nf<|Lk ?_;refine ZE<|TZ (L:=[b0,b1,b2,b3,b4,b5,b6,b7,b8,b9]) _ (λU=>DP) λb10 q=>TZ (L:=[b0,b1,b2,b3,b4,b5,b6,b7,b8,b9,b10]) _ (λU=>DP) λb11 q=>uY (L:=[b0,b1,b2,b3,b4,b5,b6,b7,b8,b9,b10,b11]) _ (λU=>DP) λb12 q=>uY (L:=[b0,b1,b2,b3,b4,b5,b6,b7,b8,b9,b10,b11,b12]) _ (λU=>DP) λb13 q=>uY (L:=[b0,b1,b2,b3,b4,b5,b6,b7,b8,b9,b10,b11,b12,b13]) _ (λU=>DP) λb14 q=>uY (L:=[b0,b1,b2,b3,b4,b5,b6,b7,b8,b9,b10,b11,b12,b13,b14]) _ (λU=>zu) λb15 q=>Nf<|Lk ?_;refine ZE<|bL (nE λb16=>?_) TY.symm;show _=kS (if b16.1.length≠(b2.map toInt).length then O bk else fS b16.1) _ _;dsimp only;by_cases h:b16.1.length=(b2.map toInt).length
 .refine rr (bu<|not_not_intro h)<|rr (bu<|not_not_intro h) ?_;induction fS b16.1 with
  |none=>rfl
  |some b=>induction b<;>rfl
 .refine rr (bI h)<|rr (bI h) ?_;rfl
noncomputable def fl:aa->aq
 |[]=>[]
 |l::r=>l++10::fl r
theorem CF(a b:aa):fl (a++b)=fl a++fl b:=by
 induction a with
 |nil=>rfl
 |cons l r i=>exact(aH (λx=>l++10::x) i).trans (bF _ (10::fl r) _).symm
theorem ahW{q:aq}:fl [t]++q=t++10::q:=bF t [10] q
theorem T3{w:aq}{A xs:aa}:fl ([w]++A++xs)=w++10::(fl A++fl xs):=aH (λx=>w++10::x)<|CF A xs
theorem afg{w q:aq}{A xs:aa}:fl ([w]++A++xs)++q=w++10::(fl A++(fl xs++q)):=(aH (·++q) T3).trans<|(bF w (10::(fl A++fl xs)) q).trans<|aH (λx=>w++10::x)<|bF (fl A) (fl xs) q
theorem abW(a:aa):(fl a).length=(a.map λl=>l.length+1).sum:=by
 induction a with
 |nil=>rfl
 |cons l r i=>exact List.length_append.trans<|(aH (λx=>l.length+(x+1)) i).trans (by rw [eL,i1];exact yO _ _ _▸Z)
theorem X2:∀(l:aq) (r:aa),iC [10] (l::r)++[10]=fl (l::r):=by
 intro l a;induction a generalizing l with
 |nil=>
  rfl
 |cons y r i=>
  refine rr (bF _ _ _)<|rr (bF _ _ _)<|rr (i y) ?_;rfl
def s8(ws:aa)(L:ah):aa:=List.zipWith (λw v=>dP w<|v.map sh) ws L
theorem T4{w q:aq}{v:aw}{ws:aa}{L:ah}:fl (s8 (w::ws)<|v::L)++q=dP w (v.map sh)++10::(fl (s8 ws L)++q):=bF _ (10::fl (s8 ws L)) q
def Hq(v:aw):Prop:=v.all (pE 2)=D/\v.length<=60
theorem afh{l:β->Nat}{o:ai}{x:R β}{q:aq}(h:Rb l q.length x):Rb l q.length (kS o x q):=by
 induction o with
 |none=>trivial
 |some b=>
  induction b with
  |true=>exact h
  |false=>exact bO _
theorem afi(c:aa):∀i a,Mo pN (zt i c a):=by
 induction c with
 |nil=>exactλU U U=>bO _
 |cons w c d=>exactλi a p=>(TP w p).bJ λb=>afh<|d _ _ b.2
theorem T5{a L:ah}{v:aw}{o:ai}(h:sP (i+(j+1)) (a++(v::L).take (j+1+1))=o):sP (i+1+j) (a++[v]++L.take (j+1))=o:=(congr (aH sP<|ui i j)<|bF a [v] _).trans h
theorem abX(L:ah):∀(b:aa) (i:Nat) (a:ah) (q:aq),L.length<=b.length->(∀v∈L,Hq v)->(∀j,j<L.length->sP (i+j) (a++L.take (j+1))=O D)->zt i b a (fl (s8 b L)++q)=zt (i+L.length) (b.drop L.length) (a++L) q:=by
 induction L with
 |nil=>exactλb i a q U U U=>(aH (λx=>zt i b a<|fl x++q) List.zipWith_nil_right).trans (aH (zt i b · q) (dS a).symm)
 |cons v L e=>
  intro b i a q h c d;induction b with
  |nil=>cases h
  |cons w b=>
   refine rr T4 (rb (CC w (c v<|.head _).1 (c v<|.head _).2 _) ((aH (kS · _ _)<|d 0<|J1 _).trans ?_));exact(e b (i+1) (a++[v]) q (jN h) (λu f=>c u<|.tail _ f) λj g=>T5<|d (j+1)<|Wc g).trans<|Ll (congr (Ll (aH zt<|ui i L.length) _)<|bF a [v] L) q
theorem abY(L:ah):∀(c:aa) (i:Nat) (a:ah) (q:aq),L.length<=c.length->(∀v∈L,Hq v)->(∀j,j<L.length->sP (i+j) (a++L.take (j+1))≠X)->(∃j,j<L.length/\sP (i+j) (a++L.take (j+1))=O bk)->∃e,zt i c a (fl (s8 c L)++q)=.eA e:=by
 induction L with
 |nil=>exactλU U U U U U U h=>cK h λU h U=>cM h<|Dr _
 |cons v L l=>
  intro c i a q h f k d;induction c with
  |nil=>cases h
  |cons w c=>
   refine Exists.imp (λe m=>rr T4<|rb (CC w (f v<|.head _).1 (f v<|.head _).2 _) m) (?_:∃e,kS (sP i<|a++[v]) _ _=.eA e);cases hc:sP i (a++[v])with
   |none=>exact(k 0 (J1 _) hc).elim
   |some b=>
    induction b with
    |false=>exact⟨_,Z⟩
    |true=>
     refine l c (i+1) (a++[v]) q (jN h) (λu n=>f u<|.tail _ n) (λj g z=>k (j+1) (Wc g) ?_)<|cK d λj g d=>?_
     .exact(T5 Z).symm.trans z
     .induction j with
      |zero=>exact nq bP (aJ<|hc.symm.trans d) ff
      |succ j=>exact bX j (J0 g)<|T5 d
def yn(k:Nat)(a:ah)(q:aq):R (kg×List (Option<|aw)):=(zt k (cf.drop k) a q).bJ λb=>(K9 18 b.2).bJ λU=>.ok (mkP b.1,(b.1.getD 16 []).map toCode)
theorem GI(k:Nat)(a:ah)(q e:aq)(h:yn k a q=.eA e):e.length<=q.length:=
 have z:Rb (λU=>0) q.length (yn k a q):=(afi _ _ _ q).bJ λb=>(abP 18 b.2).bJ λU=>dA _
 (h▸z:Rb (λU=>0) q.length (.eA e))
structure t8(L:ah):Prop where
 gj:L.length=17
 rd:∀v∈L,Hq v
 ck:∀j,j<17->sP j (L.take<|j+1)=O D
theorem yo{L:ah}(h:t8 L)(b:k<=17)(q:aq):gJ (w_head++10::(fl (s8 cf<|L.take k)++q))=yn k (L.take k) q:=by have c:(L.take k).length=k:=iI<|h.gj▸b;refine(O8 _).trans (rb (rb (GG w_head _)<|Lj 10 _) (aH (R.bJ · _) ((abX (L.take k) cf 0 [] q (c.symm▸b) (λv d=>h.rd v<|AB _ _ d) λj a=>?_).trans ((aH (zt · (cf.drop (L.take k).length) (L.take k) q)<|nY _).trans<|aH (λn=>zt n (cf.drop n) (L.take k) q) c))));have a:j<k:=c▸a;exact(congr (aH sP<|nY j)<|List.take_take.trans<|aH L.take<|qn a).trans<|h.ck j<|cD a b
theorem abZ{a:ah}(c:j<17)(h:j=16->fS (a.getD 16 [])≠X):sP j a≠X:=by
 by_cases e:j=16
 .refine rr e ?_;show(if(a.getD 16 []).length≠(iN a 2).length then O bk else fS (a.getD 16 []))≠X;by_cases b:(a.getD 16 []).length≠(iN a 2).length
  .exact rr (bI b) λe=>nq aP e ff
  .exact rr (bu b)<|h e
 .intro z;exact nq bP ((aH wJ z).symm.trans<|la (rfl:(dk 16).all (λj=>(sP j a).isSome)=D) j<|J9<|QE (Af c) e) ff
theorem vQ:cf.length=17:=rfl
theorem X3(c:aa)(a b:ah)(h:a.length<=c.length):s8 c (a++b)=s8 c a++s8 (c.drop a.length) b:=by
 induction a generalizing c with
 |nil=>induction c<;>rfl
 |cons v a i=>
  induction c with
  |nil=>exact cM h<|NX _
  |cons w c=>exact aH (dP w (v.map sh)::·)<|i c<|jN h
theorem IH(h:k<17):cf.drop k=cf.getD k []::cf.drop (k+1):=by refine rr (bx)<|rr (aV (by rw [vQ];exact h)) ?_;exact fY _
theorem T6{L:ah}(h:t8 L)(a:k<17){v:aw}(n:Hq v)(o:fS ((L.set k v).getD 16 [])≠X)(p:∃j,k<=j/\j<17/\sP j ((L.set k v).take<|j+1)=O bk)(q:aq):
 ∃e,gJ (fl ([w_head]++s8 cf (L.take k)++[dP (cf.getD k [])<|v.map sh]++s8 (cf.drop<|k+1) (L.drop<|k+1))++q)=.eA e/\e.length<=(fl ([dP (cf.getD k [])<|v.map sh]++s8 (cf.drop<|k+1) (L.drop<|k+1))++q).length:=by
 have d:[dP (cf.getD k [])<|v.map sh]++s8 (cf.drop<|k+1) (L.drop<|k+1)=s8 (cf.drop k) (v::L.drop (k+1)):=by
  exact rr (IH a) Z
 refine rr (bF ([w_head]++s8 cf (L.take k)) _ _)<|rr d<|rr afg<|rr (yo h (dH a) _) ?_;have f:k<L.length:=h.gj▸a;have yR:L.set k v=L.take k++v::L.drop (k+1):=List.set_eq_take_append_cons_drop.trans<|bI f;have tk:(L.take k).length=k:=iI<|dH f;have t:(v::L.drop (k+1)).length=17-k:=by refine bL (gP)<|rr (gw)<|rr h.gj<|?_;exact m6<|VM a
 have g:∀j,L.take k++(v::L.drop (k+1)).take (j+1)=(L.set k v).take (k+j+1):=λj=>by
  exact rr yR<|rr (List.take_append)<|rr tk<|rr (ku _ _ _)<|rr (tX _ _)<|rr (jM (l:=L.take k)<|tk.symm▸d7 ..) Z
 obtain⟨e,r⟩:=abY (v::L.drop (k+1)) (cf.drop k) k (L.take k) q (by refine rr t<|rr (gw)<|rr vQ ?_;exact bO _) (λu b=>by
  clear d yR
  rcases mc b with rfl|b
  .exact n
  .exact h.rd u<|List.drop_subset _ _ b) (λj c=>by
  refine rr (g _)<|abZ ((λj c=>fO j k▸Nat.add_lt_of_lt_sub (t▸c):∀j,j<(v::L.drop (k+1)).length->k+j<17) j c) λe=>?_;refine rr (jM (by rw [fD,h.gj,e];exact bO _)) ?_;exact o) (by
  obtain⟨j,i,s,w⟩:=p;exact bX (j-k) (t▸Nat.sub_lt_sub_right i s) (by refine rr (g _)<|rr (iL i) ?_;exact w))
 have m:yn k (L.take k) (fl (s8 (cf.drop k)<|v::L.drop (k+1))++q)=.eA e:=re r;exact bX e m<|GI _ _ _ _ m
theorem T7{L:ah}(h:t8 L)(b:k<17)(c:∀q,∃e,mP (cf.getD k []) (t++10::q)=.eA e)(q:aq):
 ∃e,gJ (fl ([w_head]++s8 cf (L.take k)++[t])++q)=.eA e/\e.length<=(fl [t]++q).length:=by
 refine rr afg<|rr ahW ?_;exact rr (yo h (dH ‹_›) _)<|ka (c q) λe d=>have a:yn k (L.take k) (t++10::q)=.eA e:=re<|rr (IH b)<|show zt k (_::_) _ _=_ from re d;bX e a (GI _ _ _ _ a)
theorem Lm{c:Int}(h:c.natAbs<=1000)(r:aq):K9 18 ([101,110,100,32]++eF c++10::r)=if c≠19 then .eA (10::r)else if r=[]then .ok ()else .eA r:=rb ((aH (xn [101,110,100,32])<|bF [101,110,100,32] (eF c)<|10::r).trans<|GG ..) (rb (zo (cw h<|by decide+kernel)<|XW r)<|aH (λx=>if c≠19 then R.eA (10::r)else x)<|rb (Lj 10 r) Z)
theorem t8.t17{L:ah}(h:t8 L):L=L.take 17:=(jM<|cC h.gj).symm
theorem Ln{L:ah}(h:t8 L)(xs:aa):gJ (fl<|[w_head]++s8 cf L++xs)=yn 17 (L.take 17) (fl xs):=(aH gJ<|T3.trans<|aH (λv=>w_head++10::(fl (s8 cf v)++fl xs)) h.t17).trans (yo h (bO _) _)
theorem X4{L:ah}(h:t8 L){c:Int}(b:c.natAbs<=1000)(d:c≠19):∃e,gJ (fl<|[w_head]++s8 cf L++[[101,110,100,32]++eF c])=.eA e/\e.length<=(fl [[101,110,100,32]++eF c]).length:=
 have a:yn 17 (L.take 17) (fl [[101,110,100,32]++eF c])=.eA [10]:=rb Z<|re<|(Lm b _).trans<|bI d
 bX _ ((Ln h _).trans a) (GI _ _ _ _ a)
theorem T8{L:ah}(h:t8 L)(t:aq):∃e,gJ (fl<|[w_head]++s8 cf L++[nO 18]++[t])=.eA e/\e.length<=(fl [t]).length:=bX _ ((aH (λx=>gJ<|fl x)<|bF ([w_head]++s8 cf L) [nO 18] [t]).trans<|(Ln h _).trans<|rb Z<|re<|(Lm (c:=19) dc<|fl [t]).trans<|(bu dc).trans<|bu<|List.append_ne_nil_of_right_ne_nil t<|dy 10 []) (bO _)
theorem O9{L:ah}(h:t8 L):gJ (fl<|[w_head]++s8 cf L++[nO 18])=.ok (mkP L,(L.getD 16 []).map toCode):=(Ln h _).trans (rb Z<|rb ((Lm (c:=19) dc []).trans<|(bu dc).trans<|bI Z)<|aH (λv=>R.ok (mkP v,(v.getD 16 []).map toCode)) h.t17.symm)
theorem rB{x:Int}(h:i≠j):dg (l.set i x) j=dg l j:=by unfold dg;exact rr (bx)<|rr (i9 h) Z
theorem gZ{x:Int}(h:i<l.length):dg (l.set i x) i=x:=by refine bL (bx)<|rr (eK h) ?_;rfl
theorem T9{p:kK}{o:Int}{c:Nat}(a:c<p.bB.length)(h:dg p.bB c=o+1):((c:Int)-dg p.dj o,dg p.dp c)∈Ap p o:=List.mem_filterMap.mpr (bX c (J9 a)<|bI h)
theorem X5{p:kK}{o:Int}(h:Ap p o≠[]):∃c:Nat,c<p.bB.length/\dg p.bB c=o+1:=mK (me h) λq r e=>gU (sH (p:=p) (m:=p.bB.length) (o:=o) (q:=q) (rr (show Ap p o=_ from e) (.head _):q∈Ap p o)) λc a U b U=>bX c a b
theorem GJ{p:kK}{cs:Int}(h:kG p m cs=D){r:Nat}(b:r<m):∃o:Nat,dg p.bU r=o/\o<=r/\dg p.bU o=o/\dg p.dj r=dg p.dj o:=by have:=Iz h b;exact zp (aI<|nL<|nL<|nL this) λo a=>lQ o a (li<|a▸aI (nR<|nL<|nL this)) (a▸aI (nR<|nL this))<|a▸aI (nR this)
theorem l9{p:kK}{cs:Int}(h:kG p m cs=D){c:Nat}(a:c<p.bB.length):0<=dg p.bB c/\dg p.bB c<=p.bU.length/\(dg p.bB c=0->dg p.dp c=0)/\(dg p.bB c≠0->dg p.bU (dg p.bB c-1)=dg p.bB c-1/\0<=c-dg p.dj (dg p.bB c-1)/\c-dg p.dj (dg p.bB c-1)<cs):=by have:=EO h a;exact mT (aI<|nL<|nL<|nL this) (aI<|nR<|nL<|nL this) (λe=>(Bool.or_eq_true_iff.mp<|nR<|nL this).elim (λz=>(aI z e).elim) aI) λe=>(Bool.or_eq_true_iff.mp<|nR this).elim (λz=>(e<|aI z).elim) λz=>dW (aI<|nL<|nL z) (aI<|nR<|nL z)<|aI<|nR z
theorem O'{p:kK}{cs:Int}(h:kG p m cs=D){r:Nat}(a:r<m):(∃c:Nat,c<p.bB.length/\dg p.bB c=dg p.bU r+1)\/dg p.dj r=0:=m7 (oa h) λU U b=>(Bool.or_eq_true_iff.mp<|la b r<|J9 a).imp (λz=>X5<|aI z) aI
theorem gv(h:b=D->False):b=bk:=eq_false_of_ne_true h
theorem ZF{b x z:Int}{c:Nat}(h:b=1000\/b=-1000)(a:c<60)(d:z<=60)(e:x=b)(f:0<=(c:Int)-x)(g:(c:Int)-x<z):False:=by
 subst e
 rcases h with rfl|rfl
 .exact cM f<|wj<|Int.sub_neg_of_lt<|adg (it a) dc
 .exact cM (dO g d)<|NY<|bA (by decide:(60:Int)<=0+1000)<|ix (bT c) 1000
theorem T'{p:kK}{cs:Int}(h:kG p m cs=D)(z:p.bB.length<=60)(d:cs<=60){o s:Nat}(g:s<m)(e:dg p.bU s=o):dg p.dj o≠1000/\dg p.dj o≠-1000\/dg p.dj s=0:=by refine(O' h g).imp_left λy=>cK y λc b a=>have f:=(l9 h b).2.2.2 (by refine rr a<|rr e ?_;exact i5<|pR<|bT o);?_;exact⟨λx=>ZF (.inl Z) (cD b z) d x ((eW _ _)▸e▸a▸f).2.1 ((eW _ _)▸e▸a▸f).2.2,λx=>ZF (.inr Z) (cD b z) d x ((eW _ _)▸e▸a▸f).2.1 ((eW _ _)▸e▸a▸f).2.2⟩
theorem EX{p:kK}{cs:Int}(h:kG p m cs=D)(z:p.bB.length<=60)(l:cs<=60){s:Nat}(a:s<m){b:Int}(c:b=1000\/b=-1000):kG {p with dj:=p.dj.set s b} m cs=bk:=by
 refine gv λh'=>have ls:s<p.dj.length:=(fq h).1▸a;?_;refine gU (GJ h a) λo d q r t=>gU (GJ h' a) λn g f2 i f=>?_;dsimp only at g f2 i f;clear f2 i;obtain rfl:o=n:=Qh<|d.symm.trans g;rw [gZ ls]at f;have j:b≠0:=λe=>by rw [e]at c;exact cM c dc
 have use:=T' h' z l a d;dsimp only at use;rw [gZ ls]at use;by_cases k:s=o
 .rw [<-k,gZ ls]at use;exact use.elim (λu=>c.elim u.1 u.2) j
 .rw [rB k]at f use;exact use.elim (λu=>c.elim (λx=>u.1<|f.symm.trans x) λx=>u.2<|f.symm.trans x) j
theorem CG{p:kK}{cs:Int}{o:ar}{s:Nat}(h:s<m)(a:dg o s<0\/(s:Int)<dg o s):kG {p with bU:=o} m cs=bk:=by refine gv λh'=>gU (GJ h' h) λb f f2 c d=>?_;dsimp only at f f2;lia
theorem EY{p:kK}{cs:Int}(h:kG p m cs=D)(u:∀c:Nat,c<p.bB.length->dg p.bB c≠0->dg p.dp c≠0){s:Nat}(b:s<p.bB.length){x:Int}(a:x<0\/(m:Int)<x\/(x=0/\dg p.bB s≠0)):kG {p with bB:=p.bB.set s x} m cs=bk:=by
 refine gv λh'=>?_;have:=l9 h' (c:=s)<|cI b (fD ..).symm;dsimp only at this;replace this:=((fq h).2.1)▸(gZ b)▸this;clear h'
 rcases a with a|a|⟨rfl,a⟩
 .exact NY this.1 a
 .exact NY this.2.1 a
 .exact u s b a<|this.2.2.1 Z
theorem uZ{p:kK}{cs:Int}(h:kG p m cs=D){c:Nat}(d:c<p.bB.length)(f:dg p.bB c≠0):∃o:Nat,dg p.bB c=o+1/\o<m/\(zX p)[o]?=O (Ap p o)/\((c:Int)-dg p.dj o,dg p.dp c)∈Ap p o:=by
 refine Bh (l9 h d) λi j U k=>m7 (k f) λa U U=>zp (pQ<|show 1<=dg p.bB c from Int.lt_iff_le_and_ne.mpr ⟨i,lF f⟩) λo g=>have e:dg p.bB c=o+1:=(rJ _ 1).symm.trans (aH (·+1) g);have b:o<p.bU.length:=zI<|show(o:Int)+1<=p.bU.length from bA (JZ e.symm) j;have a:=g▸a;?_;refine lQ o e ((fq h).2.1▸b:o<m) ?_<|T9 d e;have:p.bU[o]=o:=by
  exact(AR b).symm.trans a
 rw [zX];refine bL (bz)<|rr (aV b)<|rr this ?_;rfl
theorem ab0{st ru:Int}:kH st ru 0=bk:=aH (λb=>(bk&&decide (0<st))||b||bk||bk)<|kP<|decide (-ru<0)
theorem Ua{p:kK}{cs st ru:Int}(h:kG p m cs=D)(a:pz p st ru=D):∀c:Nat,c<p.bB.length->dg p.bB c≠0->dg p.dp c≠0:=λc b d f=>by
 refine gU (uZ h b d) λo U U e g=>?_;have:=la (la a _<|aW e) _ g;exact nq bP (ab0.symm.trans (f▸this:kH st ru 0=D)) ff
theorem Pb{p:kK}{cs st ru:Int}(h:kG p m cs=D)(z:st<=1000/\0<=st/\ru<=1000/\0<=ru){s:Nat}(d:s<p.bB.length){x:Int}(a:(dg p.bB s=0/\x≠0)\/(dg p.bB s≠0/\kH st ru x=bk)):(kG {p with dp:=p.dp.set s x} m cs&&pz {p with dp:=p.dp.set s x} st ru)=bk:=by
 refine gv λh'=>have h':=(eT _ _)▸h';?_;have j:=fq h;refine bV a (λf=>fw f λb a=>?_) λg=>fw g λb a=>?_
 .have:=(l9 h'.1 (c:=s) d).2.2.1 b;dsimp only at this;replace this:=(gZ (by lia:s<p.dp.length)).symm.trans this;exact a this
 .refine gU (uZ h'.1 (c:=s) d b) λo U U e i=>?_;have:=la (la h'.2 _<|aW e) _ i;dsimp only at this;replace this:=a▸(gZ (by lia:s<p.dp.length))▸this;exact nq bP this ff
theorem afj(x:Int):Ba x 1=x%2:=by first|exact bitAnd_m1 x|exact PySem.bitAnd_m1 x|exact PyProof.bitAnd_m1 x|exact PyProof.Rows.bitAnd_m1 x
variable{tv:ar} {jw:ar} {st:Nat}
theorem pX{p:kK}{s:Nat}(a:s<jw.length)(h:nC p tv jw st=D):oj (dg jw s) (dg tv s) st=D/\∀q∈(zX p).getD s [],pC (dg jw s) (dg tv s) q=D:=(an<|la h s<|J9 a).imp id la
theorem Ng{p:kK}{s:Nat}(b:s<jw.length)(h:oj (dg jw s) (dg tv s) st=bk\/∃q∈(zX p).getD s [],pC (dg jw s) (dg tv s) q=bk):nC p tv jw st=bk:=by
 refine gv λh'=>fw (pX b h') λa c=>bV h (λh=>?_) λz=>cK z λq d h=>?_
 .replace a:=h.symm.trans a;exact nq bP a ff
 .replace h:=(c q d).symm.trans h;exact nq bP h ff
theorem Ub{p:kK}{cs:Int}(h:kG p m cs=D)(j:jw.length=m)(a:nC p tv jw st=D):∀c:Nat,c<p.bB.length->dg p.bB c≠0->dg p.dp c≠0:=λc b d f=>by
 refine gU (uZ h b d) λo U k e g=>fw (pX (s:=o) (cI ‹_› (pP ‹_›)) a) λU i=>?_;have:=i _ (by refine rr (bx)<|rr e ?_;exact g);exact cM (f▸aI (nR this):(1:Int)<=0) dc
theorem Lo{p:kK}{cs:Int}(h:kG p m cs=D)(l:jw.length=m){s:Nat}(f:s<p.bB.length){x:Int}(a:(dg p.bB s=0/\x≠0)\/(dg p.bB s≠0/\(x<1\/x=dg tv (dg p.bB s-1)))):(kG {p with dp:=p.dp.set s x} m cs&&nC {p with dp:=p.dp.set s x} tv jw st)=bk:=by
 refine gv λh'=>have h':=an h';have n:=fq h;have b:dg (p.dp.set s x) s=x:=gZ (by lia);bV a (λz=>fw z λd a=>?_) λg=>fw g λd a=>?_
 .exact a<|b.symm.trans<|(l9 h'.1 (c:=s) f).2.2.1 d
 .refine gU (uZ h'.1 (c:=s) f d) λo i q e j=>fw (pX (s:=o) (cI ‹_› (pP ‹_›)) h'.2) λU k=>?_;have:=k _ (by refine rr (bx)<|rr e ?_;exact j);exact a.elim (λa=>cM (aI (nR this):1<=dg (p.dp.set s x) s)<|wj<|b.symm▸a) λa=>(aI (nR<|nL this):dg (p.dp.set s x) s≠dg tv o) (b.trans (a.trans (aH (dg tv) ((aH (·-1) i).trans<|eW ..))))
variable{mask:Int}
theorem ab1{d:Int}(h:oj mask d st=D):(mask=0↔d=-1)/\mask.fdiv (2^st)=0/\d≠0:=dW (aI<|nL<|nL h) (aI<|nR<|nL h)<|aI<|nR h
theorem CH{d x:Int}(h:oj mask d st=D)(a:x=0\/(x=-1/\mask≠0)\/(x=1/\mask=0)):oj mask x st=bk:=by
 refine gv λh'=>m7 (ab1 h') λb U c=>?_;clear h'
 rcases a with rfl|⟨rfl,a⟩|⟨rfl,a⟩
 .exact c Z
 .exact a<|b.mpr Z
 .have:=b.mp a;lia
theorem IJ(k:Nat):(0:Int)<2^k:=Int.pow_pos dc
theorem vR{d x:Int}(h:oj mask d st=D)(a:x=mask+2^st\/x=-1\/(x=0/\mask≠0)\/(x=1/\mask=0)):oj x d st=bk:=by
 refine gv λh'=>m7 (ab1 h) λb f j=>m7 (ab1 h') λg c k=>have i:=IJ st;have e:∀y:Int,y.fdiv (2^st)=y/2^st:=λy=>Fj _<|bT _;?_;clear h'
 rcases a with rfl|rfl|⟨rfl,a⟩|⟨rfl,a⟩
 .rw [e]at c f;have:(mask+2^st)/2^st=mask/2^st+1:=by
   have:=J2 mask 1 (show(2^st:Int)≠0 by lia);simpa using this
  lia
 .rw [e]at c;have:=Int.ediv_neg_of_neg_of_pos (show(-1:Int)<0 by decide) i;lia
 .exact a<|b.mpr<|g.mp Z
 .have:=g.mpr<|b.mp a;lia
theorem Uc{d x:Int}{q:Int×Int}(h:pC mask d q=D)(c:x=mask-2^q.1.toNat):pC x d q=bk:=by
 refine gv λh'=>have a:=aI<|nL<|nL h;have b:=aI<|nL<|nL h';have e:=IJ q.1.toNat;?_;rw [afj,(λy=>Fj _ (bT _):∀y:Int,y.fdiv (2^q.1.toNat)=y/2^q.1.toNat)]at a b;have:x/2^q.1.toNat=mask/2^q.1.toNat-1:=by
  have:=J2 mask (-1) (show(2^q.1.toNat:Int)≠0 by lia);refine rr c ?_;simpa [Int.sub_eq_add_neg]using this
 rw [this]at b;lia
def cU(p:kg)(cs:List (Option<|aw)):ah:=[bQ p.bp,[.aL p.cy],bh p.dt,bh p.dE,bh p.d5,bh p.bC,bh p.dJ.dj,bh p.dJ.dp,bh p.dJ.bB,bh p.dJ.bU,bh p.jT,bh p.dX,bh p.cF.dj,bh p.cF.dp,bh p.cF.bB,bh p.cF.bU,cs.map kR]
@[simp]theorem ti(l:ar):(bh l).map toInt=l:=by
 induction l with
 |nil=>rfl
 |cons a l ih=>exact aH (a::·) ih
@[simp]theorem ts(l:aa):(bQ l).map toS=l:=by
 induction l with
 |nil=>rfl
 |cons a l ih=>exact aH (a::·) ih
@[simp]theorem EZ(l:ar):(bh l).map sh=l.map eF:=eE ..
theorem AS(p:kg)(cs:List (Option<|aw)):Ao p cs=[w_head]++s8 cf (cU p cs):=congr (congr (aH (λ(m:ar->aa) (s:aa->aa) (c:aa)=>[w_head,dP vN<|s p.bp,dP mY [eF p.cy],dP vO<|m p.dt,dP iE<|m p.dE,dP ib<|m p.d5,dP gE<|m p.bC,dP rq<|m p.dJ.dj,dP rv<|m p.dJ.dp,dP rz<|m p.dJ.bB,dP oT<|m p.dJ.bU,dP jl<|m p.jT,dP lg<|m p.dX,dP (lV++rq)<|m p.cF.dj,dP (lV++rv)<|m p.cF.dp,dP (lV++rz)<|m p.cF.bB,dP (lV++oT)<|m p.cF.bU,dP vP c]) (funext λl=>(EZ l).symm:(lG eF)=λl=>(bh l).map sh)) (funext λU=>(eE (g:=sh) (f:=V.aQ)).symm:(lG λs=>sh<|.aQ s)=λl=>(bQ l).map sh)) ((eE (g:=sh) (f:=kR)).symm:(cs.map λu=>sh<|kR u)=(cs.map kR).map sh)
noncomputable def nI(least most many:ao)(l:ar):Bool:=many.all (·==(l.length:Int))&&l.all λx=>least.all (·<=x)&&most.all (x<=·)
theorem nb{x:Bool}:(!(!b||!x))=(b&&x):=by cases b<;>cases x<;>rfl
theorem pO(a b c:ao)(l:ar):wF a b c (bh l)=nI a b c l:=by
 unfold wF nI;refine rr (show(bh l).all (uR a b)=_ from ub:(bh l).all (uR a b)=l.all λx=>a.all (·<=x)&&b.all (x<=·))<|rr (cZ _) ?_;induction c with
 |none=>exact nb (b:=D)
 |some m=>exact nb
theorem zv{a b c:ao}(h:nI a b c l=D):(∀m,c=O m->m=l.length)/\∀x∈l,(∀y,a=O y->y<=x)/\∀y,b=O y->x<=y:=⟨λm hm=>cR (hm▸nL h:(O m).all (·==(l.length:Int))=D),λx hx=>⟨λy hy=>aI (hy▸nL (la (nR h) x hx):(O y).all (·<=x)=D),λy hy=>aI (hy▸nR (la (nR h) x hx):(O y).all (x<=·)=D)⟩⟩
theorem nU{a b c:ao}(h:(∃m,c=O m/\m≠l.length)\/∃x∈l,(∃y,a=O y/\x<y)\/∃y,b=O y/\y<x):nI a b c l=bk:=by
 refine gv λh'=>fw (zv h') λh1 h2=>bV h (λo9=>cK o9 λm e n=>?_) λQn=>cK Qn λx hx zz3=>bV zz3 (λzz4=>cK zz4 λy e n=>?_) λzz5=>cK zz5 λy e n=>?_
 .exact n<|h1 m e
 .have:=(h2 x hx).1 y e;exact wj ‹_› ‹_›
 .have:=(h2 x hx).2 y e;exact wj ‹_› ‹_›
@[simp]theorem IM(l:ar):nI X X X l=D:=al λU U=>rfl
section
variable{p:kg}
noncomputable def xo(p:kg):Int:=(p.bp.length:Int)-p.cy
theorem c0:sP 0 ((cU p cs).take 1)=O (xY (bQ p.bp)&&decide (p.bp.take 3=jm)):=by show O (xY (bQ p.bp)&&decide (((bQ p.bp).map toS).take 3=jm))=_;exact rr (ts _) Z
theorem c1:sP 1 ((cU p cs).take 2)=O (nI (O 3) (O<|(p.bp.length:Int)-1) (O 1) [p.cy]):=by show O (wF (O 3) (O<|(((bQ p.bp).map toS).length:Int)-1) (O 1)<|bh [p.cy])=_;exact rr (ts _)<|rr (pO _ _ _ _) Z
theorem c2:sP 2 ((cU p cs).take 3)=O (nI (O p.cy) (O<|(p.bp.length:Int)-1) X p.dt&&zY p.bp p.cy p.dt):=by show O (wF (O p.cy) (O<|(((bQ p.bp).map toS).length:Int)-1) X (bh p.dt)&&zY ((bQ p.bp).map toS) p.cy ((bh p.dt).map toInt))=_;exact rr (ts _)<|rr (ti _)<|rr (pO _ _ _ _) Z
theorem c3:sP 3 ((cU p cs).take 4)=O (nI (O 0) X (O (p.dt.length:Int)) p.dE):=by show O (wF (O 0) X (O (((bh p.dt).map toInt).length:Int))<|bh p.dE)=_;exact rr (ti _)<|rr (pO _ _ _ _) Z
theorem c4:sP 4 ((cU p cs).take 5)=O (nI (O 0) X (O (p.dt.length:Int)) p.d5&&pW p.dE p.d5 p.dt.length):=by show O (wF (O 0) X (O (((bh p.dt).map toInt).length:Int)) (bh p.d5)&&pW ((bh p.dE).map toInt) ((bh p.d5).map toInt) ((bh p.dt).map toInt).length)=_;exact rr (ti p.dt)<|rr (ti p.dE)<|rr (ti p.d5)<|rr (pO ..) Z
theorem c5:sP 5 ((cU p cs).take 6)=O (nI (O 0) (O<|(p.dt.length:Int)-1) X p.bC&&decide (p.bC≠[])):=by show O (wF (O 0) (O<|(((bh p.dt).map toInt).length:Int)-1) X (bh p.bC)&&decide (((bh p.bC).map toInt)≠[]))=_;exact rr (ti _)<|rr (ti _)<|rr (pO _ _ _ _) Z
theorem c9:sP 9 ((cU p cs).take 10)=O (kG p.dJ p.bC.length p.cy&&pz p.dJ p.bC.length p.dt.length):=by show O (wF X X X (bh p.dJ.bU)&&(kG ⟨(bh p.dJ.dj).map toInt,(bh p.dJ.dp).map toInt,(bh p.dJ.bB).map toInt,(bh p.dJ.bU).map toInt⟩ ((bh p.bC).map toInt).length p.cy&&pz ⟨(bh p.dJ.dj).map toInt,(bh p.dJ.dp).map toInt,(bh p.dJ.bB).map toInt,(bh p.dJ.bU).map toInt⟩ ((bh p.bC).map toInt).length ((bh p.dt).map toInt).length))=_;simp only [ti,pO,IM,Z5]
theorem c10:sP 10 ((cU p cs).take 11)=O (nI (O<|-1) (O<|(p.bC.length:Int)-1) (O<|xo p) p.jT):=by show O (wF (O<|-1) (O<|(((bh p.bC).map toInt).length:Int)-1) (O<|(((bQ p.bp).map toS).length:Int)-p.cy)<|bh p.jT)=_;refine rr (ti _)<|rr (ts _)<|rr (pO _ _ _ _) ?_;rfl
theorem c11:sP 11 ((cU p cs).take 12)=O (nI X X (O<|xo p) p.dX):=by show O (wF X X (O<|(((bQ p.bp).map toS).length:Int)-p.cy)<|bh p.dX)=_;refine rr (ts _)<|rr (pO _ _ _ _) ?_;rfl
theorem c13:sP 13 ((cU p cs).take 14)=O (nI (O 0) (O<|(p.bC.length:Int)-1) X p.cF.dp):=by show O (wF (O 0) (O<|(((bh p.bC).map toInt).length:Int)-1) X<|bh p.cF.dp)=_;exact rr (ti _)<|rr (pO _ _ _ _) Z
theorem c15:sP 15 ((cU p cs).take 16)=O (kG p.cF (xo p).toNat p.bC.length&&nC p.cF p.jT p.dX p.bC.length):=by show O (wF X X X (bh p.cF.bU)&&(kG ⟨(bh p.cF.dj).map toInt,(bh p.cF.dp).map toInt,(bh p.cF.bB).map toInt,(bh p.cF.bU).map toInt⟩ ((((bQ p.bp).map toS).length:Int)-p.cy).toNat ((bh p.bC).map toInt).length&&nC ⟨(bh p.cF.dj).map toInt,(bh p.cF.dp).map toInt,(bh p.cF.bB).map toInt,(bh p.cF.bU).map toInt⟩ ((bh p.jT).map toInt) ((bh p.dX).map toInt) ((bh p.bC).map toInt).length))=_;simp only [ti,ts,pO,IM,Z5];rfl
theorem c16:sP 16 ((cU p cs).take 17)=if cs.length≠p.dt.length then O bk else fS (cs.map kR):=by show(if(cs.map kR).length≠((bh p.dt).map toInt).length then O bk else fS (cs.map kR))=_;exact rr (ti _)<|rr (aT _) Z
structure gK(p:kg):Prop where
 nd:xY (bQ p.bp)=D
 fn:p.bp.take 3=jm
 cnt:3<=p.cy/\p.cy<=(p.bp.length:Int)-1
 lef:nI (O p.cy) (O<|(p.bp.length:Int)-1) X p.dt=D
 fst:zY p.bp p.cy p.dt=D
 gj:nI (O 0) X (O (p.dt.length:Int)) p.dE=D
 bef:nI (O 0) X (O (p.dt.length:Int)) p.d5=D
 ahd:pW p.dE p.d5 p.dt.length=D
 tv:nI (O 0) (O<|(p.dt.length:Int)-1) X p.bC=D
 dne:p.bC≠[]
 dJ:kG p.dJ p.bC.length p.cy=D
 oka:pz p.dJ p.bC.length p.dt.length=D
 gdf:nI (O<|-1) (O<|(p.bC.length:Int)-1) (O<|xo p) p.jT=D
 gms:nI X X (O<|xo p) p.dX=D
 gtb:nI (O 0) (O<|(p.bC.length:Int)-1) X p.cF.dp=D
 cF:kG p.cF (xo p).toNat p.bC.length=D
 Pc:nC p.cF p.jT p.dX p.bC.length=D
def gO(p:kg)(cs:List (Option<|aw))(k:Nat)(v:aw):Prop:=∃j,k<=j/\j<17/\sP j (((cU p cs).set k v).take<|j+1)=O bk
variable{p':kg}
theorem IP{v:aw}(e:(cU p cs).set k v=cU p' cs)(h:∃j,k<=j/\j<17/\sP j ((cU p' cs).take<|j+1)=O bk):gO p cs k v:=by unfold gO;exact rr e h
theorem oF(F:gK p){c:Int}(h:c=2\/c=p.bp.length\/c=p.cy+1\/c=p.cy-1):gO p cs 1 [.aL c]:=by
 refine IP (p':={p with cy:=c}) Z ?_;have f:=F.fst;have h2:dg p.dt 0=p.cy:=aI<|nR<|nL f;have h0:p.cy∈p.dt:=mK (me<|aI<|nR<|nL<|nL f) λy r e=>rr e<|List.mem_cons.mpr<|.inl<|show p.cy=y from(e▸h2:dg (y::r) 0=p.cy).symm
 rcases h with rfl|rfl|rfl|rfl
 .exact fW 1 (by decide) (by decide)<|c1.trans<|aH O<|nU<|.inr<|bX 2 (.head _)<|.inl<|bX 3 Z dc
 .exact fW 1 (by decide) (by decide)<|c1.trans<|aH O<|nU<|.inr<|bX (p.bp.length:Int) bS<|.inr<|bX _ Z<|vu _ dc
 .exact fW 2 (by decide) (by decide)<|c2.trans<|aH O<|e7<|nU<|.inr<|bX _ h0<|.inl<|bX _ Z<|fb _
 .exact fW 2 (by decide) (by decide)<|c2.trans<|aH O<|jv<|e7<|jv (bj λz=>by have:=h2.symm.trans z;lia)
theorem yp(h:l.length≠1):gO p cs 1 (bh l):=by
 refine fW 1 dc dc ?_;have:sP 1 (((cU p cs).set 1<|bh l).take 2)=O (nI (O 3) (O<|(p.bp.length:Int)-1) (O 1) l):=by refine rl (pO _ _ _ _) ?_;show O (wF (O 3) (O<|(((bQ p.bp).map toS).length:Int)-1) (O 1)<|bh l)=_;exact rr (ts _) Z
 exact this.trans (aH O<|nU<|.inl<|bX 1 Z<|by lia)
end
section
variable{p:kg}
theorem iU{s:Nat}{x:Int}(h:s<l.length):x∈l.set s x:=gi_<|eK h
theorem jG{v:aw}(e:(cU p cs).set k v=cU p' cs)(h:k<=j)(a:j<17)(c:sP j ((cU p' cs).take<|j+1)=O b)(d:b=bk):gO p cs k v:=IP e<|fW j h a<|bL c<|rr d Z
theorem sQ(F:gK p):p.dE.length=p.dt.length/\p.d5.length=p.dt.length/\(p.jT.length:Int)=xo p/\(p.dX.length:Int)=xo p:=by have a:=(zv F.gj).1 _ Z;have b:=(zv F.bef).1 _ Z;have c:=(zv F.gdf).1 _ Z;have d:=(zv F.gms).1 _ Z;lia
theorem vS(F:gK p){s:Nat}(a:s<p.dt.length){x:Int}(h:x<p.cy\/(p.bp.length:Int)<=x\/(s=0/\x≠p.cy)\/(0<s/\x=p.cy)):gO p cs 2 (bh<|p.dt.set s x):=by
 refine jG (p':={p with dt:=p.dt.set s x}) Z dc dc c2 ?_;dsimp only
 rcases h with h|h|⟨rfl,h⟩|⟨h0,rfl⟩
 .exact e7<|nU<|.inr<|bX x (iU a)<|.inl<|bX _ Z h
 .exact e7 (nU<|.inr<|bX x (iU a)<|.inr<|bX _ Z<|by lia)
 .refine jv<|gv λh'=>?_;exact h<|(gZ (x:=x) a).symm.trans<|aI<|nR<|nL h'
 .refine jv<|gv λh'=>?_;refine aI (nR h')<|gi_ (i:=s-1)<|List.getElem?_drop.trans ?_;exact rr (iL h0:1+(s-1)=s)<|eK a
theorem DQ(F:gK p)(h:l.length≠p.dt.length):gO p cs 2 (bh l):=by refine jG (p':={p with dt:=l}) Z dc dc c3 ?_;have:=sQ F;exact nU<|.inl<|bX _ Z (by dsimp only;lia)
theorem vc(F:gK p){s:Nat}(a:s<p.dt.length){x:Int}(h:x<0\/(s=0/\x≠2)):gO p cs 3 (bh<|p.dE.set s x):=by
 have b:=sQ F
 rcases h with h|⟨rfl,h⟩
 .exact jG (p':={p with dE:=p.dE.set s x}) Z dc dc c3<|nU<|.inr<|bX x (iU<|by lia)<|.inl<|bX _ Z h
 .refine jG (p':={p with dE:=p.dE.set 0 x}) Z dc dc c4<|jv<|gv λh'=>?_;exact h<|(gZ (l:=p.dE) (i:=0) (x:=x)<|by lia).symm.trans<|aI<|nL h'
theorem Aq(F:gK p)(h:l.length≠p.dE.length):gO p cs 3 (bh l):=by refine jG (p':={p with dE:=l}) Z dc dc c3 ?_;have:=sQ F;exact nU<|.inl<|bX _ Z (by dsimp only;lia)
theorem z5(F:gK p){s:Nat}(a:s<p.dt.length){x:Int}(h:x<0\/(x≠0/\dg p.dE s≠0)):gO p cs 4 (bh<|p.d5.set s x):=by
 have d:=sQ F;refine jG (p':={p with d5:=p.d5.set s x}) Z dc dc c4<|bV h (λh=>?_) λb=>fw b λh c=>?_
 .exact e7<|nU<|.inr<|bX x (iU<|by lia)<|.inl<|bX _ Z h
 .refine jv<|gv λh'=>?_;exact(Bool.or_eq_true_iff.mp<|la (nR h') s<|J9 a).elim (λz=>h<|(gZ<|by lia).symm.trans<|aI z) λz=>c<|aI z
theorem Ar(F:gK p)(h:l.length≠p.d5.length):gO p cs 4 (bh l):=by refine jG (p':={p with d5:=l}) Z dc dc c4 ?_;have:=sQ F;exact e7<|nU<|.inl<|bX _ Z (by dsimp only;lia)
theorem yq{s:Nat}(a:s<p.bC.length){x:Int}(h:x<0\/(p.dt.length:Int)<=x):gO p cs 5 (bh<|p.bC.set s x):=jG (p':={p with bC:=p.bC.set s x}) Z dc dc c5<|bV h (λh=>e7<|nU<|.inr<|bX x (iU a)<|.inl<|bX _ Z h) λh=>e7<|nU<|.inr<|bX x (iU a)<|.inr<|bX _ Z (by dsimp only;lia)
theorem zw(F:gK p)(h:l.length≠p.bC.length):gO p cs 5 (bh l):=by refine jG (p':={p with bC:=l}) Z (show 5<=9 by decide) dc c9<|e7<|gv λh'=>?_;have a:=fq F.dJ;have b:=fq h';dsimp only at b;lia
theorem rC{v:aw}{r:kK}(e:(cU p cs).set k v=cU {p with dJ:=r} cs)(a:k<=9)(h:(kG r p.bC.length p.cy&&pz r p.bC.length p.dt.length)=bk):gO p cs k v:=jG (p':={p with dJ:=r}) e a dc c9 h
theorem rD{r:kK}{c:Int}(h:r.dj.length≠m\/r.bU.length≠m\/r.dp.length≠r.bB.length):kG r m c=bk:=by refine gv λh'=>?_;have:=fq h';lia
theorem rE(F:gK p):(∀l:ar,l.length≠p.dJ.dj.length->gO p cs 6 (bh l))/\(∀l:ar,l.length≠p.dJ.dp.length->gO p cs 7 (bh l))/\(∀l:ar,l.length≠p.dJ.bB.length->gO p cs 8 (bh l))/\∀l:ar,l.length≠p.dJ.bU.length->gO p cs 9 (bh l):=by have a:=fq F.dJ;refine mT (λl h=>rC (r:={p.dJ with dj:=l}) Z dc<|e7<|rD<|.inl (by dsimp only;lia)) (λl h=>rC (r:={p.dJ with dp:=l}) Z dc<|e7<|rD<|.inr<|.inr (by dsimp only;lia)) (λl h=>rC (r:={p.dJ with bB:=l}) Z dc<|e7<|rD<|.inr<|.inr (by dsimp only;lia)) λl h=>rC (r:={p.dJ with bU:=l}) Z dc<|e7<|rD<|.inr<|.inl (by dsimp only;lia)
theorem rF{v:aw}{r:kK}(e:(cU p cs).set k v=cU {p with cF:=r} cs)(a:k<=15)(h:(kG r (xo p).toNat p.bC.length&&nC r p.jT p.dX p.bC.length)=bk):gO p cs k v:=jG (p':={p with cF:=r}) e a dc c15 h
theorem rG(F:gK p):(∀l:ar,l.length≠p.cF.dj.length->gO p cs 12 (bh l))/\(∀l:ar,l.length≠p.cF.dp.length->gO p cs 13 (bh l))/\(∀l:ar,l.length≠p.cF.bB.length->gO p cs 14 (bh l))/\∀l:ar,l.length≠p.cF.bU.length->gO p cs 15 (bh l):=by have a:=fq F.cF;refine mT (λl h=>rF (r:={p.cF with dj:=l}) Z dc<|e7<|rD<|.inl (by dsimp only;lia)) (λl h=>rF (r:={p.cF with dp:=l}) Z dc<|e7<|rD<|.inr<|.inr (by dsimp only;lia)) (λl h=>rF (r:={p.cF with bB:=l}) Z dc<|e7<|rD<|.inr<|.inr (by dsimp only;lia)) λl h=>rF (r:={p.cF with bU:=l}) Z dc<|e7<|rD<|.inr<|.inl (by dsimp only;lia)
theorem GK(F:gK p)(h:l.length≠p.jT.length):gO p cs 10 (bh l):=by refine jG (p':={p with jT:=l}) Z dc dc c10 ?_;have:=sQ F;exact nU<|.inl<|bX _ Z (by show xo p≠(l.length:Int);lia)
theorem DR(F:gK p)(h:l.length≠p.dX.length):gO p cs 11 (bh l):=by refine jG (p':={p with dX:=l}) Z dc dc c11 ?_;have:=sQ F;exact nU<|.inl<|bX _ Z (by show xo p≠(l.length:Int);lia)
theorem Pd(F:gK p){s:Nat}(a:s<p.jT.length){x:Int}(h:x< -1\/(p.bC.length:Int)<=x\/x=0\/(x=-1/\dg p.dX s≠0)\/(x=1/\dg p.dX s=0)):gO p cs 10 (bh<|p.jT.set s x):=by
 have d:=sQ F;have k:oj (dg p.dX s) x p.bC.length=bk->gO p cs 10 (bh<|p.jT.set s x):=λh=>by
  refine jG (p':={p with jT:=p.jT.set s x}) Z (show 10<=15 by decide) dc c15<|jv<|Ng (s:=s) (by dsimp only;lia)<|.inl ?_;dsimp only;exact rr (gZ a) h
 have g:=(pX (s:=s) (by lia) F.Pc).1;exact bV h (λh=>jG (p':={p with jT:=p.jT.set s x}) Z dc dc c10<|nU<|.inr<|bX x (iU a)<|.inl<|bX _ Z h) λz=>bV z (λh=>jG (p':={p with jT:=p.jT.set s x}) Z dc dc c10<|nU<|.inr<|bX x (iU a)<|.inr<|bX _ Z (by dsimp only;lia)) λb=>bV b (λh=>k<|CH g<|.inl h) λc=>bV c (λh=>k<|CH g<|.inr<|.inl h) λh=>k<|CH g<|.inr<|.inr h
theorem Lp(F:gK p){s:Nat}(a:s<p.dX.length){x:Int}(h:x=dg p.dX s+2^p.bC.length\/x=-1\/(x=0/\dg p.dX s≠0)\/(x=1/\dg p.dX s=0)\/∃q∈(zX p.cF).getD s [],x=dg p.dX s-2^q.1.toNat):gO p cs 11 (bh<|p.dX.set s x):=by refine jG (p':={p with dX:=p.dX.set s x}) Z (show 11<=15 by decide) dc c15<|jv<|Ng (s:=s) (cI a (fD ..).symm) ?_;dsimp only;exact rr (gZ a)<|bV h (λh=>.inl<|vR (pX a F.Pc).1<|.inl h) λz=>bV z (λh=>.inl<|vR (pX a F.Pc).1<|.inr<|.inl h) λc=>bV c (λh=>.inl<|vR (pX a F.Pc).1<|.inr<|.inr<|.inl h) λd=>bV d (λh=>.inl<|vR (pX a F.Pc).1<|.inr<|.inr<|.inr h) λe=>cK e λq b h=>.inr<|bX q b<|Uc ((pX a F.Pc).2 q b) h
end
section
variable{p:kg}
theorem ZG{l:aw}(h:(∃x∈l,Zq x=bk)\/¬(l.map toS).Nodup):xY l=bk:=gv λh'=>h.elim (λz=>cK z λx a e=>nq bP (e.symm.trans<|la (nL h') x a) ff) λh=>h<|aI<|nR h'
theorem c0'(v:aw):sP 0 (((cU p cs).set 0 v).take 1)=O (xY v&&decide ((v.map toS).take 3=jm)):=rfl
theorem Pe{l:aw}{s:Nat}{x:V}(h:s<l.length):x∈l.set s x:=gi_<|eK h
theorem IQ{s:Nat}(a:s<p.bp.length){x:V}(h:Zq x=bk):gO p cs 0 ((bQ p.bp).set s x):=(fW 0 dc dc<|by exact aH O<|e7<|ZG<|.inl<|bX x (Pe<|cI a (dI _).symm) h)
theorem GL(l:aa)(s:Nat)(x:aq):(bQ l).set s (.aQ x)=bQ (l.set s x):=List.map_set.symm
theorem Pf{s t:Nat}(a:s<p.bp.length)(b:t<p.bp.length)(h:s≠t):gO p cs 0 ((bQ p.bp).set s<|.aQ<|p.bp.getD t []):=by
 refine fW 0 dc dc ?_;refine rr (GL _ _ _)<|bL (c0' _)<|?_;refine aH O<|e7<|ZG<|.inr ?_;refine rr (ts _) ?_;intro n;have c:(p.bp.set s<|p.bp.getD t [])[t]?=O (p.bp.getD t []):=by
  refine bL (i9 h)<|rr (bx)<|rr (aV b) ?_;rfl
 refine gs (eK a:(p.bp.set s<|p.bp.getD t [])[s]?=O (p.bp.getD t [])) λi q1=>?_;exact gs c λd q=>h<|(tN n).mp<|q1.trans q.symm
theorem Ph(F:gK p){s:Nat}(b:s<3)(c:3<=p.bp.length):gO p cs 0 ((bQ p.bp).set s<|.aQ [120]):=by
 refine fW 0 dc dc ?_;refine rr (GL _ _ _)<|bL (c0' _)<|rr (ts _) ?_;refine aH O<|jv<|bj λh=>?_;have:(p.bp.set s [120])[s]?=O [120]:=eK<|cD ‹_› ‹_›;have a:((p.bp.set s [120]).take 3)[s]?=O [120]:=by refine rr (List.getElem?_take)<|rr (bI b) ?_;exact this
 replace a:=h▸a;exact(by decide:∀s<3,jm[s]?≠O [120]) s b a
theorem Lr{s:Nat}(a:s<p.bp.length)(b:p.cy=s):gO p cs 0 ((bQ p.bp).set s<|.aQ [120]):=by refine rr (GL _ _ _)<|jG (p':={p with bp:=p.bp.set s [120]}) Z (show 0<=2 by decide) dc c2<|jv<|gv λh=>?_;have:=aI<|nL<|nL<|nL h;replace this:=(eK a)▸(bx)▸(lX _)▸b▸this;simp at this
theorem IS(m s:Nat){v:V}(a:s<m)(h:pD v=O bk):fS ((bg m V.bR).set s v)=O bk:=by
 induction m generalizing s with
 |zero=>cases a
 |succ m i=>
  induction s with
  |zero=>exact aH (λo:ai=>o.bind λb=>if b then fS (bg m V.bR)else O bk) h
  |succ s=>
   exact i s<|Af a
theorem ahX(v:aw):sP 16 (((cU p cs).set 16 v).take 17)=if v.length≠p.dt.length then O bk else fS v:=by show(if v.length≠((bh p.dt).map toInt).length then O bk else fS v)=_;exact rr (ti _) Z
theorem Ud{s:Nat}{v:V}(a:s<p.dt.length)(h:pD v=O bk):gO p cs 16 ((bg p.dt.length V.bR).set s v):=by refine fW 16 dc dc ?_;refine rr (ahX _)<|rr (bu<|by simp) ?_;exact IS _ s a h
structure Ue(p:kg)(cs:List (Option<|aw)):Prop where
 gj:cs.length=p.dt.length
 all:fS (cs.map kR)=O D
theorem tt{a:Bool}(x:a=D)(y:b=D):O (a&&b)=O D:=by refine rr x<|rr y ?_;rfl
theorem Dg{P:Nat->Prop}(h:∀k∈[0,1,2,3,4,5,6,7,8,9,10,11,12,13,14,15,16],P k)(a:k<17):P k:=h k<|show k∈dk 17 from J9 a
theorem tG(F:gK p)(C:Ue p cs)(R:∀v∈cU p cs,Hq v):t8 (cU p cs):=⟨Z,R,λj a=>Dg (P:=λj=>sP j ((cU p cs).take<|j+1)=O D) (fc (c0.trans<|tt F.nd<|aN F.fn)<|fc (c1.trans<|aH O<|nA (rfl)<|nA (nA (aN F.cnt.1)<|aN F.cnt.2)<|rfl)<|fc (c2.trans<|tt F.lef F.fst)<|fc (c3.trans<|aH O F.gj)<|fc (c4.trans<|tt F.bef F.ahd)<|fc (c5.trans<|tt F.tv<|aN F.dne)<|fc (aH O<|(pO X X X _).trans<|IM _)<|fc (aH O<|(pO X X X _).trans<|IM _)<|fc (aH O<|(pO X X X _).trans<|IM _)<|fc (c9.trans<|tt F.dJ F.oka)<|fc (c10.trans<|aH O F.gdf)<|fc (c11.trans<|aH O F.gms)<|fc (aH O<|(pO X X X _).trans<|IM _)<|fc (c13.trans<|aH O F.gtb)<|fc (aH O<|(pO X X X _).trans<|IM _)<|fc (c15.trans<|tt F.cF F.Pc)<|fc (c16.trans<|(bu λh=>h C.gj).trans C.all) f0) a⟩
theorem Ug{o:Option α}{f:α->Bool}(h:∀y,o=O y->f y=D):o.all f=D:=by
 induction o with
 |none=>rfl
 |some y=>exact h y Z
theorem Ls{a b c:ao}{s:Nat}{x:Int}(h:nI a b c l=D)(d:∀y,a=O y->y<=x)(f:∀y,b=O y->x<=y):nI a b c (l.set s x)=D:=nA (rr (fD)<|nL h) (al λz g=>(mE g).elim (la (nR h) z) λe=>e▸nA (Ug λy e=>aN<|d y e) (Ug λy e=>aN<|f y e))
theorem DS(F:gK p){s:Nat}{x:Int}(m:0<=x/\x<p.dt.length):gK {p with bC:=p.bC.set s x}:=by
 have e:(p.bC.set s x).length=p.bC.length:=fD ..;obtain⟨a1,a,b,c,d,f,g,i,j,k,n,o,q,l,r,t,u⟩:=F;refine⟨a1,a,b,c,d,f,g,i,Ls j (λy h=>by refine rl (aJ h) ?_;lia) (λy h=>by refine rl (aJ h) ?_;dsimp only;lia),?_,?_,?_,?_,l,?_,?_,?_⟩
 all_goals dsimp only
 .intro h;exact k (by rw [<-Hz]at h⊢;refine rl e ?_;exact h)
 all_goals refine rr e ?_
 all_goals assumption
theorem E0{a b:ar}{s:Nat}{x:Int}(h:pW a b m=D):(0<s->dg b s=0->pW (a.set s x) b m=D)/\(s<a.length->dg a s=0->pW a (b.set s x) m=D):=by
 refine⟨λf c=>nA (aN<|(rB<|mC f).trans<|aI<|nL h)<|al λr d=>?_,λf c=>nA (nL h)<|al λr d=>?_⟩
 .by_cases e:s=r
  .exact oB<|.inl<|aN<|e▸c
  .exact rr (rB e)<|la (nR h) r d
 .by_cases e:s=r
  .exact oB<|.inr<|aN<|e▸c
  .exact rr (rB e)<|la (nR h) r d
theorem GN(F:gK p){s:Nat}{x:Int}(a:0<s)(b:dg p.d5 s=0)(c:0<=x):gK {p with dE:=p.dE.set s x}:={F with gj:=Ls F.gj (λy h=>aJ h▸c) λy h=>nq aP h ff,ahd:=(E0 F.ahd).1 a b}
theorem GO(F:gK p){s:Nat}{x:Int}(a:s<p.dE.length)(b:dg p.dE s=0)(c:0<=x):gK {p with d5:=p.d5.set s x}:={F with bef:=Ls F.bef (λy h=>aJ h▸c) λy h=>nq aP h ff,ahd:=(E0 F.ahd).2 a b}
end
abbrev Nh(row:af):Prop:=row.Pairwise λa b=>a.1<b.1
theorem IT(h:Nh row):jY (row.map (·.1))=row.map (·.1):=EA (iD _) (xV _) (List.pairwise_map.mpr<|h.imp λh=>ew h)
theorem qH:∀l:af,wR (fC l)=O (l.map λp=>[p.1,p.2]):=by
 intro a;induction a with
 |nil=>
  exact Z
 |cons p r i=>
  show(wR<|fC r).map ([p.1,p.2]::·)=_;exact rr i Z
theorem Uh{a b:af}(h:(a.map λp=>[p.1,p.2])=(b.map λp=>[p.1,p.2])):a=b:=by
 induction a generalizing b with
 |nil=>
  induction b with
  |nil=>rfl
  |cons q s=>exact nq ek h ff
 |cons p r i=>
  induction b with
  |nil=>exact nq ek h ff
  |cons q s=>
   have e:=gg h;have c:=gg e.1;exact congr (aH af5<|D0 c.1 (gg c.2).1)<|i e.2
noncomputable def dQ(rows:List (List<|Int×Int)):ar:=rows.map λr=>(rows.idxOf r:Int)
theorem IU [BEq α] [LawfulBEq α](a:α)(r:List α):∀l:List α,a∉l->(l++a::r).idxOf a=l.length:=by
 intro c;induction c with
 |nil=>
  intro U;refine rr (C9)<|rr (beq_self_eq_true _) ?_;rfl
 |cons b l i=>
  intro h;have h:=not_or.mp λx=>h<|List.mem_cons.mpr x;refine bL (C9)<|rr (beq_false_of_ne<|lF h.1)<|rr (i h.2) ?_;rfl
theorem Pj(kv:List (ae×V))(k x:ae)(v:V)(h:mi kv k=X):mi (kv++[(k,v)]) x=if x=k then O v else mi kv x:=by
 induction kv with
 |nil=>
  show(if k=x then O v else X)=if x=k then O v else X
  by_cases e:k=x
  .exact rr (bI e)<|rr (bI e.symm) Z
  .exact rr (bu e)<|rr (bu<|lF e) Z
 |cons p r i=>
  obtain⟨a,b⟩:=p;unfold mi at h;by_cases d:a=k
  .replace h:=(bI d)▸h;exact nq aP h ff
  replace h:=(bu d)▸h;refine rr (VO) ?_;rw [mi,mi];refine rr (i h) ?_;by_cases c:a=x
  .exact rr (bI c)<|rr (bI c)<|rr (bu λe=>d<|c.trans e) Z
  .exact rr (bu c)<|rr (bu c) Z
theorem DL.at(H:HD Y hs rows)(h:k<rows.length):∃d r,mO (hs.map V.S) (k:Int)=O (.S d)/\rows[k]?=O r/\rows.getD k []=r/\Y d=O (.cQ<|r9 r):=by have e:hs[k]?=O (hs[k]'(rr (H.1) h)):=aV _;exact cK (H.2 k _ e) λr r1 a=>gk _ r ((kq ..).trans<|(bz ..).trans<|aH (qP V.S) e) r1 (by refine bL (bx)<|rr r1 ?_;rfl) a
def DT(Y:N)(d:a8)(kv:List (ae×V)):Prop:=kv=[]/\Y d=O (.cQ [])\/Y d=O (.sv kv)
variable{key:ae}
theorem Ui{d:a8}{kv:List (ae×V)}{ks:aw}(h:DT Y d kv)(a:wR ks=O key)(c:(mi kv key).isSome=b)(q:P (!b)):gX ((BB (.bD ks) d Y).map (!·)) P:=by
 rw [BB]
 rcases h with⟨rfl,h⟩|h
 .refine rr h ?_;subst c;dsimp only [dIn];exact rr a q
 .refine rr h ?_;dsimp only;rw [a,pH,c];exact q
theorem ab2{d:a8}{kv:List (ae×V)}{ks:aw}{v:V}(h:DT Y d kv)(a:wR ks=O key)(b:kv.length<=1000)(c:mi kv key=X)(q:aE (Y.aX d<|.sv<|kv++[(key,v)])):nj d (.bD ks) v Y aE:=by
 rcases h with⟨rfl,h⟩|h
 .exact .o h Z a q
 .exact .t h b Z a c q
theorem Uj{d:a8}{kv:List (ae×V)}{ks:aw}{v:V}{P:V->Prop}(h:DT Y d kv)(b:wR ks=O key)(a:mi kv key=O v)(q:P v):Q7 d (.bD ks) Y P:=by
 rcases h with⟨rfl,h⟩|h
 .exact nq aP a ff
 .exact .t h Z b a q
theorem DT.dq{d:a8}{kv:List (ae×V)}(h:DT Y d kv)(x:bH Y c8):DT c8 d kv:=h.imp (λh=>⟨h.1,x _ _ h.2⟩)<|x _ _
structure OW(Y:N)(rows:List (List<|Int×Int))(d l:a8)(k:Nat)(kv:List (ae×V))(c8:N):Prop where
 x:bH Y c8
 l:c8 l=O (.aF<|bh<|(dQ rows).take k)
 d:DT c8 d kv
 z:kv.length<=k
 f:∀row,mi kv (row.map λp=>[p.1,p.2])=if row∈rows.take k then O (.aL<|rows.idxOf row)else X
theorem Pk(h:rows[k]?=O row)(b:row∉rows.take k):rows.idxOf row=k:=by refine gs h λa c=>?_;have:=IU row (rows.drop<|k+1) (rows.take k) b;rw [<-(by exact rl c (rl (fY a)<|rr (hO _ _) Z):rows=rows.take k++row::rows.drop (k+1))]at this;exact rr this<|iI<|dH a
theorem vT(h:rows[k]?=O row){r:af}:r∈rows.take (k+1)↔r∈rows.take k\/r=row:=by refine rr (dK)<|rr h ?_;exact List.mem_append.trans<|or_congr_right List.mem_singleton
section
variable{E:Ex}
theorem Pl(W:WA g)(o:3<=n){x:a8}(f:Y x=O (.cQ<|r9 row))(i:Nh row)(p:row.length<64)(q:∀a,bH Y a->Q (.bD<|fC row) a):bE ⟨g,X,n⟩ (.S 360) [.S x] Y Q E:=by
 refine W.e 16 o Z Z Z<|lz Z f (sJ row) (rr (aT _) p) λr s=>rr (IT i)<|have j:=bH.cu (C:=.aF (bh (row.map (·.1)))) s;have b:=N.aM Y r (.aF (bh (row.map (·.1))));?_;generalize Y.aX r (.aF (bh (row.map (·.1))))=j8 at*;refine zh (hd:=X) (it:=.S r) (jD b) (λk c a=>c=fC (row.take k)/\a=j8) ⟨Z,Z⟩ (λU U U U h=>jE<|rr (h.2) b) ?_ ?_
 .clear b;intro k y c a l d;obtain⟨rfl,rfl⟩:=d;rw [bh,eE,bz]at l;exact Fs l λz m=>B9 (j _ _ f) (sI i<|aW m) ⟨by refine rr (dK)<|rr m ?_;rw [fC,fC];refine rr (bN) ?_;rfl,Z⟩
 .clear b;intro c a d;obtain⟨rfl,rfl⟩:=d;intro u t;refine rr (cZ _)<|rr (aT _)<|rr (dD) ?_;exact MF (N.aM ..)<|q _<|j.e0 t
theorem z6(W:WA g)(K:5<=n){v:V}(hv:DL Y v rows)(ha:∀a∈rows,Nh a/\a.length<64)(y:rows.length<=100)(q:∀r s,bH Y s->Y r=X->s r=O (.aF<|bh<|dQ rows)->Q (.S r) s):bE ⟨g,X,n⟩ (.S 367) [v] Y Q E:=by
 refine fE hv λx hs vs M H=>rr vs<|W.e 17 K Z Z Z ?_;intro d hd l aZ;have dl:d≠l:=eG aZ<|N.aM ..;have A:Y l=X:=by rwa [N.da _ _ dl.symm]at aZ
 have P:bH Y ((Y.aX d<|.cQ []).aX l<|.aF []):=(bH.cu hd).aX A;refine jQ (P _ _ M)<|rr ((aT ..).trans H.1:(hs.map V.S).length=rows.length)<|mj (aD y dc)<|B7 (m:=rows.length) (λo:au×au=>[O<|.S x,O<|.S d,O<|.S l,o.1,o.2]) (λk U s=>∃kv,OW Y rows d l k kv s) (_,_)
  ⟨[],P,N.aM ..,.inl ⟨Z,(N.da _ _ dl).trans<|N.aM ..⟩,bO 0,λU=>(bu tP).symm⟩ (λk o R ρ xs aB aE=>?_) λo R aB=>?_
 .refine ka aB λkv aB=>e9 (DL.at H xs) λd' a e4 c vs T=>?_;have C:=ha a<|aW c;refine dv (aB.x _ _ M) e4<|Pl W (rm K Z) (aB.x _ _ T) C.1 C.2 λaG i=>have aO:=aB.d.dq i;?_;have fin:∀{F:N} {t},bH Y F->DT F d t->t.length<=k+1->(∀r,mi t (r.map λp=>[p.1,p.2])=if r∈rows.take (k+1)then O (.aL<|rows.idxOf r)else X)->OW Y rows d l (k+1) t (F.aX l<|.aF<|bh ((dQ rows).take k)++[.aL<|rows.idxOf a]):=λxx u z3 hf=>
   ⟨xx.aX A,(N.aM ..).trans (by refine rr (dK) ?_;rw [dQ];refine rr (bz)<|rr c ?_;rw [bh,bh];refine rr (bN) ?_;rfl),u.imp (λh=>⟨h.1,(N.da _ _ dl).trans h.2⟩) (N.da _ _ dl).trans,z3,hf⟩
  have σ:(bh<|(dQ rows).take k).length<cE:=by
   refine rr (cZ _)<|rr (jV) ?_;exact cw (Nat.min_le_left ..)<|cD xs<|aD y<|mX dc
  by_cases w:a∈rows.take k
  .have j:=(aB.f a).trans<|bI w;refine Ui aO (qH a) (b:=D) (rr j Z)<|nB (i _ _ aB.l)<|Uj aO (qH a) j<|jR (i _ _ aB.l) σ<|aE (_,_) _ ⟨kv,fin (aB.x.aU i) aO (kj aB.z) λr=>(aB.f r).trans ?_⟩;by_cases h:r∈rows.take k
   .exact rr (bI h)<|rr (bI<|(vT c).mpr<|.inl h) Z
   .exact rr (bu h)<|rr (bu λG=>((vT c).mp G).elim h λe=>h<|e▸w) Z
  .have j:=(aB.f a).trans<|bu w;have tf:∀r,mi (kv++[(a.map λp=>[p.1,p.2],V.aL k)]) (r.map λp=>[p.1,p.2])=if r∈rows.take (k+1)then O (.aL<|rows.idxOf r)else X:=λr=>by
    refine rr (Pj _ _ _ _ j) ?_;by_cases I:r=a
    .clear T C;exact rr I<|rr (bI Z)<|rr (bI<|(vT c).mpr<|.inr Z)<|rr (Pk c w) Z
    .refine rr (bu λh=>I<|Uh h)<|rr (aB.f r) ?_;by_cases h:r∈rows.take k
     .exact rr (bI h)<|rr (bI<|(vT c).mpr<|.inl h) Z
     .exact rr (bu h)<|rr (bu λG=>((vT c).mp G).elim h I) Z
   exact Ui aO (qH a) (b:=bk) (rr j Z)<|ab2 aO (qH a) (aD aB.z<|aD (dH xs)<|aD y dc) j<|have u:DT (aG.aX d<|.sv<|kv++[(a.map λp=>[p.1,p.2],V.aL k)]) d _:=.inr<|N.aM ..;have l3:=(N.da aG (.sv<|kv++[(a.map λp=>[p.1,p.2],V.aL k)]) dl.symm).trans<|i _ _ aB.l;nB l3<|Uj u (qH a) ((tf a).trans<|bI<|(vT c).mpr<|.inr Z)<|jR l3 σ<|aE (_,_) _ ⟨_,fin ((aB.x.aU i).aX hd) u (rr (aY)<|cg aB.z) tf⟩
 .exact ka aB λkv aB=>q l R aB.x A (aB.l.trans<|by exact rr (jM<|cC (by rw [dQ];exact rr (aT _) Z)) Z)
end
def pF(rows:List (List<|Int×Int))(o:ar)(m:Nat):af:=(dk m).filterMap λ(k:Nat)=>if dg o k=k/\rows.getD k []≠[]then O (-((rows.getD k []).length:Int),(k:Int))else X
theorem ve(rows:List (List<|Int×Int))(o:ar)(m:Nat):pF rows o (m+1)=pF rows o m++if dg o m=m/\rows.getD m []≠[]then [(-((rows.getD m []).length:Int),(m:Int))]else []:=by
 unfold pF;refine rr (qd)<|bL (oI)<|rr (iJ) ?_;by_cases h:dg o m=m/\rows.getD m []≠[]
 .refine rr (bI h)<|rr (bI h) ?_;rfl
 .refine rr (bu h)<|rr (bu h) ?_;rfl
theorem tH(rows:List (List<|Int×Int))(o:ar)(m:Nat):(pF rows o m).length<=m:=aD (km ..) (cC et)
section
variable{E:Ex}
theorem As(W:WA g)(aE:3<=n){v w:V}{o:ar}(T:DL Y v rows)(aG:IL Y w o)(σ:o.length=rows.length)(c:rows.length<=3)(hb:∀s∈rows,s.length<=1000)(q:∀r (ps:af) a,bH Y a->Y r=X->a r=O (.aF (bh (ps.map (·.2))))->ps.Perm (pF rows o rows.length)->Q (.S r) a):bE ⟨g,X,n⟩ (.S 372) [v,w] Y Q E:=by
 refine fE T λx hs A xs H=>rr A<|cK aG λy A hy=>rr A<|W.e 18 aE Z Z Z ?_;intro l aO;refine ei ((bH.cu aO:bH Y (Y.aX l<|.aF [])) _ _ xs) ((aT ..).trans H.1)<|mj (aD c dc)<|B7 (m:=rows.length) (λF=>[O<|.S x,O<|.S y,O<|.S l,F]) (λk U a=>bH Y a/\a l=O (.aF<|fC<|pF rows o k)) _ ⟨(bH.cu aO:bH Y (Y.aX l<|.aF [])),N.aM ..⟩ (λk F t ρ f y1 G=>fw y1 λb i=>?_) λF t y2=>fw y2 λb i=>?_
 .refine e9 (DL.at H f) λd s aB e1 I e2=>have hd:=b _ _ e2;?_;have P:(r9 s).length<=1000000:=by rw [r9];refine rr (aT _) ?_;exact aD (hb s<|aW e1) dc
  have no:¬(dg o k=k/\rows.getD k []≠[])->t l=O (.aF<|fC<|pF rows o<|k+1):=λh=>by refine rr (ve _ _ _)<|rr (bu h)<|rr (dS _) ?_;exact i
  refine dv (b _ _ hy) (ft<|σ▸f)<|pk (λK=>?_) λK=>G _ _ ⟨b,no λh=>K h.1⟩;refine dv (b _ _ xs) aB<|BY hd P<|pk (λj=>?_) λj=>G _ _ ⟨b,no λh=>j ?_⟩
  .refine nB i<|dv (b _ _ xs) aB<|BY hd P<|jR i (by rw [fC];refine rr (aT _) ?_;exact cw (tH rows o k)<|cD f<|aD c<|mX dc) ?_;refine G _ _ ⟨b.aX aO,(N.aM ..).trans ?_⟩;refine rr (ve _ _ _)<|rr (bI ⟨K,λh=>by replace j:=h▸I▸j;exact Int.lt_irrefl _ j⟩)<|rr I ?_;rw [fC,fC];refine rr (bN) ?_;rw [r9];exact rr (aT _) Z
  .have h:=h.2;rw [r9];exact rr (aT _)<|it<|List.length_pos_iff.mpr<|I▸h
 .refine B5 i (aD (tH ..) c) λr ps hr hp=>have u:=N.aM t r<|.aF<|fC ps;have vs:=b.e0 (C:=.aF<|fC ps) hr;?_;generalize t.aX r (.aF<|fC ps)=qR at*;refine zh (hd:=X) (it:=.S r) (jD u) (λk M a=>M=bh ((ps.take k).map (·.2))/\a=qR) ⟨Z,Z⟩ (λU U U U h=>jE<|rr (h.2) u) ?_ ?_
  .clear u;clear vs;intro k z M a c aZ;obtain⟨rfl,rfl⟩:=aZ;rw [fC,bz]at c;exact Fs c λp f=>⟨by refine rr (dK)<|rr f ?_;rw [bh,bh];refine rr (bN)<|rr (bN) ?_;rfl,Z⟩
  .clear u c;intro M a aZ;obtain⟨rfl,rfl⟩:=aZ;intro r2 R;exact q r2 ps _ (vs.e0 R) (fp vs R) ((N.aM ..).trans (by rw [fC];exact rr (aT _)<|rr (dD) Z)) hp
end
structure Cb(lO Y:N)(x tr cr:a8)(t c:ar):Prop where
 n:tr≠cr
 nt:lO tr=X
 nc:lO cr=X
 e:bH lO Y
 o:∃dx,Y x=O (.d8 424 dx [(14,.S tr),(15,.S cr)])
 ht:Y tr=O (.aF<|bh t)
 hc:Y cr=O (.aF<|bh c)
 l:t.length=c.length
def Kt(tr cr:a8)(Y c8:N):Prop:=∀b C,b≠tr->b≠cr->Y b=O C->c8 b=O C
section
variable{tr cr r x:a8} {C:cP} {t c t' c':ar}
theorem Kt.cL:Kt tr cr Y Y:=λU U U U h=>h
theorem Kt.aU(x:Kt tr cr Y c8)(y:Kt tr cr c8 qV):Kt tr cr Y qV:=λb C a c h=>y b C a c<|x b C a c h
theorem Kt.cu(x:Kt tr cr Y c8)(h:c8 r=X):Kt tr cr Y (c8.aX r C):=λb aO a c e=>N.dF h<|x b aO a c e
theorem Cb.dq(h:Cb lO Y x tr cr t c)(e:bH Y c8):Cb lO c8 x tr cr t c:=⟨h.n,h.nt,h.nc,h.e.aU e,h.o.imp λU o=>e _ _ o,e _ _ h.ht,e _ _ h.hc,h.l⟩
theorem Cb.cu(h:Cb lO Y x tr cr t c)(a:Y r=X):Cb lO (Y.aX r C) x tr cr t c:=h.dq<|bH.cu a
theorem Cb.nx(h:Cb lO Y x tr cr t c):x≠tr/\x≠cr:=ka (h.o) λU o=>⟨n5 o h.ht λh=>nq Internal.cP.ctorIdx (aJ h) ff,n5 o h.hc λh=>nq Internal.cP.ctorIdx (aJ h) ff⟩
theorem Cb.e0(h:Cb lO Y x tr cr t c)(a:t'.length=c'.length):Cb lO ((Y.aX tr<|.aF<|bh t').aX cr<|.aF<|bh c') x tr cr t' c'/\Kt tr cr Y ((Y.aX tr<|.aF<|bh t').aX cr<|.aF<|bh c'):=⟨⟨h.n,h.nt,h.nc,(h.e.aX h.nt).aX h.nc,h.o.imp λU o=>(N.da _ _ h.nx.2).trans<|(N.da _ _ h.nx.1).trans o,(N.da _ _ h.n).trans<|N.aM ..,N.aM ..,a⟩,λb C d f e=>(N.da _ _ f).trans<|(N.da _ _ d).trans e⟩
variable{P:V->Prop} {P':V×aw->Prop} {i f:a8}
theorem X6(h:Cb lO Y x tr cr t c)(q:P (.S cr)):uB x 15 Y P:=ka (h.o) λU h=>d9 h Z Z q
theorem ab3(h:Cb lO Y x tr cr t c)(q:P (.S tr)):uB x 14 Y P:=ka (h.o) λU h=>d9 h Z Z q
theorem Uk(h:Cb lO Y x tr cr t c)(a:uA 424 i=O f)(b:pI i [(14,V.S tr),(15,.S cr)]=X)(q:P' (.S f,[.S x])):gX (tZ x i Y) P':=ka (h.o) λU h=>wZ h a b q
end
theorem ab4{A xs:Prop}(h:b=D)(q:xs):cond ((oC==fF)==b) A xs:=by refine rr h ?_;exact q
theorem qI{i:Int}(h:(l.length:Int)<=i):dg l i=0:=by refine bL (bx)<|rr (lM<|by lia) ?_;rfl
theorem CJ(l:ar)(k:Nat)(x:Int):bh (l++bg k x)++[.aL x]=bh (l++bg (k+1) x):=by refine rr (wx)<|rl (bF _ _ _) ?_;rw [bh,bh];exact rr (bN (l₁:=l++_)) Z
section
variable{E:Ex} {x tr cr:a8} {t c:ar}
theorem ab5(W:WA g)(i:3<=n)(q:∀x p r j,Cb Y j x p r [] []->Q (.S x) j):bE ⟨g,X,n⟩ (.S 424) [] Y Q E:=by refine W.aeJ.go (r1 i Z) λx dx b s ne=>(W.d 19 Z).Zh W.kf (rm i Z) (dW (bO _) (dA _)<|bO _) Z<|have k:bH Y ((Y.aX dx<|.fu x).aX x<|.d8 424 dx []):=(bH.cL.aX s).aX b;have f:=N.aM (Y.aX dx<|.fu x) x<|.d8 424 dx [];?_;generalize(Y.aX dx<|.fu x).aX x (.d8 424 dx [])=j8 at*;intro t a;refine pL (N.dF a f) Z Z<|have l:bH Y ((j8.aX t<|.aF []).aX x<|.d8 424 dx [(14,.S t)]):=(k.e0 a).aX b;have m:=(N.da (j8.aX t<|.aF []) (.d8 424 dx [(14,.S t)]) (eG a f:x≠t).symm).trans<|N.aM ..;have o:=N.aM (j8.aX t<|.aF []) x<|.d8 424 dx [(14,.S t)];have e:((j8.aX t<|.aF []).aX x<|.d8 424 dx<|At.iV [] 14<|.S t)=((j8.aX t<|.aF []).aX x<|.d8 424 dx [(14,.S t)]):=rfl;rr e ?_;generalize(j8.aX t<|.aF []).aX x (.d8 424 dx [(14,.S t)])=qR at*;intro c h;exact pL (N.dF h o) Z Z ⟨Z,q x t c _ ⟨eG h m,fp k a,fp l h,(l.e0 h).aX b,⟨dx,N.aM ..⟩,(N.da _ _ (eG a f:x≠t).symm).trans<|N.dF h m,(N.da _ _ (eG h o:x≠c).symm).trans<|N.aM ..,Z⟩⟩
theorem Pm(W:WA g)(b:2<=n)(h:Cb lO Y x tr cr t c){i:Int}(d:0<=i)(q:Q (.du<|decide (dg c i=0)) Y):bE ⟨g,X,n⟩ (.S 393) [.S x,.aL i] Y Q E:=by
 refine W.e 20 b Z Z Z<|X6 h<|ei h.hc (cZ _) ?_;by_cases a:(c.length:Int)<=i
 .rw [aN<|qI a]at q;exact ab4 (aN a)<|qB q<|aN a
 .exact rp (bj a)<|X6 h<|dv h.hc (rA d<|nle a) q
theorem ab6(W:WA g)(r:4<=n)(h:Cb lO Y x tr cr t c){b:Int}{l:a8}{ks:ar}(d:Y l=O (.aF<|bh ks))(u:∀k∈ks,0<=b+k)(q:Q (.du<|ks.all λk=>decide (dg c (b+k)=0)) Y):bE ⟨g,X,n⟩ (.S 400) [.S x,.aL b,.S l] Y Q E:=by
 refine W.e 21 r Z Z Z<|f_list d (λk eP i=>(i=Y/\(ks.take k).all (λk=>decide (dg c (b+k)=0))=D)/\∃o,eP=[O<|.S x,O<|.aL b,O<|.S l,o]) (rP ⟨Z,Z⟩ _ Z) (λk eP i U h=>by refine rr (h.1.1) ?_;exact d) ?_ ?_
 .clear d;intro k v eP i s m;obtain⟨⟨rfl,a⟩,o,rfl⟩:=m;rw [bh,bz]at s;refine Fs s λz p=>Uk h Z Z<|Pm W (rm r Z) h (u z<|aW p) ?_;by_cases j:dg c (b+z)=0
  .exact t6 (nN j)<|rP ⟨Z,Cg p a<|aN j⟩ _ Z
  .refine qw (m4 j) ?_
   rwa [K8 (f:=λk=>decide (dg c (b+k)=0)) p<|bj j]at q
 .clear h d;intro eP i m;obtain⟨⟨rfl,a⟩,o,rfl⟩:=m;replace a:=(dD)▸(cZ _)▸a
  rwa [a]at q
theorem IV(W:WA g)(f:6<=n)(h:Cb lO Y x tr cr t c){l:a8}{k0:Int}{ks:ar}(i:Y l=O (.aF<|bh<|k0::ks))(a:∀k∈ks,k0<=k)(q:∀b:Int,-k0<=b->b<=(c.length:Int)-k0->(∀k∈k0::ks,dg c (b+k)=0)->Q (.aL b) Y):bE ⟨g,X,n⟩ (.S 407) [.S x,.S l] Y Q E:=by
 have a:∀k∈k0::ks,k0<=k:=λk h=>(mc h).elim (λe=>e▸fb _)<|a k;refine W.e 22 f Z Z Z<|dv i Z<|OP (λm eP j=>(j=Y/\∃b:Int,-k0<=b/\b+m=(c.length:Int)-k0/\eP=[O<|.S x,O<|.S l,O<|.aL b])) (n:=c.length) (Fp Z (-k0) (fb _) (lC ..) Z) ?_;intro m eP j z;(refine J6 z λo b p s r=>?_;refine rr o ?_;refine rr r ?_);refine Uk h Z Z<|ab6 W (rm f Z) h i (λk d=>by have:=a k d;lia) ?_;cases g1:(k0::ks).all λk=>decide (dg c (b+k)=0)with
 |true=>exact q b p (by lia) λk a=>aI<|List.all_eq_true.mp g1 k a
 |false=>
  induction m with
  |zero=>
   refine cM (List.all_eq_true.mpr λk d=>aN<|qI ?_)<|Bool.eq_false_iff.mp g1;have:=a k d;lia
  |succ m=>exact⟨m,dM _,Z,b+1,by lia,by lia,Z⟩
theorem Ul{a f:Nat}{m:Int}(e:f+k=(m-a).toNat)(h:¬((a+k:Nat):Int)<m):(a+k:Int)=max (a:Int) m:=by
 refine rr (vr (e▸gq ..) (Int.toNat_le.mpr<|sj<|Ka h):k=(m-a).toNat)<|rr (Yz _) ?_;by_cases g:(a:Int)<=m
 .exact rr (Bg g)<|rr (Ds<|pQ g)<|rr (lC _ _)<|rJ _ _
 .exact rr (Ds<|ew<|Int.not_le.mp g)<|rr (Bg<|NP<|ew<|Int.not_le.mp g)<|rfl
theorem ab7(W:WA g)(v:3<=n)(h:Cb lO Y x tr cr t c){m:Int}(w:m<=1000)(hc:c.length<=1000)(q:∀(k:Nat) b,(c.length+k:Int)=max (c.length:Int) m->Cb lO b x tr cr (t++bg k 0) (c++bg k 0)->Kt tr cr Y b->Q .bR b):bE ⟨g,X,n⟩ (.S 414) [.S x,.aL m] Y Q E:=by
 refine W.e 23 v Z Z Z<|Xq (λU:Unit=>[O<|.S x,O<|.aL m]) (λf U b=>∃k,f+k=(m-c.length).toNat/\Cb lO b x tr cr (t++bg k 0) (c++bg k 0)/\Kt tr cr Y b) (n:=(m-c.length).toNat) () (fW 0 Z (by refine rr (dS _)<|rr (dS _) ?_;exact h) .cL) λf u d ρ F y=>?_;refine hV F λk i a j=>?_;have p:(c++bg k (0:Int)).length=c.length+k:=by exact bL (aY)<|rr (ef) Z
 refine X6 a<|ei a.hc ((cZ _).trans p)<|lL (λgl=>?_) λgl=>q k d (Ul i gl) a j;have z:(c++bg k (0:Int)).length<cE:=by
  exact rr p<|cD (zI (dO gl<|bA w dc):c.length+k<10000000)<|mX<|bO _
 refine ab3 a<|nB a.ht<|jR a.ht (by refine rr (cZ _)<|rr (a.l) ?_;exact z) ?_;refine ka (a.o) λdx A=>d9 ((N.da _ _ a.nx.1).trans A) Z Z<|have r:=(N.da d (.aF<|bh (t++bg k 0)++[.aL 0]) a.n.symm).trans a.hc;nB r<|jR r (rr (cZ _) z) ?_;refine rr (CJ _ _ _)<|rr (CJ _ _ _) ?_;have s:=a.e0 (t':=t++bg (k+1) 0) (c':=c++bg (k+1) 0) (by
  have:=a.l;rw [aY,aY,ef]at this⊢;exact aH (·+1) this)
 refine cK (Ij i<|Int.lt_toNat.mpr<|Int.lt_sub_left_of_add_lt gl) λf xs e=>?_;obtain rfl:=xs;exact y f () _ (dM f)<|fW (k+1) e s.1<|j.aU s.2
end
theorem IW(l:List α)(x:α):mO (l++[x]) (-1)=O x:=by
 unfold mO;refine rr (bu dc)<|rr (bI (by refine rr (aY)<|rr (vt) ?_;lia)) ?_;have:(-1+((l++[x]).length:Int)).toNat=l.length:=by refine rr (aY)<|rr (vt) ?_;lia
 refine rr this<|bL (eN<|bO _)<|rr (qU _) ?_;rfl
noncomputable def z7(b:Int)(f:Int×Int->Int)(l:ar)(row:af):ar:=row.foldl (λl q=>l.set (b+q.1).toNat<|f q) l
theorem sR(b:Int)(f:Int×Int->Int):∀(a:af) (l:ar),(z7 b f l a).length=l.length:=by
 intro c;induction c with
 |nil=>
  intro l;exact Z
 |cons q r i=>
  intro l;exact(i<|l.set (b+q.1).toNat<|f q).trans fD
theorem CK(b:Int)(f:Int×Int->Int)(l:ar)(r:af)(q:Int×Int):z7 b f l (r++[q])=(z7 b f l r).set (b+q.1).toNat (f q):=Qz
theorem CL{i j:Int}{x:Int}(a:0<=j)(h:i≠j)(b:0<=i):dg (l.set i.toNat x) j=dg l j:=by unfold dg;exact rr (bx)<|rr (i9 λe=>h<|by exact rl (xt b)<|rr e<|xt a) Z
theorem CM{i:Int}{x:Int}(h:0<=i)(a:i<l.length):dg (l.set i.toNat x) i=x:=by refine bL (bx)<|rr (eK<|(Int.toNat_lt h).mpr a) ?_;rfl
theorem zx{b:Int}{f:Int×Int->Int}{i:Int}(c:0<=i)(h:∀q∈row,b+q.1≠i/\0<=b+q.1):dg (z7 b f l row) i=dg l i:=by
 induction row generalizing l with
 |nil=>rfl
 |cons q r d=>
  have a:=h q<|bS ..;exact(d (l:=l.set (b+q.1).toNat<|f q) λy e=>h y<|di _ e).trans<|CL c a.1 a.2
theorem IX{b:Int}{f:Int×Int->Int}{q:Int×Int}(a:Nh row)(c:q∈row)(h:∀q∈row,0<=b+q.1/\b+q.1<l.length):dg (z7 b f l row) (b+q.1)=f q:=by
 induction row generalizing l with
 |nil=>cases c
 |cons p r i=>
  replace a:=List.pairwise_cons.mp a;show dg (z7 b f (l.set (b+p.1).toNat<|f p) r) (b+q.1)=f q;have g:=h p<|bS ..;refine bV (mc c) (λe=>?_) λc=>?_
  .refine rr e<|bL (zx g.1 λy d=>⟨λe=>i5 (a.1 y d)<|Int.add_left_cancel e,(h y<|di _ d).1⟩) ?_;exact CM g.1 g.2
  .exact i a.2 c λy d=>rr fD<|h y<|di _ d
theorem IY(l:ar)(k:Nat)(i:Int):dg (l++bg k 0) i=dg l i:=by
 unfold dg;refine bL (bx)<|rr (bx) ?_;by_cases h:i.toNat<l.length
 .exact rr (fX h) Z
 .refine rr (eN<|gS h)<|rr (lM<|gS h)<|rr (kM) ?_;split<;>rfl
structure ZH(t c:ar)(b:Int)(row:af)(o:Int)(t' c':ar):Prop where
 gj:t'.length=c'.length
 siz:∃q∈row,(c'.length:Int)=max (c.length:Int) (b+q.1+1)/\∀p∈row,p.1<=q.1
 low:∃q∈row,-q.1<=b/\b<=(c.length:Int)-q.1/\∀p∈row,q.1<=p.1
 on:∀q∈row,0<=b+q.1/\dg c (b+q.1)=0/\b+q.1<c'.length/\dg c' (b+q.1)=o+1/\dg t' (b+q.1)=q.2
 off:∀i:Int,0<=i->(∀q∈row,b+q.1≠i)->dg c' i=dg c i/\dg t' i=dg t i
theorem Ni{x:a8}{k:Int}{v:V}(h:Y x=O (.aF B))(a:0<=k)(b:k<B.length)(e:B.set k.toNat v=ys)(q:aE (Y.aX x<|.aF ys)):nj x (.aL k) v Y aE:=by subst e;exact zi h a b q
theorem Um{p0:Int×Int}{r0:af}(b:Nh (p0::r0)):∃i c,p0::r0=i++[c]/\c∈p0::r0/\(∀p∈p0::r0,p.1<=c.1)/\∀p∈p0::r0,p0.1<=p.1:=by
 have e:=(List.dropLast_concat_getLast (l:=p0::r0) λh=>nq ek h ff).symm;refine gk _ _ e (List.getLast_mem _) (λp a=>?_) λp a=>?_
 .rw [e]at a b
  rcases ma a with a|a
  .exact ew<|(List.pairwise_append.mp b).2.2 p a _<|List.mem_singleton.mpr Z
  .exact rr (ms a)<|fb _
 .clear e
  rcases mc a with rfl|a
  .exact fb _
  .exact ew<|(List.pairwise_cons.mp b).1 p a
section
variable{E:Ex} {x tr cr:a8} {t c:ar}
theorem Un{d l:a8}{o b:Int}{q:Int×Int}{tj cj:ar}{K:VF->bw->N->Prop}(h:Cb lO Y x tr cr tj cj)(hd:Y d=O (.cQ<|r9 row))(e:Nh row)(f:q∈row)(i:0<=b+q.1)(c:b+q.1<tj.length)(k:∀a,Cb lO a x tr cr (tj.set (b+q.1).toNat q.2) (cj.set (b+q.1).toNat<|o+1)->Kt tr cr Y a->K .eR [O<|.S x,O<|.aL o,O<|.S d,O<|.S l,O<|.aL b,O<|.aL q.1] a):
 iy ⟨g,X,n⟩ (kU E) (bd<|aew.drop 3) [O<|.S x,O<|.aL o,O<|.S d,O<|.S l,O<|.aL b,O<|.aL q.1] Y K:=by
 have s:=h.e0 (t':=tj.set (b+q.1).toNat q.2) (c':=cj.set (b+q.1).toNat<|o+1) (by refine bL (fD)<|rr (fD) ?_;exact h.l);obtain⟨dx,j⟩:=h.o;refine B9 hd (sI e f)<|ab3 h<|Ni h.ht i (rr (cZ _) c) (qk ..)<|d9 ((N.da _ _ h.nx.1).trans j) Z Z<|Ni ((N.da _ _ h.n.symm).trans h.hc) i (by refine rr (cZ _)<|rl (h.l) ?_;exact c) (qk ..) ?_;exact k _ s.1 s.2
theorem afk(W:WA g)(aZ:10<=n)(h:Cb lO Y x tr cr t c){d:a8}{o:Int}(hd:Y d=O (.cQ<|r9 row))(z:Nh row)(hne:row≠[])(hz:row.length<64)(hc:c.length<=500)(xs:∀q∈row,0<=q.1/\q.1<=100)(q:∀b t' c' r,ZH t c b row o t' c'->Cb lO r x tr cr t' c'->Kt tr cr Y r->Q (.aL b) r):bE ⟨g,X,n⟩ (.S 421) [.S x,.aL o,.S d] Y Q E:=by
 have aO:d≠tr/\d≠cr:=⟨n5 hd h.ht λh=>nq Internal.cP.ctorIdx (aJ h) ff,n5 hd h.hc λh=>nq Internal.cP.ctorIdx (aJ h) ff⟩;refine iz λP0 k0=>mK (me hne) λp s o9=>?_;obtain rfl:=o9;refine e9 (Um z) λinit F epl T V aB=>k0<|W.e 24 aZ Z Z Z<|lz Z hd (sJ _) (rr (aT _) hz) λl A=>rr (IT z)<|have k1:Kt tr cr Y (Y.aX l (.aF (bh ((p::s).map (·.1))))):=Kt.cL.cu A;have G:=h.cu (C:=.aF (bh ((p::s).map (·.1)))) A;have u:l≠tr/\l≠cr:=⟨(eG A h.ht).symm,(eG A h.hc).symm⟩;have hd1:=N.dF (C:=.aF (bh ((p::s).map (·.1)))) A hd;have H:=N.aM Y l (.aF (bh ((p::s).map (·.1))));?_;generalize Y.aX l (.aF (bh ((p::s).map (·.1))))=j8 at*;refine Uk G Z Z<|IV W (rm aZ Z) G (k0:=p.1) (ks:=s.map λx:Int×Int=>x.1) H (λk xs=>?_) λb aG σ fit=>?_
 .exact vB xs λy P=>aB y<|di _ P
 have afl:mO (bh ((p::s).map (·.1))) (-1)=O (.aL F.1):=by
  refine rr epl<|rr (bN) ?_;rw [bh];exact rr (bN)<|IW ..
 refine Uk G Z Z<|dv H afl<|ab7 W (rm aZ Z) G (m:=b+F.1+1) (bA (ix (Fl (bA σ<|bA (iQ _ (xs p<|bS ..).1)<|il hc) (xs F T).2) 1) dc) (aD hc dc) λk qR hkm I K=>?_;have w:∀q∈p::s,0<=b+q.1/\b+q.1<((c++bg k 0).length:Int):=λq a=>by
  refine rr (aY)<|rr (ef) ?_;exact⟨bA (Int.add_left_neg p.1▸ix aG p.1)<|jK (aB q a) b,dO (pR<|jK (V q a) b)<|bA (Int.le_max_right ..)<|JZ hkm.symm⟩
 refine KY (λR=>[O<|.S x,O<|.aL o,O<|.S d,O<|.S l,O<|.aL b,R]) (λj U r=>Cb lO r x tr cr (z7 b (·.2) (t++bg k 0)<|(p::s).take j) (z7 b (λU=>o+1) (c++bg k 0)<|(p::s).take j)/\Kt tr cr qR r) _ (K _ _ u.1 u.2 H) ⟨I,.cL⟩ (λj U r h=>h.2 _ _ u.1 u.2<|K _ _ u.1 u.2 H) (λj v R Df ρ hv i hJ=>?_) λR r i=>?_
 .refine fw i λaE vs=>?_;rw [bh,eE,bz]at hv;refine Fs hv λq a=>have hqm:=aW a;fw (w q hqm) λM i2=>Un aE (vs _ _ aO.1 aO.2<|K _ _ aO.1 aO.2 hd1) z hqm M (by refine rr (sR _ _ _ _)<|rr (I.l) ?_;exact i2) λr h4 kt4=>hJ _ r ⟨?_,vs.aU kt4⟩;refine rr (dK)<|rr a ?_;refine rr (show Option.toList (O q)=[q]from Z)<|rr (CK _ _ _ _ _)<|rr (CK _ _ _ _ _) ?_;exact h4
 .refine fw i λaE vs=>q b _ _ r ?_ aE<|k1.aU<|K.aU vs;refine rr (cZ _)<|rr (aT _)<|rr (dD) ?_;refine⟨by refine rr (sR _ _ _ _)<|rr (sR _ _ _ _) ?_;exact I.l,fW F T (by refine rr (sR _ _ _ _)<|rr (aY)<|rr (ef) ?_;exact hkm) V,lQ p (bS ..) aG σ aB,λq a=>?_,λi hi ho=>?_⟩
  .have M:=w q a;exact(rR M.1 (fit q.1 (dm (f:=(·.1)) a)) (rr (sR _ _ _ _) M.2) (IX z a w) (IX (f:=(·.2)) z a λy P=>by refine rr (I.l) ?_;exact w y P))
  .refine rr (zx hi λq a=>⟨ho q a,(w q a).1⟩)<|rr (zx hi λq a=>⟨ho q a,(w q a).1⟩)<|rr (IY _ _ _)<|rr (IY _ _ _) ?_;exact⟨Z,Z⟩
end
structure pY(rows:List (List<|Int×Int))(done:ar)(xs t c:ar):Prop where
 X7:xs.length=rows.length
 gj:t.length=c.length
 siz:c.length<=6*done.length
 Uo:c=[]\/dg c (c.length-1)≠0
 Up:∀i:Int,0<=i->i<c.length->(dg c i=0/\dg t i=0)\/∃o∈done,dg c i=o+1/\(i-dg xs o,dg t i)∈rows.getD o.toNat []
 kZ:∀o∈done,∃i:Int,0<=i/\i<c.length/\dg c i=o+1
 Uq:∀k:Int,0<=k->k∉done->dg xs k=0
 bnd:∀k:Int,0<=k->(dg xs k).natAbs<=100
theorem AU{o:Int}(h:0<=o):o+1≠0:=i5<|pR h
theorem VZ{x:Int}(h:-(k:Int)<=x)(a:x<=k):x.natAbs<=k:=by lia
theorem Pn{done xs t c t' c':ar}{o b:Int}(h:pY rows done xs t c)(p:ZH t c b (rows.getD o.toNat []) o t' c')(j:0<=o/\o<rows.length)(w:o∉done)(hd:∀x∈done,0<=x)(l:∀q∈rows.getD o.toNat [],0<=q.1/\q.1<=5)(G:done.length<3):
 pY rows (done++[o]) (xs.set o.toNat b) t' c':=by
 refine hV (p.siz) λq1 n u v=>gU (p.low) λH I ρ C R=>have y:=l H I;have g:=p.on q1 n;have nb:∀k,0<=k->k≠o->dg (xs.set o.toNat b) k=dg xs k:=λk K l=>CL K (λe=>l e.symm) j.1;have aO:dg (xs.set o.toNat b) o=b:=CM j.1<|rr (h.X7) j.2;?_;have z:o∈done++[o]:=am<|.inr bS;have dz:(done++[o]).length=done.length+1:=by refine bL (aY) ?_;rfl
 have cz:(c.length:Int)<=12:=il<|aD h.siz<|mJ 6<|Af G;refine⟨List.length_set.trans h.X7,p.gj,?_,.inr ?_,λi r E=>?_,λx d=>?_,λk k0 F=>?_,λk k0=>?_⟩
 .refine rr dz ?_;have:(c'.length:Int)<=((c.length+6:Nat):Int):=by
   exact rr u<|Int.max_le.mpr ⟨il<|d7 ..,Fl (Fl (bA C<|iQ _ y.1)<|(l q1 n).2)<|fb 1⟩
  exact aD (li this)<|cG h.siz 6
 .by_cases m:(c.length:Int)<=b+q1.1+1
  .refine rr u<|rr (Bg m)<|rr (eW _ _)<|rr (g.2.2.2.1) ?_;exact AU j.1
  .have m:=Int.lt_of_not_ge m;have e:=u.trans<|Ds<|ew m;refine rr ((p.off _ (gH (ig g.1 g.2.2.1):0<=(c'.length:Int)-1) (λq f=>nZ (ig (jK (v q f) b)<|e▸Int.lt_sub_right_of_add_lt m):∀q∈rows.getD o.toNat [],b+q.1≠(c'.length:Int)-1)).1)<|rr e ?_;refine h.Uo.resolve_left λvs=>?_;rw [vs]at m;exact cM (bA g.1<|ew<|jW _)<|wj m
 .by_cases f:∃q∈rows.getD o.toNat [],b+q.1=i
  .refine cK f λq f e=>have a:=p.on q f;?_;rw [e]at a;refine .inr<|fW o z a.2.2.2.1 ?_;refine rr aO<|rr (a.2.2.2.2)<|rr (show i-b=q.1 by rw [<-e,lC,eW]) ?_;exact f
  .refine fw (p.off i r λq M e=>f<|bX q M e) λaZ A=>rr aZ<|rr A ?_;by_cases s:i<c.length
   .clear dz l j n v;exact bV (h.Up i r s) (λh=>.inl h) λaB=>hV aB λx d P Q=>.inr<|fW x (am<|.inl d) P<|rr (nb x (hd x d) λe=>w<|e▸d) Q
   .have s:=Ka s;exact .inl ⟨qI s,qI<|h.gj▸s⟩
 .clear dz l w j n v;refine bV (ma d) (λd=>?_) λd=>?_
  .refine hV (h.kZ x d) λi r E e=>fW i r (dO E (u▸Int.le_max_left ..:(c.length:Int)<=c'.length)) ?_;rw [(p.off i r λq f A=>?_).1,e];have a:=(p.on q f).2.1;rw [A,e]at a;exact AU (hd x d) a
  .rw [ms d];exact fW (b+q1.1) g.1 g.2.2.1 g.2.2.2.1
 .have a:k∉done/\k≠o:=⟨λh=>F<|am<|.inl h,λh=>F<|h▸z⟩;rw [nb k k0 a.2];exact h.Uq k k0 a.1
 .by_cases e:k=o
  .clear dz l w j n z g p v;refine rr e ?_;rw [aO];exact VZ (bA (rM<|bA y.2 (by decide:(5:Int)<=100)) ρ)<|bA C<|bA (iQ _ y.1)<|bA cz dc
  .rw [nb k k0 e];exact h.bnd k k0
theorem Ur [BEq α] [LawfulBEq α]{a:α}:∀{l:List α} {r:Nat},l[r]?=O a->l.idxOf a<=r:=by
 intro l;induction l with
 |nil=>intro r h;exact nq aP h ff
 |cons b l i=>
  intro r h;refine rr (C9) ?_;induction r with
  |zero=>refine rr (aJ h) ?_;exact rr (beq_self_eq_true _)<|bO 0
  |succ r=>
   induction b==a with
   |true=>exact dA _
   |false=>exact cg<|i h
theorem sS{r:Nat}(h:r<rows.length):∃i:Nat,dg (dQ rows) r=i/\i<=r/\rows.getD i []=rows.getD r []/\dg (dQ rows) i=i:=by
 have b:=Ur (aV h:rows[r]?=O rows[r]);have a:rows.idxOf rows[r]<rows.length:=cw b h;have e:∀k (c:k<rows.length),dg (dQ rows) k=(rows.idxOf rows[k]:Nat):=λk c=>r7 (by refine bL (bz)<|rr (aV c) ?_;rfl);refine lQ (rows.idxOf rows[r]) (e r h) b ?_ ?_
 .exact bL (bx)<|rr (bx)<|rr (aV a)<|rr (aV h:rows[r]?=O rows[r])<|(Qi a:rows[rows.idxOf rows[r]]=rows[r])
 .exact bL (e _ a)<|rr (Qi a:rows[rows.idxOf rows[r]]=rows[r]) Z
theorem zy{o:ar}{x:Int}(h:x∈(pF rows o rows.length).map (·.2)):∃k:Nat,x=k/\k<rows.length/\dg o k=k/\rows.getD k []≠[]:=by
 refine vB h λq a=>cK (List.mem_filterMap.mp a) λk b e=>?_;split at e
 .rename_i c;exact rl (aJ e)<|fW k Z (mr_ b) c
 .exact nq aP e ff
theorem IZ(rows:List (List<|Int×Int))(o:ar)(m:Nat):((pF rows o m).map (·.2)).Nodup:=by
 induction m with
 |zero=>exact kN
 |succ m i=>
  refine rr (ve _ _ _)<|rr (bN)<|ri (jq) ?_;refine(dW i (by split<;>first|exact kN|exact List.nodup_cons.mpr ⟨tP,kN⟩) (λa c b h=>?_));refine vB c λq d=>cK (List.mem_filterMap.mp d) λk f e=>?_;split at e
  .refine rl (aJ e) ?_;split at h
   .exact rr (ms h)<|nZ<|it<|mr_ f
   .cases h
  .exact nq aP e ff
theorem ab8(h:l.length<=40)(a:∀x∈l,x.natAbs<=10000000):qj l=D:=by simp only [qj,eT,decide_eq_true_eq,mB];exact⟨h,λx b=>cw (a x b)<|by decide+kernel⟩
def Au(l:ar):Prop:=l.length<=40/\∀x∈l,x.natAbs<=10000000
theorem Au.ok(h:Au l):qj l=D:=ab8 h.1 h.2
structure qJ(rows:List (List<|Int×Int))(cols:Int)(p:kK):Prop where
 fl:kG p rows.length cols=D
 cW:∀k row,(zX p)[k]?=O row->∀q∈row,q∈rows.getD k []
 sm:Au p.dj/\Au p.dp/\Au p.bB/\Au p.bU
 z:p.bB.length<=18
theorem Nj{x:Int}(h:x∈l):∃i:Nat,i<l.length/\dg l i=x:=
 let⟨i,e⟩:=List.mem_iff_getElem?.mp h
 (bX i (gl e)<|r7 e)
@[elab_as_elim]theorem mnt{x:Int}{P:Int->Prop}(h:x∈l)(k:∀i:Nat,i<l.length->P (dg l i)):P x:=cK (Nj h) λi a b=>b▸k i a
theorem mnp{l:ar}{x:Int}{P:Prop}(h:x∈l)(k:∀i:Nat,i<l.length->dg l i=x->P):P:=cK (Nj h) k
theorem X8{f:Int->Int}(h:i<l.length):dg (l.map f) i=f (dg l i):=(r7 (l:=l.map f) (o:=f l[i]) (by refine bL (bz)<|rr (aV h) ?_;rfl)).trans (aH f (AR h).symm)
section
variable{cols:Int} {xs t c:ar} {done:ar}
theorem Us(a:∀b∈rows,∀q∈b,0<=q.1/\q.1<cols/\q.2.natAbs<=2000000){q:Int×Int}(h:q∈rows.getD k []):0<=q.1/\q.1<cols/\q.2.natAbs<=2000000:=by
 replace h:=(bx)▸h;cases e:rows[k]? with
 |none=>replace h:=e▸h;cases h
 |some r=>replace h:=e▸h;exact a r (aW e) q h
theorem pZ:(dQ rows).length=rows.length:=aT ..
theorem AV(h:k<rows.length):dg ((dQ rows).map<|dg xs) k=dg xs (dg (dQ rows) k):=X8<|pZ.symm▸h
theorem AW(dn:∀x∈done,∃k:Nat,x=k/\k<rows.length/\dg (dQ rows) k=k)(h:pY rows done xs t c)(hi:i<c.length):(dg c i=0/\dg t i=0)\/∃k:Nat,k<rows.length/\dg (dQ rows) k=k/\dg c i=k+1/\((i:Int)-dg ((dQ rows).map<|dg xs) k,dg t i)∈rows.getD k []:=
 (h.Up i (bT i)<|it hi).imp_right λy1=>hV y1 λx hx h5 h6=>by
  refine hV (dn x hx) λk o9 k1 k2=>?_;obtain rfl:=o9;exact lQ k k1 k2 h5 (by refine rr (AV k1)<|rr k2 ?_;exact h6)
theorem X9(dn:∀x∈done,∃k:Nat,x=k/\k<rows.length/\dg (dQ rows) k=k)(h:pY rows done xs t c)(hk:∀row∈rows,∀q∈row,0<=q.1/\q.1<cols/\q.2.natAbs<=2000000):kG ⟨(dQ rows).map<|dg xs,t,c,dQ rows⟩ rows.length cols=D:=by
 refine nA (nA (nA (nA (be<|(aT ..).trans (pZ:(dQ rows).length=rows.length))<|be (pZ:(dQ rows).length=rows.length))<|al λr hr=>?_)<|nA (nA (be h.gj)<|oB<|h.Uo.imp (λe=>be e) λe=>bne_iff_ne.mpr e)<|al λi hi=>?_)<|al λr hr=>?_
 .have hr:=List.mem_range.mp hr;refine gU (sS hr) λi e1 e2 U e3=>?_;unfold It;refine rr (AV hr)<|rr e1<|rr (AV<|cw e2 hr)<|rr e3<|rr (aN<|il e2)<|rr (aN Z)<|bL (aN Z) ?_;rfl
 .unfold uU;refine bV (AW dn h<|mr_ hi) (λo9=>fw o9 λh0 h1=>?_) λQn=>gU Qn λk k1 k2 h5 h6=>?_
  .refine rr h0<|rr h1 ?_;exact nA (nA (nA (rfl)<|aN<|bT _)<|rfl)<|rfl
  .refine rr h5<|rr (show(k:Int)+1-1=k from eW (k:Int) 1)<|rr k2<|rr (pZ:(dQ rows).length=rows.length) ?_;exact Bool.and_eq_true_iff.mpr ⟨nA (nA (aN<|bT<|k+1)<|aN<|il k1)<|oB<|.inl<|aN<|AU<|bT k,Bool.or_eq_true_iff.mpr<|.inr<|Bool.and_eq_true_iff.mpr ⟨Bool.and_eq_true_iff.mpr ⟨aN Z,aN (Us hk h6).1⟩,aN (Us hk h6).2.1⟩⟩
 .have hr:=List.mem_range.mp hr;refine gU (sS hr) λi e1 e2 U e3=>rr (AV hr)<|rr e1 ?_;refine Bool.or_eq_true_iff.mpr ?_;by_cases hi:(i:Int)∈done
  .refine hV (h.kZ _ hi) λj j0 j1 j2=>zp j0 λj o9=>?_;obtain rfl:=o9;refine .inl<|aN λhe=>?_;have:((j:Int)-dg ((dQ rows).map<|dg xs) i,dg t j)∈Ap ⟨(dQ rows).map<|dg xs,t,c,dQ rows⟩ i:=List.mem_filterMap.mpr<|bX j (List.mem_range.mpr<|Int.ofNat_lt.mp j1)<|bI j2;replace this:=he▸this;cases this
  .exact .inr<|aN<|h.Uq i (bT i) hi
theorem ab9(dn:∀x∈done,∃k:Nat,x=k/\k<rows.length/\dg (dQ rows) k=k)(h:pY rows done xs t c)(hr:(zX ⟨(dQ rows).map<|dg xs,t,c,dQ rows⟩)[k]?=O row){q:Int×Int}(hq:q∈row):q∈rows.getD k []:=by
 rw [zX,bz]at hr;refine iz λP0 k0=>om hr λo ho o9=>?_;obtain rfl:=o9;refine gU (sS (pZ▸(gl ho):k<rows.length)) λi e1 e2 e4 e3=>k0 ?_;obtain rfl:o=i:=(r7 ho).symm.trans e1;refine rl e4<|iz λP0 k0=>gU (sH hq) λj hj a1 a2 a3=>k0 ?_;dsimp only at hj a1 a2 a3;refine bV (AW dn h hj) (λo9=>fw o9 λh0 U=>?_) λQn=>gU Qn λm U U h5 h6=>?_
 .exact cM (a2.symm.trans h0)<|AU<|bT i
 .obtain rfl:m=i:=eQ<|Qh<|h5.symm.trans a2;replace h6:=a3▸a1▸h6;exact h6
theorem ab'(dn:∀x∈done,∃k:Nat,x=k/\k<rows.length/\dg (dQ rows) k=k)(h:pY rows done xs t c)(h3:rows.length<=3)(cl:c.length<=18)(hk:∀row∈rows,∀q∈row,0<=q.1/\q.1<cols/\q.2.natAbs<=2000000):Au ((dQ rows).map<|dg xs)/\Au t/\Au c/\Au (dQ rows):=by
 refine mT ⟨by refine rr (aT _)<|rr pZ ?_;exact aD h3 (by decide:3<=40),λx hx=>?_⟩ ⟨h.gj▸(aD cl (by decide:18<=40)),λx hx=>?_⟩ ⟨aD cl (by decide:18<=40),λx hx=>?_⟩ ⟨pZ.symm▸(aD h3 (by decide:3<=40)),λx hx=>?_⟩
 .exact vB hx λy hy=>mnt hy λk hk=>cK (sS<|pZ▸hk) λi e1 U=>rr e1<|aD (h.bnd i<|bT i) dc
 .refine mnp hx λk hk' o9=>?_;obtain rfl:=o9;refine bV (AW dn h<|h.gj▸hk') (λo9=>fw o9 λU h1=>?_) λQn=>gU Qn λm U U U h6=>?_
  .refine rr h1 ?_;decide
  .exact aD (Us hk h6).2.2 dc
 .refine mnp hx λk hk' o9=>?_;obtain rfl:=o9;refine bV (AW dn h hk') (λo9=>fw o9 λh1 U=>?_) λQn=>gU Qn λm hm U h5 U=>?_
  .refine rr h1 ?_;decide
  .exact rr h5<|aD (VP hm)<|aD h3 dc
 .refine mnt hx λk hk=>have hk:=pZ▸hk;?_;exact hV (sS hk) λi e1 e2 U=>rr e1<|aD e2<|aD (dH hk)<|aD h3 dc
theorem Po(hp:done.Perm ((pF rows (dQ rows) rows.length).map (·.2)))(h:pY rows done xs t c)(h3:rows.length<=3)(hk:∀row∈rows,∀q∈row,0<=q.1/\q.1<cols/\q.2.natAbs<=2000000):
 qJ rows cols ⟨(dQ rows).map<|dg xs,t,c,dQ rows⟩:=by
 have dn:∀x∈done,∃k:Nat,x=k/\k<rows.length/\dg (dQ rows) k=k:=λx hx=>gU (zy<|hp.mem_iff.mp hx) λk a b c U=>fW k a b c;have cl:=aD h.siz<|mJ 6 (aD (cC<|hp.length_eq.trans<|aT ..) (aD (tH ..) h3):done.length<=3);exact⟨X9 dn h hk,λk row hr q hq=>ab9 dn h hr hq,ab' dn h h3 cl hk,cl⟩
end
variable{tr:a8} {cr:a8}
theorem Cb.ahY{x b:a8}{t c:ar}{C:cP}(h:Cb lO Y x tr cr t c)(a:lO b=X)(d:x≠b)(f:tr≠b)(g:cr≠b):Cb lO (Y.aX b C) x tr cr t c:=⟨h.n,h.nt,h.nc,h.e.aX a,h.o.imp λU o=>(N.da _ _ d).trans o,(N.da _ _ f).trans h.ht,(N.da _ _ g).trans h.hc,h.l⟩
theorem Pp:pY rows [] (bg rows.length 0) [] []:=by
 have z:∀k:Int,0<=k->dg (bg rows.length 0) k=0:=λk k0=>by
  by_cases h:k<rows.length
  .exact XO k0 h
  .exact qI<|rr (ef)<|Ka h
 exact⟨ef,Z,bO 0,.inl Z,λi a b=>cM b<|NY a,nofun,λk k0 U=>z k k0,λk k0=>by refine rr (z k k0) ?_;exact dc⟩
structure PkI(rows:List (List<|Int×Int))(ord:ar)(j8:N)(cb tr cr bl r:a8)(j:Nat)(xs t c:ar)(c8:N):Prop where
 C:Cb j8 c8 cb tr cr t c
 b:c8 bl=O (.aF<|bh xs)
 P:pY rows (ord.take j) xs t c
 r:c8 r=O (.aF<|bh ord)
variable{cols:Int}
section
variable{E:Ex}
theorem Ut{ord:ar}{ow cb bl r:a8}{xs t c:ar}{o0:au}(m:ord.Perm ((pF rows (dQ rows) rows.length).map (·.2)))(o:rows.length<=3)(s:j8 ow=O (.aF<|bh<|dQ rows))(i:PkI rows ord j8 cb tr cr bl r ord.length xs t c Y)(u:∀v∈rows,∀q∈v,0<=q.1/\q.1<cols/\q.2.natAbs<=2000000) (q:∀b t c a p,bH j8 a->IL a b p.dj->IL a t p.dp->IL a c p.bB->p.bU=dQ rows->qJ rows cols p->Q (.bD [b,t,c]) a):
 iy ⟨g,X,n⟩ (kU E) (aex.drop 4) [o0,O<|.S ow,O<|.S cb,O<|.S bl,o4] Y (yZ Q):=by
 have P:=i.P;replace P:=(dD)▸P;have h:=i.C.e _ _ s;refine uM (jD h) (jE h) (λk=>bh<|((dQ rows).take k).map<|dg xs) Z (λk y K U l w U=>?_) λx A=>?_
 .clear h;rw [bh,bz]at l;refine Fs l λz f=>have j:=gl f;?_;rw [dQ,aT]at j;refine iz λG k0=>hV (sS j) λH aO F U=>k0 ?_;cases(r7 f).symm.trans aO
  exact dv i.b (ft<|P.X7▸cw F j)<|w _ (by refine rr (dK)<|rr f ?_;rw [bh,bh];refine rr (bN)<|rr (bN) ?_;rfl)
 .clear h;have d:=i.C.cu (C:=.aF<|bh<|((dQ rows).take (bh<|dQ rows).length).map<|dg xs) A;exact ab3 d<|X6 d<|q _ _ _ _ ⟨(dQ rows).map<|dg xs,t,c,dQ rows⟩ d.e (bX x Z<|(N.aM ..).trans<|by exact rr (cZ _)<|rr (dD) Z) (bX tr Z d.ht) (bX cr Z d.hc) Z<|Po m P o u
theorem I0(W:WA g)(u:15<=n){v:V}(m:DL Y v rows)(G:rows.length<=3)(hc:cols<=6)(I:∀a∈rows,Nh a/\a.length<64)(aB:∀a∈rows,∀q∈a,0<=q.1/\q.1<cols/\q.2.natAbs<=2000000)(q:∀b t c f p,bH Y f->IL f b p.dj->IL f t p.dp->IL f c p.bB->p.bU=dQ rows->qJ rows cols p->Q (.bD [b,t,c]) f):bE ⟨g,X,n⟩ (.S 433) [v] Y Q E:=by
 refine fE (id m) λx hs w hx H=>?_;obtain rfl:=w;refine W.e 25 u Z Z Z<|z6 W (rm u Z) m I (aD G dc) λow j8 A aih how=>ab5 W (rm u Z) λR tr cr qR s=>have hx2:=s.e _ _<|A _ _ hx;uM (jD hx2) (jE hx2) (λk=>bh<|bg k 0) Z (λk y K U hy hK U=>hK _ (by refine rr (wx) ?_;rw [bh,bh];refine rr (bN) ?_;rfl)) λl aO=>?_;refine rr (aT _)<|rr (H.1) ?_;have F:=s.cu (C:=.aF<|bh<|bg rows.length 0) aO;have ahZ:j8 l=X:=fp s.e aO;have hb3:=N.aM qR l<|.aF<|bh<|bg rows.length 0;generalize qR.aX l (.aF<|bh<|bg rows.length 0)=Df at*;refine As W (rm u Z) (m.fr (A.aU F.e).fr) (bX ow Z<|F.e _ _ how) (aT ..) G (λa vs=>aD (dH (I a vs).2) dc) λr ps DN x4 aE vs hps=>have n2:tr≠l:=eG aO s.ht;have n3:cr≠l:=eG aO s.hc;have n1:R≠l:=ka (s.o) λU o=>eG aO o;have M:(ps.map (·.2)).Perm ((pF rows (dQ rows) rows.length).map (·.2)):=hps.map _;have hnd:(ps.map (·.2)).Nodup:=M.nodup_iff.mpr<|IZ rows (dQ rows) rows.length;?_;have hol:(ps.map (·.2)).length<=3:=by refine rr (aT _)<|rr (hps.length_eq) ?_;exact aD (tH ..) G
 generalize ps.map (·.2)=ord at*;refine KY (λo=>[O<|.S x,O<|.S ow,O<|.S R,O<|.S l,o]) (λj U f=>∃xs t c,PkI rows ord j8 R tr cr l r j xs t c f) _ vs (Bm (bg rows.length 0) [] [] ⟨F.dq x4,x4 _ _ hb3,Pp,vs⟩) (λU U U h=>xA h λU U U i=>i.r) (λj v o Qp ρ m i hJ=>?_) λo Qp i=>?_
 .refine xA i λxs t c i=>?_;rw [bh,bz]at m;refine Fs m λz T=>gU (zy<|M.mem_iff.mp<|aW T) λk w aG ko kn=>?_;obtain rfl:=w;have x15:=i.C.e;refine e9 (DL.at (H.fr (A.aU x15).fr) aG) λd a e4 aZ σ e2=>have hjl:=gl T;have htk:(ord.take j).length=j:=iI<|dH hjl;have hsz:=i.P.siz;have hsz:=htk▸hsz;?_;have etk:ord.take (j+1)=ord.take j++[(k:Int)]:=by refine bL (dK)<|rr T ?_;rfl
  have hnm:(k:Int)∉ord.take j:=λhm=>by
   have:(ord.take<|j+1).Nodup:=hnd.sublist<|zG _ _;rw [etk,jq]at this;exact this.2.2 _ hm _ (List.mem_singleton.mpr Z) Z
  refine Uk i.C Z Z<|dv (x15 _ _<|A _ _ hx) e4<|afk W (rm u Z) i.C e2 (I a<|aW aZ).1 (rl σ kn) (I a<|aW aZ).2 (by lia) (λq hq=>by have:=(aB a<|aW aZ) q hq;lia) λb t' c' DO po C6 kt=>yl (kt _ _ n2.symm n3.symm i.b) (by refine rr (cZ _)<|rr (i.P.X7) ?_;exact aG) (qk ..) ?_;have:=Pn (o:=k) (b:=b) i.P (by refine rr (lX _)<|rr σ ?_;exact po) ⟨nn,it aG⟩ hnm (λy hy=>by
   refine cK (zy<|M.mem_iff.mp<|AB _ _ hy) λk' w U=>?_;refine rr w ?_;exact nn) (by refine rr (lX _)<|rr σ ?_;intro q hq;have:=(aB a<|aW aZ) q hq;lia) (rr htk<|cD hjl hol)
  replace this:=etk▸(lX _)▸this;exact hJ _ _<|Bm (xs.set k b) t' c' ⟨C6.ahY ahZ n1 n2 n3,N.aM ..,this,(N.da _ _<|(eG aE hb3).symm).trans<|kt _ _ ((eG aE F.ht).symm) ((eG aE F.hc).symm) i.r⟩
 .clear m;exact xA i λxs t c i=>Ut M G how ((cZ _)▸i) aB λb t c f p x=>q b t c f p<|A.aU x
theorem oG(W:WA g)(h:20<=n){v:V}(f:DL Y v rows)(i:rows.length<=3)(l:cols<=6)(j:∀a∈rows,Nh a/\a.length<64)(m:∀a∈rows,∀q∈a,0<=q.1/\q.1<cols/\q.2.natAbs<=2000000)(q:∀w d p,bH Y d->qX d w p->qJ rows cols p->Q w d):bE ⟨g,X,n⟩ (.S 515) [v] Y Q E:=by refine W.e 31 h Z Z Z<|I0 W (rm h Z) f i l j m λb t c aO p k o s u y P=>dW Z Z ?_;exact z6 W (rm h Z) (f.fr k.fr) j (aD i dc) λr F x G z=>yf W (rm h Z) (p:=p) (o.fr x.fr) (s.fr x.fr) (u.fr x.fr) (bX r Z<|rr y z) λw A xs C=>q w A p (k.aU<|x.aU xs) C P
end
def jn(Y:N)(x c:a8)(m:Nat):Prop:=∃cells,∃lj gr:Int,Y x=O (.aF [.S c,.aL lj,.aL gr])/\Y c=O (.aF<|bh cells)/\0<=lj/\lj+m<=10000/\0<=gr
theorem jn.dq{x:a8}(h:jn Y x c m)(k:bH Y c8):jn c8 x c m:=iT h λcells s g a b d=>jX cells s g (k _ _ a) (k _ _ b) d
theorem jn.ne{x l:a8}(h:jn Y x c m)(a:Y l=X):l≠x/\l≠c:=iT h λcells s g b d e=>⟨(eG a b).symm,(eG a d).symm⟩
theorem jn.aX{x l:a8}{C:cP}(h:jn Y x c m)(a:l≠x/\l≠c):jn (Y.aX l C) x c m:=iT h λcells s g b d e=>jX cells s g (rr (N.da _ _ a.1.symm) b) (rr (N.da _ _ a.2.symm) d) e
theorem jn.cp{x:a8}(h:jn Y x c m)(a:k<=m):jn Y x c k:=l5 h λcells s g b d e f i=>ja cells s g b d e (bA (jK (il a) _) f) i
theorem jn.dr{x:a8}(h:jn Y x c (m+k)):jn Y x c m:=h.cp<|d7 ..
theorem jn.fr{x:a8}(h:jn Y x c m)(k:Fr Y c8):jn c8 x c m:=iT h λcells s g a b d=>jX cells s g (k _ _ a Z) (k _ _ b Z) d
theorem F2.of{x:a8}(k:Kc x Y c8)(p:jn Y x c m):F2 Y c8:=λa C h U n=>k a (by
 refine jz p λcells s g b U=>?_;clear k;rintro rfl;replace h:=b.symm.trans h;cases h;cases n) C h
theorem sT{a b:Int}(h:0<b):0<=a.fmod b/\a.fmod b<b:=⟨Int.fmod_nonneg_of_pos a h,Int.fmod_lt_of_pos a h⟩
theorem oq{x:Int}(b:-9000000000000000000<=x)(c:x<=9000000000000000000):∀k:Int,k<=1000->0<=k->(iq x:Int)*k<=2^27:=λk h a=>by
 have:iq x<=64:=wN (by lia)<|ig ‹_› dc;have e:(iq x:Int)*k<=64*1000:=Fo (il ‹_›) h a dc;exact bA ‹_› dc
section
variable{E:Ex}
theorem afm(W:WA g)(i:2<=n){ns:ar}(j:Y a=X)(m:Bas g a (bh ns))(q:∀x c b,jn b x c 10000->bH Y b->Q (.S x) b):bE ⟨g,X,n⟩ (.S 806) [.S a] Y Q E:=by
 refine W.e 63 i Z Z Z<|aeH j m λr o=>?_;rw [(by rw [bh,bh];refine rr (xw) ?_;exact vL _ 40:hU (bh ns) X (O 40)=bh (ns.take 40))];generalize ns.take 40=l;have p:bH Y (Y.aX r<|.aF<|bh l):=bH.cu o;have f:=N.aM Y r<|.aF<|bh l;generalize Y.aX r (.aF<|bh l)=j8 at*;refine uM (jD f) (jE f) (λk=>(bh l).take k) Z (λk y K ρ h s U=>?_) λc t=>?_
 .refine mm (aW h) λz v u=>?_;obtain rfl:=u;exact uL<|s _ (by refine rr (dK)<|rr h ?_;rfl)
 .refine rr (dD) ?_;intro x d;exact q x c _ (ja l 0 0 (N.aM _ _ _) (N.dF d<|N.aM j8 c<|.aF<|bh l) (fb _) (fb _)<|fb _)<|(p.e0 (C:=.aF<|bh l) t).e0 d
end
structure PA(Y:N)(x c:a8)(cells:ar)(lj gr:Int):Prop where
 x:Y x=O (.aF [.S c,.aL lj,.aL gr])
 c:Y c=O (.aF<|bh cells)
variable{cells:ar} {lj:Int} {gr:Int}
theorem PA.dq{x:a8}(h:PA Y x c cells lj gr)(k:bH Y c8):PA c8 x c cells lj gr:=⟨k _ _ h.x,k _ _ h.c⟩
theorem PA.ne{x:a8}(h:PA Y x c cells lj gr):c≠x:=λe=>by
 have a:=h.c;replace a:=(h.x)▸e▸a;clear h;induction cells<;>cases a
theorem PA.iV{x:a8}{spot' gr':Int}(h:PA Y x c cells lj gr):PA (Y.aX x<|.aF [.S c,.aL spot',.aL gr']) x c cells spot' gr'/\Kc x Y (Y.aX x<|.aF [.S c,.aL spot',.aL gr']):=⟨⟨N.aM ..,(N.da _ _ h.ne).trans h.c⟩,λb a C e=>(N.da _ _ a).trans e⟩
theorem PA.pen{x:a8}(h:PA Y x c cells lj gr)(s:0<=lj)(a:lj+m<=10000)(g:0<=gr):jn Y x c m:=ja cells lj gr h.x h.c s a g
theorem CN{mx:Int}(m:0<=mx/\mx<2147483629)(s:0<=lj)(a:lj<=10000):IntMulOk mx (2*lj+7207)/\IntMulOk (20947*lj) lj/\(iq (mx*(2*lj+7207)+20947*lj*lj+31):Int)*3<=2^27:=by have y:mx*(2*lj+7207)<=2147483629*27207:=Fo (by lia) (by lia) (by lia) dc;have b:0<=mx*(2*lj+7207):=Z6 m.1 (by lia);have z:20947*lj*lj<=209470000*10000:=Fo (by lia) (bA ‹_› dc) (by lia) dc;have c:0<=20947*lj*lj:=Z6 (by lia) (by lia);exact dW (J3<|wN (by lia)<|by lia) (J3<|wN (by lia)<|ig ‹_› dc)<|oq (by lia) (by lia) 3 dc dc
variable{cell:Int}
theorem Pq(s:0<=lj)(a:lj<=10000):(iq (cell.fmod 2147483587+20947*lj+3571):Int)*5<=2^27:=by exact oq (by lia) (by lia) 5 dc dc
theorem CO{z y:Int}(h:1<=y)(a:y<=1000):Ab z y=bk:=PyProof.noPylong_small (by lia)
section
variable{E:Ex} {x:a8} {many:Int} {o2 o6:au}
theorem Pr(s:0<=lj)(c:lj<=10000)(h:1<=many)(q:∀d,0<=d->d<many->Q (.aL d) Y):iy ⟨g,X,n⟩ (kU E) (abg.drop 6) [O<|.S x,O<|.aL many,o2,O<|.aL lj,O<|.aL cell,o5,o6] Y (yZ Q):=by refine uL<|rR dc (jJ dc) dc (Pq s c) ?_;refine uL<|dW dc (jJ dc) ?_;refine⟨(CN (sT dc) s c).1,jJ dc,(CN (mx:=0) dc s c).2.1,dc,(CN (sT dc) s c).2.2,?_⟩;refine uL<|mT dc dc (CO dc dc) ?_;exact uL<|have e:=λa=>sT (a:=a) (b:=many)<|dO dc h;⟨i5<|dO dc h,q _ (e _).1 (e _).2⟩
theorem afn(h:(10:Int)^18<=(if cell<0 then-cell else cell)):0<=2*((if cell<0 then-cell else cell)-(10:Int)^18)+(if decide (cell<0)=D then 1 else 0):=by
 have:(0:Int)<=(if decide (cell<0)=D then 1 else 0):=by split<;>decide
 lia
theorem E1(h:PA Y x c cells (lj+1) gr)(s:0<=lj)(l:lj<=10000)(m:0<=gr)(e:1<=many)(o:many<=1000)(q:∀d f gr',0<=d->d<many->0<=gr'->PA f x c cells (lj+1) gr'->Kc x Y f->Q (.aL d) f):iy ⟨g,X,n⟩ (kU E) (abg.drop 5) [O<|.S x,O<|.aL many,o2,O<|.aL lj,O<|.aL cell,o5,o6] Y (yZ Q):=by have r:=λ{o5 o6}=>Pr (g:=g) (n:=n) (E:=E) (x:=x) (cell:=cell) (o2:=o2) (o5:=o5) (o6:=o6) s l e λd a b=>q d Y gr a b m h .cL;refine dv h.x Z<|jQ h.c<|pk (λp=>?_) λp=>r;refine Zd<|dW dc dc ?_;refine pk (λi=>?_) λi=>r;refine Zd<|mT dc dc (jJ dc) ?_;refine BZ<|uL<|dW (i5 (dO dc e:(0:Int)<many)) (CO e o) ?_;exact yl (k:=2) h.x (bO 3) Z<|uL<|have j:=λa=>sT (a:=a) (b:=many) (dO dc e:(0:Int)<many);⟨i5 (dO dc e:(0:Int)<many),q _ _ _ (j _).1 (j _).2 (YC (afn i)<|ew (dO dc e:(0:Int)<many)) h.iV.1 h.iV.2⟩
theorem jo(W:WA g)(H:3<=n)(h:jn Y x c (m+1))(o:1<=many)(w:many<=1000)(q:∀(d:Nat) f,(d:Int)<many->jn f x c m->Kc x Y f->Q (.aL d) f):bE ⟨g,X,n⟩ (.S 813) [.S x,.aL many] Y Q E:=by
 have q:∀d f,0<=d->d<many->jn f x c m->Kc x Y f->Q (.aL d) f:=λd f I ρ p k=>by(refine zp I λd K=>?_;obtain rfl:=K);exact q d f ρ p k
 refine l5 h λcells s i j y u z A=>?_;have vs:s+1+m<=10000:=by refine rr (Hv _ _ _)<|rr (lC 1 _) ?_;exact z
 have aO:s<=10000:=bA (rN<|bT _) z;refine W.e 64 H Z Z Z<|dv j Z<|lL (p:=0<i) (λM=>?_) λM=>?_
 .refine dv j Z<|uL ⟨i5 (dO dc o:(0:Int)<many),?_⟩;refine dv j Z<|uL<|dW (i5 (dO dc o:(0:Int)<many)) (CO o w) ?_;exact yl (k:=2) j (bO 3) Z<|have l:=sT (a:=i) (b:=many) (dO dc o:(0:Int)<many);q _ _ l.1 l.2 ((⟨j,y⟩:PA Y x c cells s i).iV.1.pen u (bA (jK (il<|ej m) _) z)<|YC A<|ew (dO dc o:(0:Int)<many)) (⟨j,y⟩:PA Y x c cells s i).iV.2
 refine dv j Z<|yl (k:=1) j (ej 2) Z<|fw ((⟨j,y⟩:PA Y x c cells s i).iV (spot':=s+1) (gr':=i)) λxs aZ=>have aB:List.set [V.S c,.aL s,.aL i] 1 (.aL<|s+1)=[.S c,.aL<|s+1,.aL i]:=rfl;rr aB ?_;generalize Y.aX x (.aF [.S c,.aL<|s+1,.aL i])=j8 at*;refine⟨jJ dc,?_⟩;refine dv xs.x Z<|zS xs.c λr l=>rr ((vL _ 1).trans (xw ..).symm:hU (bh cells) X (O 1)=bh (cells.take 1))<|have F:=xs.dq<|bH.cu (C:=.aF<|bh<|cells.take 1) l;have P:=aZ.cu (C:=.aF<|bh<|cells.take 1) l;Sy Z (N.aM ..) ?_;generalize j8.aX r (.aF<|bh<|cells.take 1)=qR at*;refine uL ⟨dc,?_⟩;refine dv F.x Z ?_;intro R G;have t:=F.dq<|bH.cu (C:=.aF []) G;have aE:=P.cu (C:=.aF []) G;refine Iu (t.c) (N.aM ..) (Co _) ?_;generalize qR.aX R (.aF [])=Df at*;have fin:∀d f gr',0<=d->d<many->0<=gr'->PA f x c cells (s+1) gr'->Kc x Df f->Q (.aL d) f:=λd f gr' a b g p k=>q d f a b (p.pen (bA u<|ew<|jW _) vs g)<|aE.aU k;by_cases v:cells=[]
 .exact t6 (nN v)<|E1 t u aO A o w fin
 .have l:=sT (a:=s) (b:=(cells.length:Int))<|it<|List.length_pos_iff.mpr v;refine qw (m4 v)<|dv t.x Z<|uL<|dv t.x Z<|ei t.c (cZ _) ⟨λe=>v<|ZC e,?_⟩;exact dv t.c (rA l.1 l.2)<|E1 t u aO A o w fin
theorem vf(W:WA g)(b:5<=n){l:a8}(h:jn Y x c (m+1))(f:Y l=O (.aF B))(j:l≠x)(o:B≠[])(p:B.length<=1000)(q:∀(d:Nat) v a,B[d]?=O v->jn a x c m->Kc x Y a->Q v a):bE ⟨g,X,n⟩ (.S 820) [.S x,.S l] Y Q E:=by refine W.e 65 b Z Z Z<|jQ f<|jo W (rm b Z) h (il (List.length_pos_iff.mpr o:0<B.length)) (il p) λd a r s k=>have i:=aV<|zI r;?_;exact dv (k l j _ f) ((kq ..).trans i)<|q d _ a i s k
theorem ah0{P:α->Prop}{a b v:α}(x:P a)(y:P b)(h:v∈[a,b]):P v:=(mc h).elim (λe=>e▸x) λh=>ms h▸y
theorem Nk(W:WA g)(i:5<=n){l:a8}{a b:V}(h:jn Y x c (m+1))(f:Y l=X)(q1:∀d,jn d x c m->Kc x Y d->Q a d)(q:∀d,jn d x c m->Kc x Y d->Q b d):bE ⟨g,X,n⟩ (.S 820) [.S x,.S l] (Y.aX l<|.aF [a,b]) Q E:=
 vf W i (h.dq<|bH.cu f) (N.aM ..) (h.ne f).1 (dy _ _) (aK rfl) λU v d hd p k=>
  ah0 (P:=λv=>Q v d) (q1 d p<|Kc.aU (λb U C e=>bH.cu f b C e) k) (q d p<|Kc.aU (λb U C e=>bH.cu f b C e) k) (aW hd)
end
structure p9(count others:Int)(s z a:ar):Prop where
 l1:s.length=z.length
 l2:a.length=z.length
 s0:dg s 0=count
 z0:dg z 0=2
 fs:∀k:Nat,1<=k->k<z.length->count+1<=dg s k/\dg s k<=count+others-1
 fz:∀k:Nat,k<z.length->0<=dg z k/\dg z k<=12
 fa:∀k:Nat,k<z.length->0<=dg a k/\dg a k<=2/\(dg a k=0\/dg z k=0)
theorem qK{x:Int}(h:k<l.length):dg (l++[x]) k=dg l k:=by unfold dg;exact rr (bx)<|rr (fX h) Z
theorem xf{x:Int}(h:k=l.length):dg (l++[x]) k=x:=by refine rr h<|bL (bx)<|rr (eN<|bO _)<|rr (qU _) ?_;rfl
theorem I1{x:Int}{P:Int->Prop}(a:l.length=m)(b:k<m+1)(h:k<m->P (dg l k))(c:k=m->P x):P (dg (l++[x]) k):=bV (Nat.lt_succ_iff_lt_or_eq.mp b) (λe=>rr (qK<|a▸e)<|h e) λe=>rr (xf<|e.trans a.symm)<|c e
theorem Pt{l':ar}{x y:Int}{P:Int->Int->Prop}(a:l.length=m)(b:l'.length=m)(c:k<m+1)(h:k<m->P (dg l k) (dg l' k))(d:k=m->P x y):P (dg (l++[x]) k) (dg (l'++[y]) k):=by
 refine bV (Nat.lt_succ_iff_lt_or_eq.mp c) (λe=>?_) λe=>?_
 .refine rr (qK<|a▸e)<|rr (qK<|b▸e) ?_;exact h e
 .refine rr (xf<|e.trans a.symm)<|rr (xf<|e.trans b.symm) ?_;exact d e
theorem iP(l:List α)(x:α):(l++[x]).length=l.length+1:=by refine bL (aY) ?_;rfl
variable{others:Int}
theorem p9.jO{count:Int}{s z a:ar}(h:p9 count others s z a)(c:0<z.length){x y w:Int}(d:count+1<=x/\x<=count+others-1)(e:0<=y/\y<=12)(f:0<=w/\w<=2/\(w=0\/y=0)):p9 count others (s++[x]) (z++[y]) (a++[w]):=
 ⟨by exact rr (iP _ _)<|rr (iP _ _)<|rr (h.l1) Z,by exact rr (iP _ _)<|rr (iP _ _)<|rr (h.l2) Z,(qK (k:=0)<|h.l1▸c).trans h.s0,(qK (k:=0) c).trans h.z0,
  λk g b=>I1 (P:=λv=>count+1<=v/\v<=count+others-1) h.l1 (iP z y▸b) (h.fs k g) λU=>d,
  λk b=>I1 (P:=λv=>0<=v/\v<=12) Z (iP z y▸b) (h.fz k) λU=>e,
  λk b=>Pt (P:=λv u=>0<=v/\v<=2/\(v=0\/u=0)) h.l2 Z (iP z y▸b) (h.fa k) λU=>f⟩
theorem Pu{count:Int}:p9 count others [count] [2] [0]:=⟨Z,Z,Z,Z,λk a b=>cM a<|Nat.not_le.mpr b,λk b=>by cases Nat.lt_one_iff.mp b;exact dc,λk b=>by cases Nat.lt_one_iff.mp b;exact dc⟩
theorem Kc.Lu{x:a8}(h:bH Y c8):Kc x Y c8:=λb U C e=>h b C e
structure R3(Y:N)(x c l1 l2 l3:a8):Prop where
 n1:l1≠x/\l1≠c
 n2:l2≠x/\l2≠c
 n3:l3≠x/\l3≠c
 n12:l1≠l2
 n13:l1≠l3
 n23:l2≠l3
 z1:Y l1=X
 z2:Y l2=X
 z3:Y l3=X
structure RL(Y:N)(x c l1 l2 l3:a8)(m:Nat)(s z a:ar)(c8:N):Prop where
 p:jn c8 x c m
 k:Kc x Y c8
 f1:c8 l1=O (.aF<|bh s)
 f2:c8 l2=O (.aF<|bh z)
 f3:c8 l3=O (.aF<|bh a)
section
variable{x l1 l2 l3:a8} {m':Nat} {s z a s':ar}
theorem RL.kc(h:RL Y x c l1 l2 l3 m s z a j8)(R:R3 Y x c l1 l2 l3)(k:Kc x j8 qR)(p:jn qR x c m'):RL Y x c l1 l2 l3 m' s z a qR:=⟨p,h.k.aU k,k _ R.n1.1 _ h.f1,k _ R.n2.1 _ h.f2,k _ R.n3.1 _ h.f3⟩
theorem RL.ah1(h:RL Y x c l1 l2 l3 m s z a j8)(R:R3 Y x c l1 l2 l3):RL Y x c l1 l2 l3 m s' z a (j8.aX l1<|.aF<|bh s'):=⟨h.p.aX R.n1,h.k.aX R.z1,N.aM ..,(N.da _ _ R.n12.symm).trans h.f2,(N.da _ _ R.n13.symm).trans h.f3⟩
theorem RL.put2(h:RL Y x c l1 l2 l3 m s z a j8)(R:R3 Y x c l1 l2 l3):RL Y x c l1 l2 l3 m s s' a (j8.aX l2<|.aF<|bh s'):=⟨h.p.aX R.n2,h.k.aX R.z2,(N.da _ _ R.n12).trans h.f1,N.aM ..,(N.da _ _ R.n23.symm).trans h.f3⟩
theorem RL.put3(h:RL Y x c l1 l2 l3 m s z a j8)(R:R3 Y x c l1 l2 l3):RL Y x c l1 l2 l3 m s z s' (j8.aX l3<|.aF<|bh s'):=⟨h.p.aX R.n3,h.k.aX R.z3,(N.da _ _ R.n13).trans h.f1,(N.da _ _ R.n23).trans h.f2,N.aM ..⟩
end
theorem yr(l:ar)(x:Int):bh l++[.aL x]=bh (l++[x]):=(bN (l₁:=l) (l₂:=[x])).symm
theorem GP{E:Ex}{x:a8}{B:ar}{v:Int}(h:Y x=O (.aF<|bh B))(a:B.length<=1000)(q:Q .bR (Y.aX x<|.aF<|bh<|B++[v])):bE Γ (.eH "list.append") [.S x,.aL v] Y Q E:=jR h (rr (cZ _)<|cD (jx a)<|mX dc) (rr (yr _ _) q)
section
variable{E:Ex}
theorem X'(W:WA g)(j:10<=n){x:a8}{count:Int}(h:jn Y x c (aZ+10))(M:2<=others/\others<=100)(q:∀l1 l2 b s z a f,jn f x c aZ->Kc x Y f->f l1=O (.aF<|bh s)->f l2=O (.aF<|bh z)->f b=O (.aF<|bh a)->p9 count others s z a->2<=z.length->z.length<=4->Q (.bD [.S l1,.S l2,.S b]) f):
 bE ⟨g,X,n⟩ (.S 827) [.S x,.aL count,.aL others] Y Q E:=by
 refine W.e 66 j Z Z Z ?_;intro l1 xs l2 m b i;have aO:=bH.cu (C:=.aF [.aL count]) xs;have F:=aO.e0 (C:=.aF [.aL 2]) m;have aB:=F.e0 (C:=.aF [.aL 0]) i;have aE:=N.aM Y l1<|.aF [.aL count];have T:=N.dF (C:=.aF [.aL 2]) m aE;have aG:=N.aM (Y.aX l1<|.aF [.aL count]) l2<|.aF [.aL 2];have R:R3 Y x c l1 l2 b:=⟨h.ne xs,(h.dq aO).ne m,(h.dq F).ne i,eG m aE,eG i T,eG i aG,xs,fp aO m,fp F i⟩;have vs:RL Y x c l1 l2 b (aZ+10) [count] [2] [0] (((Y.aX l1<|.aF [.aL count]).aX l2<|.aF [.aL 2]).aX b<|.aF [.aL 0]):=⟨h.dq aB,.Lu aB,N.dF i T,N.dF i aG,N.aM ..⟩;generalize((Y.aX l1<|.aF [.aL count]).aX l2<|.aF [.aL 2]).aX b (.aF [.aL 0])=j8 at*;refine dW Z Z ?_;refine jo W (rm j Z) vs.p dc dc λd qR d1 p4 k4=>have hd:1+d<=3:=fO d 1▸zI d1;?_;refine mj (k:=1+d) (aD hd dc)<|B8 hd (λo:au×ar×ar×ar=>[O<|.S x,O<|.aL count,O<|.aL others,O<|.S l1,O<|.S l2,O<|.S b,o.1])
  (λt k o f=>RL Y x c l1 l2 b (aZ+3*t) o.2.1 o.2.2.1 o.2.2.2 f/\p9 count others o.2.1 o.2.2.1 o.2.2.2/\o.2.2.1.length=k+1) (X,[count],[2],[0]) (dW (vs.kc R k4 p4) Pu Z) (λt k o G ρ hk I hJ=>?_) λt o G I=>?_
 .have vs:=I.1;have zl:=I.2.2;have P:=I.2.1;have r:∀{l:ar},l.length=o.2.2.1.length->l.length<=1000:=λe=>by refine rr e<|rr zl ?_;exact aD (cD hk hd) dc
  have p:jn G x c (aZ+3*t+3):=vs.p;refine nB vs.f1<|jo W (rm j Z) p (gH M.1:1<=others-1) (bA (iQ _ dc)<|bA M.2 dc) λy DN y1 p6 k6=>have vs:=vs.kc R k6 p6;GP vs.f1 (r P.l1)<|have vs:=vs.ah1 (s':=o.2.1++[count+1+y]) R;?_;generalize DN.aX l1 (.aF<|bh<|o.2.1++[count+1+y])=Qp at*;refine nB vs.f2 ?_;intro pl H;have σ:=vs.kc R (.Lu<|bH.cu (C:=.aF<|bh [0,1,3,12]) H)<|vs.p.dq<|bH.cu H;refine vf W (rm j Z) (B:=bh [0,1,3,12]) σ.p (N.aM ..) (vs.p.ne H).1 (λh=>nq ek h ff) dc λd' v DO hd p8 k8=>vB (aW hd) λw A=>have vs:=σ.kc R k8 p8;GP vs.f2 (r Z)<|have vs:=vs.put2 (s':=o.2.2.1++[w]) R;?_;generalize DO.aX l2 (.aF<|bh<|o.2.2.1++[w])=Zp at*;refine nB vs.f3<|dv vs.f2 (v:=.aL w) (rl (yr _ _)<|IW ..) ?_;have fin:∀{u K},0<=u/\u<=2/\(u=0\/w=0)->RL Y x c l1 l2 b (aZ+3*t) (o.2.1++[count+1+y]) (o.2.2.1++[w]) o.2.2.2 K->ρ [O<|.S x,O<|.aL count,O<|.aL others,O<|.S l1,O<|.S l2,O<|.S b,O<|.aL k] (K.aX b<|.aF<|bh<|o.2.2.2++[u]):=λhu vs=>
   hJ (O<|.aL k,_,_,_) _ (dW (vs.put3 R) (P.jO (rr zl<|J1 _) ⟨rN<|bT y,gH<|by lia⟩ ((by decide:∀w∈[(0:Int),1,3,12],0<=w/\w<=12) w A:0<=w/\w<=12) hu)<|bL (iP _ _)<|rr zl Z)
  exact lL (p:=w=0) (λA=>jo W (rm j Z) vs.p dc dc λu K u1 p10 k10=>GP (vs.kc R k10 p10).f3 (r P.l2)<|fin (dW (bT u) (Int.le_of_lt_add_one u1)<|.inr A)<|vs.kc R k10 p10) λA=>GP (vs.kc R .cL<|vs.p.dr (k:=1)).f3 (r P.l2)<|fin (dW dc dc<|.inl Z)<|vs.kc R .cL<|vs.p.dr (k:=1)
 .exact q _ _ _ _ _ _ G (I.1.p.dr) I.1.k I.1.f1 I.1.f2 I.1.f3 I.2.1 (I.2.2▸cg (d7 1 d))<|I.2.2▸cg hd
end
noncomputable def I2(k:Int):Option aw:=O [.bD [.aQ sL,.aL k],.bD [.aQ nD,.bR]]
noncomputable def aca(w:aq):Option aw:=O [.bD [.aQ my,.aQ w],.bD [.aQ nD,.bR]]
noncomputable def I3(k:Int):Option aw:=O [.bD [.aQ EP,.aQ [110]],.bD [.aQ qF,.aL 4],.bD [.aQ my,.aL k],.bD [.aQ ER,.aQ [110]]]
noncomputable def afo:Option aw:=O [.bD [.aQ sL,.aL 1],.bD [.aQ sL,.aL 3],.bD [.aQ ES,.aQ [43]],.bD [.aQ ET,.aQ [45]],.bD [.aQ nD,.bR],.bD [.aQ Cv,.aQ TF]]
noncomputable def Nl:aa:=[[],[97,98],[97,34,98],[92],[10],[45,32,49,58]]
def yt:List (Option<|aw):=[X,O [],I2 1,I2 2,I2 3]++Nl.map aca++[I3<|-1,I3 0,I3 1,afo]
theorem Pw:∀u∈yt,∀B,u=O B->B.all (oR 1)=D:=by
 have:(yt.all λu=>match u with|none=>D|some B=>B.all<|oR 1)=D:=by decide+kernel
 rintro u h B rfl;exact la this _ h
structure SC(Y:N)(x c:a8)(m:Nat)(ps:List (a8×aw))(c8:N):Prop where
 p:jn c8 x c m
 k:Kc x Y c8
 f:∀q∈ps,c8 q.1=O (.aF q.2)/\q.1≠x
structure V0(Y:N)(x c:a8)(m:Nat)(ps:List (a8×aw))(l:a8)(lv:aw)(c8:N):Prop extends SC Y x c m ps c8 where
 hl:c8 l=O (.aF lv)
 nl:l≠x/\l≠c
 z:Y l=X
 np:∀q∈ps,q.1≠l
section
variable{x l r:a8} {m':Nat} {ps:List (a8×aw)} {lv lv':aw}
theorem SC.kc(h:SC Y x c m ps j8)(k:Kc x j8 qR)(p:jn qR x c m'):SC Y x c m' ps qR:=⟨p,h.k.aU k,λq a=>⟨k _ (h.f q a).2 _ (h.f q a).1,(h.f q a).2⟩⟩
theorem SC.cu(h:SC Y x c m ps j8)(a:j8 r=X):SC Y x c m ((r,B)::ps) (j8.aX r<|.aF B):=⟨h.p.dq<|bH.cu a,h.k.cu a,λq b=>by
 rcases mc b with rfl|b
 .exact⟨N.aM ..,(h.p.ne a).1⟩
 .exact⟨N.dF a (h.f q b).1,(h.f q b).2⟩⟩
theorem SC.mkl(h:SC Y x c m ps j8)(a:j8 l=X):V0 Y x c m ps l lv (j8.aX l<|.aF lv):=⟨⟨h.p.dq<|bH.cu a,h.k.cu a,λq b=>⟨N.dF a (h.f q b).1,(h.f q b).2⟩⟩,N.aM ..,h.p.ne a,h.k.nn a (h.p.ne a).1,λq b=>eG a (h.f q b).1⟩
theorem V0.kc(h:V0 Y x c m ps l lv j8)(k:Kc x j8 qR)(p:jn qR x c m'):V0 Y x c m' ps l lv qR:=⟨h.toSC.kc k p,k _ h.nl.1 _ h.hl,h.nl,h.z,h.np⟩
theorem V0.cu(h:V0 Y x c m ps l lv j8)(a:j8 r=X):V0 Y x c m ((r,B)::ps) l lv (j8.aX r<|.aF B):=⟨h.toSC.cu a,N.dF a h.hl,h.nl,h.z,λq b=>by
 rcases mc b with rfl|b
 .exact(eG a h.hl).symm
 .exact h.np q b⟩
theorem V0.iV(h:V0 Y x c m ps l lv j8):V0 Y x c m ps l lv' (j8.aX l<|.aF lv'):=⟨⟨h.p.aX h.nl,h.k.aX h.z,λq a=>⟨(N.da _ _<|h.np q a).trans (h.f q a).1,(h.f q a).2⟩⟩,N.aM ..,h.nl,h.z,h.np⟩
end
theorem lt3{P:Nat->Prop}{a:Nat}(h:(a:Int)<3)(b:P 0)(c:P 1)(d:P 2):P a:=
 match a,zI h with
 |0,_=>b
 |1,_=>c
 |2,_=>d
theorem acb{a:Nat}(h:(a:Int)<3):I2 (1+a)∈yt:=lt3 (P:=λa=>I2 (1+a)∈yt) h (aW (i:=2) Z) (aW (i:=3) Z)<|aW (i:=4) Z
theorem acd{a:Nat}(h:(a:Int)<3):I3 (a-1)∈yt:=lt3 (P:=λa=>I3 (a-1)∈yt) h (aW (i:=11) Z) (aW (i:=12) Z)<|aW (i:=13) Z
section
variable{E:Ex}
theorem ace(W:WA g)(o:10<=n){x:a8}(h:jn Y x c (aZ+4))(q:∀v u y,jn y x c aZ->Kc x Y y->u∈yt->sF y v u->Q v y):bE ⟨g,X,n⟩ (.S 834) [.S x] Y Q E:=by
 refine W.e 67 o Z Z Z ?_;intro lw xs;refine vf W (rm o Z) (B:=bQ Nl) (h.dq<|bH.cu xs) (N.aM ..) (h.ne xs).1 (λh=>nq ek h ff) dc λd v H hd I ρ=>vB (aW hd) λz K=>have aE:SC Y x c (aZ+3) [] H:=⟨I,(Kc.Lu<|bH.cu xs).aU ρ,nofun⟩;?_;intro r1 vs;have aE:=aE.cu (B:=[]) vs;refine jo W (rm o Z) aE.p dc dc λa M a1 aB P=>have aE:=aE.kc P aB;?_;intro j R;have aE:=aE.cu (B:=[.bD [.aQ sL,.aL<|1+a],.bD [.aQ nD,.bR]]) R;intro m T;have aE:=aE.cu (B:=[.bD [.aQ my,.aQ z],.bD [.aQ nD,.bR]]) T;intro l hl;have aE:=aE.mkl (lv:=[.bR,.S r1,.S j,.S m]) hl;generalize(((M.aX j<|.aF [.bD [.aQ sL,.aL<|1+a],.bD [.aQ nD,.bR]]).aX m<|.aF [.bD [.aQ my,.aQ z],.bD [.aQ nD,.bR]]).aX l<|.aF [.bR,.S r1,.S j,.S m])=DN at*;refine nB aE.hl<|jo W (rm o Z) aE.p dc dc λb Qp aG σ k4=>have aE:=aE.kc k4 σ;?_;intro C h4;have aE:=aE.cu (B:=[.bD [.aQ EP,.aQ [110]],.bD [.aQ qF,.aL 4],.bD [.aQ my,.aL<|b-1],.bD [.aQ ER,.aQ [110]]]) h4;refine jR aE.hl (cD (by decide:4<1000)<|mX dc)<|have aE:=aE.iV (lv':=[.bR,.S r1,.S j,.S m,.S C]);nB aE.hl ?_;intro aO h5;have aE:=aE.cu (B:=[.bD [.aQ sL,.aL 1],.bD [.aQ sL,.aL 3],.bD [.aQ ES,.aQ [43]],.bD [.aQ ET,.aQ [45]],.bD [.aQ nD,.bR],.bD [.aQ Cv,.aQ TF]]) h5;refine jR aE.hl (cD (by decide:5<1000)<|mX dc)<|have aE:=aE.iV (lv':=[.bR,.S r1,.S j,.S m,.S C,.S aO]);vf W (rm o Z) aE.p aE.hl aE.nl.1 (λh=>nq ek h ff) (aK rfl) λd v A hd s t=>have w:∀r B,O B∈yt->A r=O (.aF B)->Q (.S r) A:=λr B G e=>q _ (O B) A (aE.kc t s).p (aE.kc t s).k G<|.inr<|gk r B Z Z e<|Pw _ G B Z;have F:=λi {q} (e:[(aO,[V.bD [.aQ sL,.aL 1],.bD [.aQ sL,.aL 3],.bD [.aQ ES,.aQ [43]],.bD [.aQ ET,.aQ [45]],.bD [.aQ nD,.bR],.bD [.aQ Cv,.aQ TF]]),(C,[.bD [.aQ EP,.aQ [110]],.bD [.aQ qF,.aL 4],.bD [.aQ my,.aL<|b-1],.bD [.aQ ER,.aQ [110]]]),(m,[.bD [.aQ my,.aQ z],.bD [.aQ nD,.bR]]),(j,[.bD [.aQ sL,.aL<|1+a],.bD [.aQ nD,.bR]]),(r1,[])][i]?=O q)=>((aE.kc t s).f q<|aW e).1;?_
 match d,hd with
 |0,hd=>refine rl (aJ hd) ?_;exact q _ X A (aE.kc t s).p (aE.kc t s).k (aW (i:=0) Z)<|.inl ⟨Z,Z⟩
 |1,hd=>refine rl (aJ hd) ?_;exact w _ _ (aW (i:=1) Z)<|F 4 Z
 |2,hd=>refine rl (aJ hd) ?_;exact w _ _ (acb a1)<|F 3 Z
 |3,hd=>refine rl (aJ hd) ?_;exact w _ _ (am<|.inl<|am<|.inr<|List.mem_map.mpr<|bX z K Z)<|F 2 Z
 |4,hd=>refine rl (aJ hd) ?_;exact w _ _ (acd aG)<|F 1 Z
 |5,hd=>refine rl (aJ hd) ?_;exact w _ _ (aW (i:=14) Z)<|F 0 Z
end
variable{us:aa}
section
variable{E:Ex}
theorem z8(W:WA g)(f:3<=n){w:aq}{x:a8}(j:w.length<=1000)(a:Y x=O (.aF<|bQ us))(b:us.length<=1000)(k:(us.map bW).sum<=1000000)(q:∀c,bH Y c->Q (.aQ<|dP w us) c):bE ⟨g,X,n⟩ (.S 893) [.aQ w,.S x] Y Q E:=by
 have h:=EU b;refine W.e 76 f Z Z Z<|ei a (dI _)<|qi h.1 ⟨DK h.2<|aK rfl,λr d=>?_⟩;refine jS (N.aM ..) (N.dF d a) ?_ λm i=>?_
 .exact rr (dI _)<|DK (by decide:2<=1000) b
 refine tC (l:=w::(eF us.length++[58])::us) (N.aM ..) ?_ ?_
 .replace h:=h.2;refine rr (i1)<|rr (i1)<|rr (aY)<|rr (show [58].length=1 from Z)<|rr (gP)<|rr (gP)<|?_;lia
 exact q _<|(bH.cu d).e0 i
def lu(ls:aa):aq:=iC [10] ls++[10]
theorem GQ(us:aa)(k:Nat):hU (bQ us) X (O (k:Int))=bQ (us.take k):=MZ us k
theorem Uu(m:aa):((m.map λl=>l.length+1).sum:Nat)=(m.map λl=>(l.length:Int)+1).sum:=by
 induction m with
 |nil=>rfl
 |cons y r i=>refine rr (i1)<|rr (i1)<|rl i ?_;rfl
theorem GR(h:ls.length<=100)(b:(ls.map bW).sum<=900000):(ls.map bW).sum+ls.length*1<=900100/\(lu ls).length<=900101:=by have a:(ls.map bW).sum+ls.length*1<=900100:=cV b<|gG 1 h;exact⟨a,by rw [lu];refine rr (aY) ?_;exact cG (aD (mW [10] ls) a) 1⟩
theorem Px(W:WA g)(u:200<=n){x:a8}{p':aq}(A:Y x=O (.aF<|bQ ls))(hk:k<=ls.length)(f:ls.length<=100)(G:(ls.map bW).sum<=900000)(c:gJ (lu ls)=.eA p') (hp:p'.length+((ls.take k).map λl=>l.length+1).sum<=(lu ls).length) (q:∀b,Fr Y b->Q (.du D) b):bE ⟨g,X,n⟩ (.S 879) [.S x,.aL k] Y Q E:=by
 refine fw (GR f G) λxs H=>W.e 74 u Z Z Z<|tC A (aD xs dc) ⟨mX<|aD (cG (aD (mW [10] ls) xs) 1) dc,?_⟩;refine zS A λr I=>rr (GQ _ _)<|have m:bH Y (Y.aX r<|.aF<|bQ<|ls.take k):=bH.cu I;have d:=N.aM Y r<|.aF<|bQ<|ls.take k;?_;generalize Y.aX r (.aF<|bQ<|ls.take k)=j8 at*;refine zh (hd:=X) (it:=.S r) (jD d) (λj o b=>o=bh (((ls.take k).take j).map λl=>(l.length:Int)+1)/\b=j8) ⟨Z,Z⟩ (λU U U U h=>by refine rr (h.2) ?_;exact jE d) ?_ ?_
 .clear d;clear m;intro j y o b aO z;obtain⟨rfl,rfl⟩:=z;rw [bQ,bz]at aO;exact Fs aO λl f=>l7 ⟨by refine rr (dK (i:=j))<|rr f<|rr (bN) ?_;rw [bh,bh];refine rr (bN) ?_;rfl,Z⟩
 clear d;intro o b z;obtain⟨rfl,rfl⟩:=z;intro ρ K;refine rr (dI _)<|rr (dD) ?_;refine Sy Z (N.aM ..)<|have vs:∀C,bH Y (b.aX ρ C):=λC=>m.e0 K;⟨Z,?_⟩;refine wD W (rm u Z) (T:=lu ls) (aD H dc) (rr c λh=>nq Internal.R.ctorIdx h ff) (λp cs h=>by replace h:=c▸h;exact nq Internal.R.ctorIdx h ff) (λp cs v w b h=>by replace h:=c▸h;exact nq Internal.R.ctorIdx h ff) λe a M aZ t=>?_;clear m;obtain rfl:=R.eA.inj<|c▸aZ;refine xy t λaB dx P=>AD P λaE V tb pos s aG=>?_;obtain⟨F,dx2,l2,k2,σ⟩:=aG;refine vA 107 dx aE V tb s Z ?_;have hle:((ls.take k).map λl=>(l.length:Int)+1).sum<=(lu ls).length-p'.length:=by
  refine rl (Uu _) ?_;lia
 exact Gg s Z F<|Gg s Z F<|d9 σ Z Z<|qw (aN hle)<|l7<|qB (q M<|(vs _).fr.aU aB)<|aN<|iQ _ nn
end
def mQ(c:Nat)(l:aq):Prop:=∀d∈l,d≠c
theorem Nm{c:Nat}{a x:aq}(h:mQ c a):(a++c::x).takeWhile (λd=>d !=c)=a:=by
 induction a with
 |nil=>exact D7 λe=>bne_iff_ne.mp e Z
 |cons d a i=>exact(D8 (p:=λd=>d !=c)<|bne_iff_ne.mpr<|h d<|.head _).trans (aH (d::·)<|i λy b=>h y<|.tail _ b)
theorem kW(c:Nat)(a:aq)(b:aq)(r:aa):iC [c] (a::b::r)=a++c::iC [c] (b::r):=bF a [c] _
theorem Py{c:Nat}{A xs:aa}(nA:A≠[])(n:xs≠[])(h:∀a∈A,mQ c a)(d:∀b∈xs,mQ c b)(e:iC [c] A=iC [c] xs):A=xs:=by
 induction A generalizing xs with
 |nil=>exact cM Z nA
 |cons a A i=>
  cases xs with
  |nil=>exact cM Z n
  |cons b xs=>
   cases A with
   |nil=>
    induction xs with
    |nil=>exact aH (·::[]) e
    |cons b' xs=>exact(h a (bS) c (Eq.mpr (aH (c∈·) (e.trans (kW ..):a=_))<|J4 _<|.head _) Z).elim
   |cons g A=>
    cases xs with
    |nil=>exact(d b (bS) c (Eq.mp (aH (c∈·) ((kW ..).symm.trans e:_=b))<|J4 _<|.head _) Z).elim
    |cons b' xs=>
     replace e:=(kW ..).symm.trans<|e.trans<|kW ..;obtain rfl:=(Nm<|d b<|.head _).symm.trans<|(aH (List.takeWhile _) e).symm.trans<|Nm (x:=iC [c]<|g::A)<|h a<|.head _;exact aH (b::·)<|i (dy _ _) (dy _ _) (λx f=>h x<|.tail _ f) (λx f=>d x<|.tail _ f) (gg<|List.append_cancel_left e).2
theorem Ya(c:Nat)(l:aa):Z7 (tx [c]) (l.map tx)=tx (iC [c] l):=by
 induction l with
 |nil=>rfl
 |cons x r i=>
  induction r with
  |nil=>rfl
  |cons y r=>
   refine rr (kW _ _ _ _) ?_;show tx x++tx [c]++Z7 (tx [c]) ((y::r).map tx)=_;exact rr i ((aH (·++_)<|yQ ..).trans<|(yQ ..).trans<|aH tx<|bF x [c] _)
theorem Uv(x:Str)(c:Nat):(Txt.split x (tx [c]))≠[]:=λh=>NX 0<|aD (split_pos x<|tx [c])<|cC<|aH bW h
theorem CP{c:Nat}(i:ls≠[])(h:∀l∈ls,mQ c l):(Txt.split (tx<|iC [c] ls) (tx [c])).map (·.cps.toList)=ls:=by
 generalize hS:Txt.split (tx<|iC [c] ls) (tx [c])=aE;have b:Z7 (tx [c]) aE=tx (iC [c] ls):=by refine rl hS ?_;exact StrLaws.join_split _ _
 have j:(aE.map (·.cps.toList)).map tx=aE:=List.map_map.trans<|(jH λx U=>(Wi x).symm).trans<|LX aE;have f:iC [c] (aE.map (·.cps.toList))=iC [c] ls:=by
  replace b:=(Ya _ _)▸j▸b;exact QL.mp b
 refine Py (λh=>?_) i (λa g=>?_) h f
 .have:=Uv (tx<|iC [c] ls) c;replace this:=hS▸this;exact this<|List.map_eq_nil_iff.mp h
 .clear b f h;refine vB g λx k=>?_;have:=StrLaws.split_free (tx<|iC [c] ls) c x (by show x∈Txt.split _ (tx [c]);refine rr hS ?_;exact k);intro d hd e;clear hS g;subst e;exact this hd
theorem acf{i:Int}{d:Nat}(hd:d∈eF i):45<=d:=bV (qy i) (λz=>cK z λm U e=>aD dc (Ci m d<|e▸hd).1) λz=>cK z λm U e=>(mc<|e▸hd).elim (λh=>cC h.symm) λh=>aD dc (Ci _ d h).1
theorem yu{i:Int}{c:Nat}(h:c=10\/c=32):mQ c (eF i):=λd hd e=>cM (e▸acf hd:45<=c) (h.elim (λh=>h▸by decide) λh=>h▸by decide)
theorem nF{c x:Nat}{l:aq}(h:x≠c)(t:mQ c l):mQ c (x::l):=λd hd=>(mc hd).elim (λe=>e▸h)<|t d
theorem qL{c:Nat}:mQ c []:=λU h=>nomatch h
theorem sU{c:Nat}{a b:aq}(h:mQ c a)(e:mQ c b):mQ c (a++b):=λd hd=>(ma hd).elim (h d)<|e d
theorem E2{c s:Nat}(a:s≠c){l:aa}(h:∀x∈l,mQ c x):mQ c (iC [s] l):=by
 induction l with
 |nil=>exactλd hd=>nomatch hd
 |cons x r i=>
  induction r with
  |nil=>exact h x<|bS
  |cons y r=>
   exact rr (kW _ _ _ _)<|sU (h x<|bS) λd hd=>bV (mc hd) (λe=>e▸a) λhd=>i (λz b=>h z<|.tail _ b) d hd
theorem Pz{w:aq}(a:mQ 10 w)(b:∀u∈us,mQ 10 u):mQ 10 (dP w us):=by
 refine E2 dc λx h=>?_
 rcases mc h with rfl|h
 .exact a
 exact bV (mc h) (λz=>rr z<|sU (yu<|.inl Z)<|nF dc qL) λh=>b x h
theorem Uw(s:aq):mQ 10 (s.map w6).flatten:=by
 induction s with
 |nil=>exact qL
 |cons d s i=>exact sU (iteInduction (motive:=mQ 10) (λU=>nF dc<|nF dc qL) λh=>iteInduction (motive:=mQ 10) (λU=>nF dc<|nF dc qL) λU=>iteInduction (motive:=mQ 10) (λU=>nF dc<|nF dc qL) λU=>nF h qL) i
theorem I5(nt:∀B,pE k (.bD B)=D->mQ 10 (sh<|.bD B)){v:V}(h:pE k v=D):mQ 10 (sh v):=Im (P:=λv=>mQ 10<|sh v) h (nF dc qL) (λU U=>yu<|.inl Z) (λs U=>sU (nF dc<|Uw s)<|nF dc qL) nt
theorem Yb(k:Nat):∀v,pE k v=D->mQ 10 (sh v):=by
 induction k with
 |zero=>exactλU=>I5 (k:=0) λU h=>nq bP h ff
 |succ k i=>exactλU=>I5 (k:=k+1) λB h=>sU (nF dc<|rr (uT _)<|E2 dc λx a=>vB a λy b=>i y<|la h y b)<|nF dc qL
theorem PB(l:List α)(k:Nat):hU l (O (k:Int)) X=l.drop k:=by
 have:wm l.length (k:Int)=min k l.length:=rfl;simp only [hU,this,dD];by_cases h:k<=l.length
 .exact rr (qn h) Z
 .exact rr (Wd<|by lia)<|rr (ue<|bO _)<|rr (ue<|by lia) Z
theorem vU(us:aa)(k:Nat):hU (bQ us) (O (k:Int)) X=bQ (us.drop k):=by refine rr (PB _ _) ?_;rw [bQ,bQ];exact rr (Ho) Z
theorem I6(l:List α)(x:α):hU (l++[x]) X (O<|-1)=l:=by
 have:wm (l++[x]).length (-1)=l.length:=by simp [wm];lia
 unfold hU;simp only [this];simp
section
variable{E:Ex}
theorem GS(W:WA g)(f:3<=n){w:aq}(i:mQ 32 w)(j:∀u∈us,mQ 32 u)(k:(dP w us).length<=1000000)(q:∀l a,bH Y a->Y l=X->a l=O (.aF<|bQ us)->Q (.bD [.aQ w,.S l]) a):bE ⟨g,X,n⟩ (.S 886) [.aQ<|dP w us] Y Q E:=by
 refine W.e 75 f Z Z Z<|MG (by simp) k λr m=>?_;have e:(Txt.split (tx<|dP w us) (tx [32])).map (·.cps.toList)=w::(eF us.length++[58])::us:=by
  refine CP (by simp) λx h=>?_
  rcases mc h with rfl|h
  .exact i
  exact bV (mc h) (λz=>rr z<|sU (yu<|.inr Z)<|nF dc qL) λh=>j x h
 refine rr e<|have b:=N.aM Y r<|.aF<|bQ<|w::(eF us.length++[58])::us;have c:bH Y (Y.aX r<|.aF<|bQ<|w::(eF us.length++[58])::us):=bH.cu m;?_;generalize Y.aX r (.aF<|bQ<|w::(eF us.length++[58])::us)=j8 at*;exact dv b Z<|zS b λl d=>rr (vU (w::(eF us.length++[58])::us) 2:hU (bQ<|w::(eF us.length++[58])::us) (O 2) X=bQ us)<|q l _ (c.e0 d) (fp c d)<|N.aM _ _ _
def PD(x:a8)(Y c8:N):Prop:=∀b C,b≠x->Y b=O C->Ca C=D->c8 b=O C
theorem PD.of{x:a8}(k:Kc x Y j8)(f:Fr j8 c8):PD x Y c8:=λb C h e a=>f b C (k b h C e) a
theorem Lw(h:ls≠[]):lu ls=fl ls:=mK (me h) λl r z=>rr z<|X2 l r
theorem Ux(ls:aa)(k:Nat):(fl ls).length=((ls.take k).map λl=>l.length+1).sum+(fl<|ls.drop k).length:=by
 conv=>lhs;rw [<-hO k ls]
 exact rr (CF _ _)<|rr (aY)<|rr (abW _) Z
theorem vh(W:WA g)(b:200<=n){x:a8}(c:Y x=O (.aF<|bQ ls))(h:ls≠[])(d:k<=ls.length)(f:ls.length<=100)(i:(ls.map bW).sum<=900000)(j:∃e,gJ (fl ls)=.eA e/\e.length<=(fl<|ls.drop k).length)(q:∀a,Fr Y a->Q (.du D) a):bE ⟨g,X,n⟩ (.S 879) [.S x,.aL k] Y Q E:=by refine cK j λe l m=>Px W b c d f i (p':=e) (rr (Lw h) l) ?_ q;refine rr (Lw h) ?_;have:=Ux ls k;lia
theorem I7{r:aa}(h:∀q,w_head.isPrefixOf (t++10::q)=bk):∃e,gJ (fl<|t::r)=.eA e/\e.length<=(fl<|(t::r).drop 0).length:=by refine(bX (fl<|t::r) ?_<|by simp);unfold gJ xn;refine rr (bu (by refine rr (h _) ?_;simp)) ?_;rfl
theorem lW(l:aa)(x:aq):bQ l++[.aQ x]=bQ (l++[x]):=(bN (l₁:=l) (l₂:=[x])).symm
theorem Uy(l:aa)(x:aq):((l++[x]).map bW).sum=(l.map bW).sum+x.length:=by refine rr (bN)<|rr (m3) ?_;rfl
theorem xh{l:aa}{x:aq}{a b:Nat}(h:(l.map bW).sum<=a)(c:x.length<=100)(e:gh (a+100) b=D):((l++[x]).map bW).sum<=b:=rr (Uy _ _)<|aD (cV h c)<|aK e
theorem acg(W:WA g)(z:210<=n){x:a8}{L:ah}(h:jn Y x c (aZ+1))(F:t8 L)(hax:a≠x)(ha:Y a=O (.aF<|bQ<|[w_head]++s8 cf L++[nO 18]))(G:(([w_head]++s8 cf L).map bW).sum<=800000)(M:(s8 cf L).length=17)(q:∀i,jn i x c aZ->PD x Y i->Q (.du D) i):bE ⟨g,X,n⟩ (.S 905) [.S x,.S a] Y Q E:=by
 refine W.e 78 z Z Z Z<|jo W (rm z Z) h dc dc λd H d1 p1 aB=>have o:=aB _ hax _ ha;have fin:∀i,Fr H i->Q (.du D) i:=λi f=>q i (p1.fr f)<|.of aB f;have b1:=T8 F<|[101,110,100,32]++eF 20;have b2:=λc v I=>X4 F (c:=c) v I;?_;generalize s8 cf L=ls at*;have C:([w_head]++ls).length=18:=aH (·+1) M;have p:([w_head]++ls++[nO 18]).length=19:=by refine rr (aY)<|rr C ?_;rfl
 have P:(nO 18).length<=100:=dc;have R:∀(t:aq) y i u A,(∀q,w_head.isPrefixOf (t++10::q)=bk)->t.length<=100->i y=O (.aF<|bQ<|t::(ls++[nO 18]))->Fr H i->(∀i,Q (.du D) i->u (.du D) i)->bE ⟨g,X,n-1⟩ (.S 879) [.S y,.aL 0] i u A:=λt y i u A v I ρ f K=>by
  exact vh W (rm z Z) (k:=0) ρ (dy _ _) (dA _) (aD (cC (p:(t::(ls++[nO 18])).length=19)) dc) (aD (cV I<|xh (aD (gq _ _) G:(ls.map bW).sum<=800000) P (b:=800100) Z) dc) (I7 v) λxs f2=>K xs<|fin xs<|f.aU f2
 have c1:∀t:aq,[V.aQ t].length+(bQ<|ls++[nO 18]).length<=cE:=λt=>mX (by refine rr (dI _)<|rr (aY)<|rr M ?_;exact aK rfl);refine lL (λaE=>?_) λaE=>?_
 .intro r m;exact rX (N.dF m o) (vU ([w_head]++ls++[nO 18]) 1) λaO j=>jS (N.dF j<|N.aM _ _ _) (N.aM _ _ _) (c1 _) λvs s=>R [103,114,97,109,109,97,114,109,105,108,108,32,112,97,114,115,101,114,32,50] _ _ _ _ (λq=>rfl) dc (N.aM _ _ _) (((bH.cu m).e0 j).e0 s).fr λU h=>h
 refine lL (λv=>?_) λv=>?_
 .intro r m;exact rX (N.dF m o) (vU ([w_head]++ls++[nO 18]) 1) λaO j=>jS (N.dF j<|N.aM _ _ _) (N.aM _ _ _) (c1 _) λvs s=>R [103,114,97,109,109,97,114,109,105,108,108,32,108,101,120,101,114,32,49] _ _ _ _ (λq=>rfl) dc (N.aM _ _ _) (((bH.cu m).e0 j).e0 s).fr λU h=>h
 refine lL (λT=>?_) λT=>?_
 .refine ei o ((dI _).trans p)<|xU (n:=20) dc (mX dc) ⟨mX dc,λr m=>?_⟩;refine jS (N.dF m o) (N.aM _ _ _) (mX<|rr ((dI _).trans p) dc) λaO j=>ei (N.dF j<|N.dF m o) ((dI _).trans p) ?_;have aG:([w_head]++ls++[nO 18]++[[101,110,100,32]++eF 20]).length=20:=by refine rr (aY)<|rr p ?_;rfl
  refine vh W (rm z Z) (k:=19) ((N.aM _ _ _).trans<|aH (λl=>O<|cP.aF l)<|lW _ _) (dy _ _) (aD dc<|cC aG.symm) (aD (cC aG) dc) (xh (xh G P (b:=800100) Z) dc Z) (rr (lH p) b1) λi f=>fin i<|((bH.cu m).e0 j).fr.aU f
 .have eb:hU (bQ<|[w_head]++ls++[nO 18]) X (O<|-1)=bQ ([w_head]++ls):=by refine rl (lW ([w_head]++ls) _) ?_;exact I6 _ _
  refine rX o eb λr m=>ei (N.dF m o) ((dI _).trans p) ⟨jJ dc,?_⟩;have σ:∀(w:Int) y i u A,w.natAbs<=1000->w≠19->([101,110,100,32]++eF w).length<=100->i y=O (.aF<|bQ ([w_head]++ls)++[.aQ<|[101,110,100,32]++eF w])->Fr H i->(∀i,Q (.du D) i->u (.du D) i)->bE ⟨g,X,n-1⟩ (.S 879) [.S y,.aL 18] i u A:=λw y i u A w1 w2 w3 ρ f K=>by
   have afp:([w_head]++ls++[[101,110,100,32]++eF w]).length=19:=by refine rr (aY)<|rr C ?_;rfl
   exact vh W (rm z Z) (k:=18) (ρ.trans<|aH (λl=>O<|cP.aF l)<|lW _ _) (dy _ _) (aD dc<|cC afp.symm) (aD (cC afp) dc) (xh G w3 Z) (rr (lH C)<|b2 w w1 w2) λxs f2=>K xs<|fin xs<|f.aU f2
  have c2:∀t:aq,(bQ<|[w_head]++ls).length+[V.aQ t].length<=cE:=λt=>mX (by refine rr (dI _)<|rr C ?_;exact aK rfl);have hd:d=2\/d=3:=match d,zI d1 with
   |0,_=>cM Z aE
   |1,_=>cM Z v
   |2,_=>.inl Z
   |3,_=>.inr Z
   |4,_=>cM Z T
  rcases hd with rfl|rfl
  .refine xU (n:=18) dc (mX dc) ⟨mX dc,λaO j=>?_⟩;exact jS (N.dF j<|N.aM _ _ _) (N.aM _ _ _) (c2 _) λvs s=>ei (N.dF s<|N.dF j<|N.dF m o) ((dI _).trans p)<|σ 18 _ _ _ _ dc dc dc (N.aM _ _ _) (((bH.cu m).e0 j).e0 s).fr λi h=>h
  .refine xU (n:=20) dc (mX dc) ⟨mX dc,λaO j=>?_⟩;exact jS (N.dF j<|N.aM _ _ _) (N.aM _ _ _) (c2 _) λvs s=>ei (N.dF s<|N.dF j<|N.dF m o) ((dI _).trans p)<|σ 20 _ _ _ _ dc dc dc (N.aM _ _ _) (((bH.cu m).e0 j).e0 s).fr λi h=>h
end
def vi(one:ar)(k:Nat):ar:=(dk k).filterMap λ(i:Nat)=>if dg one i=-1 then X else O (2^i)
def sW(one:ar)(u:Int)(k:Nat):af:=(dk k).filterMap λ(i:Nat)=>if dg one i=-1\/dg one i=u then X else O ((i:Int),dg one i)
def hE(one:ar):af:=sW one (lx one) one.length
def jU(one:ar):Int:=(vi one one.length).sum
noncomputable def qM(m:Nat):ar:=-1::(dk<|m-1).map λ(k:Nat)=>(k:Int)+1
noncomputable def Uz(m:Nat):Nat->ae
 |0=>[[]]
 |k+1=>(qM m).flatMap λx=>(Uz m k).map (x::·)
theorem UA:∀{l:ar},(∀x∈l,x∈qM m)->l∈Uz m l.length:=by
 intro a;induction a with
 |nil=>
  intro U;exact .head _
 |cons x l i=>
  intro h;exact List.mem_flatMap.mpr<|bX x (h x<|bS)<|List.mem_map.mpr<|bX l (i λy b=>h y<|di _ ‹_›) Z
def GU(m:Nat)(one:ar):Bool:=oj (jU one) (lx one) m&&(hE one).all (pC (jU one)<|lx one)&&decide (-1<=lx one)&&decide (lx one<=(m:Int)-1)&&decide ((jU one).natAbs<=100)&& ((hE one).all λq=>decide (0<=q.1)&&decide (q.1<m)&&decide (1<=q.2)&&decide (q.2<=(m:Int)-1))&&decide (Nh<|hE one)&&decide ((hE one).length<=3)
theorem UB:((dk 3).all λm=>(Uz (m+1)<|m+1).all<|GU<|m+1)=D:=by decide+kernel
variable{one:ar}
theorem GV(b:m<=3)(a:1<=m)(c:one.length=m)(h:∀x∈one,x∈qM m):GU m one=D:=by
 have:=la UB (m-1)<|J9<|cD (QA a NS) b;rw [m6 a]at this;refine la this one ?_;have:=UA h
 rwa [c]at this
noncomputable def Lx:aa:=[[36,101,110,100],[101,114,114,111,114],[36,117,110,100,101,102,105,110,101,100],[97],[39,43,39]]
noncomputable def Ly:aa:=[[36,97,99,99,101,112,116],[115],[116,32,117]]
def ach:List (Nat×aa):=[(4,Lx.take 4++Ly.take 2),(4,Lx.take 4++Ly.take 3),(5,Lx.take 5++Ly.take 2),(5,Lx.take 5++Ly.take 3)]
def zz(d:Nat):Bool:=VX d&&d !=10&&d !=34&&d !=92
def ah3(q:Nat×aa):Bool:=xY (bQ q.2)&&decide (q.2.take 3=jm)&&decide (q.1+2<=q.2.length/\q.2.length<=q.1+3)&&decide (q.2.getD q.1 []=yj)&&VY q.2&&(q.2.all λs=>s.all zz)&&decide (4<=q.1/\q.1<=5)&&decide q.2.Nodup
theorem afq:(ach.all ah3)=D:=by decide+kernel
structure CQ(count:Int)(names:aa):Prop where
 tx:xY (bQ names)=D
 fn:names.take 3=jm
 gj:count+2<=names.length/\(names.length:Int)<=count+3
 acc:names.getD count.toNat []=yj
 ok:VY names=D
 pl:(names.all λs=>s.all zz)=D
 Nn:4<=count/\count<=5
 nd:names.Nodup
theorem ZI{c:Nat}{names:aa}(h:(c,names)∈ach):CQ c names:=by have:=la afq _ h;have b7:=nL this;have b:=nL b7;have a:=nL b;have d:=nL a;have e:=nL d;have f:=nL e;have g:=aI<|nR e;have i:=aI<|nR b7;exact⟨nL f,aI<|nR f,⟨il g.1,il g.2⟩,aI<|nR d,nR a,nR b,⟨il i.1,il i.2⟩,aI<|nR this⟩
theorem afr:(yt.all λu=>EG 2 (kR u)&&pE 2 (kR u)&&(pD (kR u)==O D))=D:=by decide+kernel
theorem GW(h:u∈yt):EG 2 (kR u)=D/\pE 2 (kR u)=D/\pD (kR u)=O D:=by have:=la afr u h;exact dW (nL<|nL this) (nR<|nL this)<|cR<|nR this
theorem I8:∀{cs:List (Option<|aw)},(∀u∈cs,u∈yt)->fS (cs.map kR)=O D:=by
 intro l;induction l with
 |nil=>
  intro U;exact Z
 |cons u r i=>
  intro h;refine rr (eL) ?_;rw [fS];exact rr ((GW<|h u<|bS).2.2)<|i λv a=>h v<|di _ ‹_›
def qN(st ru:Int)(k:Int)(row:af):Prop:=Nh row/\∀q∈row,0<=q.1/\q.1<k/\kH st ru q.2=D
structure j5(m:Nat)(p:kg)(cs:List (Option<|aw)):Prop where
 m1:1<=m/\m<=3
 nm:CQ p.cy p.bp
 ru:p9 p.cy (xo p) p.dt p.dE p.d5
 r2:2<=p.dE.length/\p.dE.length<=4
 dl:p.bC.length=m
 dr:∀x∈p.bC,0<=x/\x<p.dt.length
 ac:∃rows,rows.length=m/\(∀row∈rows,qN m p.dt.length p.cy row)/\qJ rows p.cy p.dJ
 go:∃gs:ae,(gs.length:Int)=xo p/\(∀one∈gs,one.length=m/\∀x∈one,x∈qM m)/\qJ (gs.map hE) m p.cF/\p.jT=gs.map lx/\p.dX=gs.map jU
 cl:cs.length=p.dt.length
 ca:∀u∈cs,u∈yt
structure fv(p:kg)(cs:List (Option<|aw)):Prop where
 F:gK p
 C:Ue p cs
 R:∀v∈cU p cs,Hq v
 ok:qY p=D
 R1:ya cs=D
 z1:p.dJ.bB.length<=18
 z2:p.cF.bB.length<=18
 nm:CQ p.cy p.bp
 dl:p.bC.length<=3
 l2:2<=p.dt.length/\p.dt.length<=4
 sg:Au p.dX
theorem Np{a b:Int}(h:∀x∈l,a<=x/\x<=b):nI (O a) (O b) X l=D:=nA (rfl)<|al λx c=>nA (aN (h x c).1)<|aN (h x c).2
theorem ZJ{a:Int}(h:∀x∈l,a<=x):nI (O a) X X l=D:=nA (rfl)<|al λx b=>nA (aN<|h x b)<|rfl
theorem Yc{a b:ao}{m:Int}(h:nI a b X l=D)(e:m=l.length):nI a b (O m) l=D:=nA (be e)<|nR h
theorem afs(h:qj l=D)(a:∀x∈l,x.natAbs<=10000000):Hq (bh l):=by refine⟨al λv b=>?_,(cZ l).symm▸aD (aI<|nL h) dc⟩;exact vB b λx c=>aN (cw (a x c)<|by decide+kernel)
theorem ZK{l:aa}(h:VY l=D):Hq (bQ l):=⟨al λv a=>vB a λx b=>nL<|la (nR h) x b,(dI l).symm▸aD (aI<|nL h) dc⟩
theorem Au.rd(h:Au l):Hq (bh l):=afs h.ok h.2
theorem qJ.rw{p:kK}(h:qJ rows cols p):Lb p=D:=by rw [Lb];refine rr (h.sm.1.ok)<|rr (h.sm.2.1.ok)<|rr (h.sm.2.2.1.ok)<|rr (h.sm.2.2.2.ok) ?_;rfl
theorem GX{p:kg}(a:VY p.bp=D)(a1:qj [p.cy]=D)(b:qj p.dt=D)(c:qj p.dE=D)(d:qj p.d5=D)(e:qj p.bC=D)(f:Lb p.dJ=D)(g:qj p.jT=D)(h:qj p.dX=D)(i:Lb p.cF=D):qY p=D:=by rw [qY];refine rr a<|rr a1<|rr b<|rr c<|rr d<|rr e<|rr f<|rr g<|rr h<|rr i ?_;rfl
theorem oH(h:GU m one=D):oj (jU one) (lx one) m=D/\(∀q∈hE one,pC (jU one) (lx one) q=D)/\(-1<=lx one/\lx one<=(m:Int)-1)/\(jU one).natAbs<=100/\(∀q∈hE one,(0<=q.1/\q.1<m)/\1<=q.2/\q.2<=(m:Int)-1)/\Nh (hE one)/\(hE one).length<=3:=by have b:=nL h;have c:=nL b;have d:=nL c;have e:=nL d;have f:=nL e;have g:=nL f;exact rR (nL g) (la<|nR g) ⟨aI<|nR f,aI<|nR e⟩ (aI<|nR d)<|dW (λq i=>have a:=la (nR c) q i;dW ⟨aI<|nL<|nL<|nL a,aI<|nR<|nL<|nL a⟩ (aI<|nR<|nL a) (aI<|nR a)) (aI<|nR b)<|aI<|nR h
section
variable{p:kg}
theorem Yd:p.cy+xo p=p.bp.length:=(lC ..).trans<|rJ ..
theorem aci(aZ:CQ p.cy p.bp):xo p<=3:=sj aZ.gj.2
theorem j5.UC(aO:j5 m p cs){x:Int}(h:p.dt[k]?=O x):k=0/\x=p.cy\/p.cy+1<=x/\x<=(p.bp.length:Int)-1:=by
 have a:=gl h;have e:=r7 h;induction k with
 |zero=>exact .inl ⟨Z,e.symm.trans aO.ru.s0⟩
 |succ k=>exact .inr (by refine rl e<|rl Yd ?_;exact aO.ru.fs (k+1) (gq ..)<|aO.ru.l1▸a)
theorem j5.dt(aO:j5 m p cs){x:Int}(h:x∈p.dt):p.cy<=x/\x<=(p.bp.length:Int)-1:=by
 refine gi h λk e=>?_
 rcases aO.UC e with⟨_,rfl⟩|h
 .exact⟨fb _,gH<|bA (jK dc _) aO.nm.gj.1⟩
 .exact⟨bA (ew<|jW _) h.1,h.2⟩
theorem j5.pn(aO:j5 m p cs):∃gs:ae,(gs.length:Int)=xo p/\(∀one∈gs,GU m one=D)/\qJ (gs.map hE) m p.cF/\p.jT=gs.map lx/\p.dX=gs.map jU:=
 let⟨gs,g1,g2,g⟩:=aO.go
 (fW gs g1 (λone h=>GV aO.m1.2 aO.m1.1 (g2 one h).1 (g2 one h).2) g)
theorem aft(aZ:CQ p.cy p.bp):(p.bp.length:Int)<=8:=bA aZ.gj.2<|ix aZ.Nn.2 3
theorem j5.zJ(aO:j5 m p cs):Au [p.cy]/\Au p.dt/\Au p.dE/\Au p.d5/\Au p.bC/\Au p.jT/\Au p.dX:=by
 have u:=aO.ru;have c:=aO.m1.2;refine pS (aO.pn) λgs i g U d e=>have f:gs.length<=40:=li<|i▸bA (aci aO.nm) dc;(rR ⟨aK rfl,λx a=>ms a▸VZ (bA dc aO.nm.Nn.1) (bA aO.nm.Nn.2 dc)⟩ ⟨u.l1▸(aD aO.r2.2 dc:p.dE.length<=40),λx a=>?_⟩ ⟨(aD aO.r2.2 dc:p.dE.length<=40),λx a=>?_⟩ ⟨u.l2▸(aD aO.r2.2 dc:p.dE.length<=40),λx a=>?_⟩<|dW ⟨aO.dl▸aD c dc,λx a=>?_⟩ ⟨by refine rr d<|rr (aT _) ?_;exact f,λx a=>?_⟩ ⟨by refine rr e<|rr (aT _) ?_;exact f,λx a=>?_⟩)
 .exact VZ (bA dc<|bA aO.nm.Nn.1 (aO.dt a).1)<|bA (aO.dt a).2<|bA (iQ _ dc)<|bA (aft aO.nm) dc
 .exact mnt a λk b=>VZ (bA dc (u.fz k b).1)<|bA (u.fz k b).2 dc
 .exact mnt a λk b=>VZ (bA dc (u.fa k<|u.l2▸b).1)<|bA (u.fa k<|u.l2▸b).2.1 dc
 .exact VZ (bA dc (aO.dr x a).1)<|bA (ew (aO.dr x a).2)<|il<|aD (u.l1▸aO.r2.2) dc
 .replace a:=d▸a;refine mm a λone h z=>?_;obtain rfl:=z;exact VZ (bA dc ((oH<|g one h).2.2.1).1)<|bA ((oH<|g one h).2.2.1).2<|bA (iQ _ dc)<|il<|aD c dc
 .replace a:=e▸a;refine mm a λone h z=>?_;obtain rfl:=z;exact aD (oH<|g one h).2.2.2.1 dc
theorem I9{gs:ae}(f:ar->Int)(h:k<gs.length):dg (gs.map f) k=f gs[k]:=r7 (by refine rr (bz)<|rr (aV h) ?_;rfl)
theorem xj{l:List (List α)}{q:α}(h:q∈l.getD k []):∃r,l[k]?=O r/\q∈r:=by
 replace h:=(bx)▸h;cases e:l[k]? with
 |none=>replace h:=e▸h;cases h
 |some r=>replace h:=e▸h;exact bX r Z h
theorem j5.dJ(aO:j5 m p cs):kG p.dJ p.bC.length p.cy=D/\pz p.dJ p.bC.length p.dt.length=D:=by refine hV (aO.ac) λrows a1 b a=>⟨by refine rr (aO.dl)<|rl a1 ?_;exact a.fl,al λc h=>al λq d=>?_⟩;exact gi h λk e=>cK (xj<|a.cW k c e q d) λr f g=>rr (aO.dl)<|((b r<|aW f).2 q g).2.2
theorem j5.cF(aO:j5 m p cs):kG p.cF (xo p).toNat p.bC.length=D/\nI (O 0) (O<|(p.bC.length:Int)-1) X p.cF.dp=D/\nC p.cF p.jT p.dX p.bC.length=D:=by
 refine pS (aO.pn) λgs n f g s j=>?_;have sub:∀(k:Nat) d,(zX p.cF)[k]?=O d->∀q∈d,∃h:k<gs.length,q∈hE gs[k]:=λk d i q c=>by
  refine cK (xj<|g.cW k d i q c) λr e t=>have a:=gl e;have a:=(aT _)▸a;?_;replace e:=(aV a)▸(bz)▸e;exact⟨a,by refine rr (aJ e) ?_;exact t⟩
 refine rr (aO.dl) ?_;rw [<-(by refine rr (aT _)<|rl n ?_;rfl:(gs.map hE).length=(xo p).toNat)];refine dW g.fl (Np λx u=>?_)<|al λk a=>?_
 .refine mnt u λk a=>?_;by_cases l:dg p.cF.bB k=0
  .exact rr ((l9 g.fl ((fq g.fl).2.2▸a:k<p.cF.bB.length)).2.2.1 l) ⟨fb _,gH<|il aO.m1.1⟩
  .exact gU (uZ g.fl ((fq g.fl).2.2▸a:k<p.cF.bB.length) l) λo U U o3 v=>ka (sub o _ o3 _ v) λw c=>have b:=(oH<|f _<|eU w).2.2.2.2.1 _ c;⟨bA dc b.2.1,b.2.2⟩
 .have a:=mr_ a;replace a:=(aT _)▸j▸a;refine rr s<|rr j<|rr (I9 _ a)<|rr (I9 _ a) ?_;refine nA ((oH<|f _<|eU a).1)<|al λq c=>?_;exact cK (xj c) λd i c=>(oH<|f _<|eU a).2.1 q (sub k d i q c).2
theorem j5.Ye(aO:j5 m p cs):gK p:=by
 refine pS (aO.pn) λgs g d U c f=>?_;have l1:(p.dt.length:Int)=p.dE.length:=aH _ aO.ru.l1;have j:p.cy∉p.dt.drop 1:=λh=>by
  refine gi h λi e=>?_;refine bV (aO.UC<|(fO _ _)▸(yC)▸e) (λh=>?_) λh=>?_
  .exact cM h.1<|Nat.succ_ne_zero _
  .exact cM h.1<|wj<|jW _
 refine⟨aO.nm.tx,aO.nm.fn,⟨bA dc aO.nm.Nn.1,gH<|bA (jK dc _) aO.nm.gj.1⟩,Np λx a=>aO.dt a,?_,Yc (ZJ λx a=>?_) l1,Yc (ZJ λx a=>?_) (l1.trans (aH _ aO.ru.l2).symm:(p.dt.length:Int)=p.d5.length),?_,Np λx a=>⟨(aO.dr x a).1,Int.le_sub_one_of_lt (aO.dr x a).2⟩,λe=>?_,aO.dJ.1,aO.dJ.2,Yc (Np λx a=>?_) (by exact rr c<|rr (aT _)<|rr g Z),Yc (IM _) (by exact rr f<|rr (aT _)<|rr g Z),aO.cF.2.1,aO.cF.1,aO.cF.2.2⟩
 .unfold zY;refine rr (aN aO.nm.acc)<|rr (aN (List.ne_nil_of_length_pos (aO.ru.l1▸cD dc aO.r2.1:0<p.dt.length):p.dt≠[]))<|rr (aN aO.ru.s0)<|rr (aN j) ?_;rfl
 .refine mnt a λk b=>?_;exact(aO.ru.fz k b).1
 .refine mnt a λk b=>?_;exact(aO.ru.fa k<|aO.ru.l2▸b).1
 .exact nA (aN aO.ru.z0)<|al λk b=>oB<|(aO.ru.fa k<|aO.ru.l1▸mr_ b).2.2.imp aN aN
 .exact cM aO.m1.1 (by refine rl (aO.dl)<|rr e ?_;exact dc)
 .refine mm (c▸a) λone h z=>?_;refine rl z ?_;refine rr (aO.dl) ?_;exact(oH<|d one h).2.2.1
theorem j5.uw(aO:j5 m p cs):fv p cs:=by
 refine Bh (aO.zJ) λb c d t=>Bh t λe f i s=>hV (aO.ac) λrows U U a=>pS (aO.go) λgs U U g U U=>have l:p.dt.length<=4:=aO.ru.l1▸aO.r2.2;?_;have j:Hq (cs.map kR):=⟨al λv k=>by
  refine vB k λu h=>?_;exact(GW<|aO.ca u h).2.1,by refine rr (aT _)<|rr (aO.cl) ?_;exact aD l dc⟩
 refine⟨aO.Ye,⟨aO.cl,I8 aO.ca⟩,fc (ZK aO.nm.ok)<|fc b.rd<|fc c.rd<|fc d.rd<|fc e.rd<|fc f.rd<|fc a.sm.1.rd<|fc a.sm.2.1.rd<|fc a.sm.2.2.1.rd<|fc a.sm.2.2.2.rd<|fc i.rd<|fc s.rd<|fc g.sm.1.rd<|fc g.sm.2.1.rd<|fc g.sm.2.2.1.rd<|fc g.sm.2.2.2.rd<|fc j f0,
  GX aO.nm.ok b.ok c.ok d.ok e.ok f.ok a.rw i.ok s.ok g.rw,?_,a.z,g.z,aO.nm,aO.dl▸aO.m1.2,⟨aO.ru.l1▸aO.r2.1,l⟩,s⟩
 exact nA (aN<|aD (cC aO.cl)<|aD l dc)<|al λu h=>(GW<|aO.ca u h).1
end
noncomputable def cX(p:kg):Nat->ar
 |1=>[p.cy]
 |2=>p.dt
 |3=>p.dE
 |4=>p.d5
 |5=>p.bC
 |6=>p.dJ.dj
 |7=>p.dJ.dp
 |8=>p.dJ.bB
 |9=>p.dJ.bU
 |10=>p.jT
 |11=>p.dX
 |12=>p.cF.dj
 |13=>p.cF.dp
 |14=>p.cF.bB
 |15=>p.cF.bU
 |_=>[]
def z9(p:kg)(cs:List (Option<|aw))(k s:Nat)(y:Int):Prop:=gO p cs k (bh<|(cX p k).set s y)/\y.natAbs<10^160\/10^160<=y/\y.natAbs<10^170
def CU(p:kg)(s:Nat):ar:=if dg p.dJ.bB s=0 then [1,-1]else [0,p.bC.length,0-(p.dt.length:Int),1048577,1048575,-1048575,-1048577]
def UD(p:kg)(k s:Nat):ar:=match k with
 |1=>[2,(p.bp.length:Int),p.cy+1,p.cy-1]
 |2=>[p.cy-1,(p.bp.length:Int),if s=0 then p.cy+1 else p.cy]
 |3=>[-1,10^160]++(if s=0 then [1,3]else [])
 |4=>[-1,10^160]++(if dg p.dE s=0 then []else [1])
 |5=>[-1,(p.dt.length:Int)]
 |6=>[1000,-1000]
 |7=>CU p s
 |8=>[(p.bC.length:Int)+1,-1]++(if dg p.dJ.bB s=0 then []else [0])
 |9=>[-1,(s:Int)+1]
 |10=>[-2,(p.bC.length:Int),0]++(if dg p.dX s=0 then(if 1<p.bC.length then [1]else [])else [-1])
 |12=>[1000,-1000]
 |13=>if dg p.cF.bB s=0 then [1,-1]else [0,p.bC.length,dg p.jT<|dg p.cF.bB s-1]
 |14=>[(p.dX.length:Int)+1,-1]++(if dg p.cF.bB s=0 then []else [0])
 |15=>[-1,(s:Int)+1]
 |_=>[]
section
variable{p:kg}
theorem acj:(10:Int)^160<=10^160/\((10:Int)^160).natAbs<10^170:=by decide+kernel
theorem jf{s:Nat}{y:Int}(f:gO p cs k (bh<|(cX p k).set s y))(z:y.natAbs<=20000000):z9 p cs k s y:=.inl ⟨f,cw z<|by decide+kernel⟩
theorem ZL{s:Nat}:z9 p cs k s (10^160):=.inr acj
theorem fi{P:α->Prop}{c:Prop} [Decidable c]{l1 l2:List α}(a:c->∀y∈l1,P y)(b:¬c->∀y∈l2,P y):∀y∈(if c then l1 else l2),P y:=by
 split
 .exact a ‹_›
 .exact b ‹_›
theorem nz{a:Nat}{c:Int}(h:a<=1000)(b:c.natAbs<=10):((a:Int)+c).natAbs<=20000000:=aD (VQ _ _)<|aD (cV h b) dc
theorem nz0{a:Nat}(h:a<=1000):((a:Int)).natAbs<=20000000:=aD h dc
theorem cz{x c:Int}(h:4<=x/\x<=5)(a:c.natAbs<=10):(x+c).natAbs<=20000000:=by refine zp (bA dc h.1) λk z=>?_;obtain rfl:=z;exact nz (aD (li h.2) dc) a
theorem UE{s r x:Int}(c:x<=0\/s<=x)(d:0<=x\/x<=-r)(e:x≠1048576)(f:x≠-1048576):kH s r x=bk:=by
 unfold kH;refine rr (bj e)<|rr (bj f)<|rr (Hk _)<|rr (Hk _) ?_;have a:(decide (0<x)&&decide (x<s))=bk:=by
  exact bV c (λh=>rr (bj<|NY h) Z) λh=>rr (bj<|NY h)<|kP _
 have b:(decide (-r<x)&&decide (x<0))=bk:=by
  exact bV d (λh=>rr (bj<|NY h)<|kP _) λh=>rr (bj<|NY h) Z
 refine rr a<|rr b ?_;rfl
theorem UG{x:Int}(h:-1000<=x)(a:x<=1000):x≠1048576/\x≠-1048576:=⟨λe=>cM (e▸a) dc,λe=>cM (e▸h) dc⟩
theorem Lz{a:Nat}(h:a<=1000):(a:Int)<=1000/\(-1000:Int)<=a:=⟨il h,bA dc<|bT a⟩
theorem vV(G:fv p cs){s:Nat}{y:Int}(a:y=1000\/y=-1000):(s<p.dJ.dj.length->gO p cs 6 (bh<|p.dJ.dj.set s y))/\(s<p.cF.dj.length->gO p cs 12 (bh<|p.cF.dj.set s y)):=⟨λh=>rC (r:={p.dJ with dj:=p.dJ.dj.set s y}) Z dc<|e7<|EX G.F.dJ (aD G.z1 dc) (bA G.nm.Nn.2 dc) (cI h (fq G.F.dJ).1) a,λh=>rF (r:={p.cF with dj:=p.cF.dj.set s y}) Z dc<|e7<|EX G.F.cF (aD G.z2 dc) (il<|aD G.dl dc) (cI h (fq G.F.cF).1) a⟩
theorem tI(G:fv p cs){s:Nat}{y:Int}(a:y<0\/(s:Int)<y):(s<p.dJ.bU.length->gO p cs 9 (bh<|p.dJ.bU.set s y))/\(s<p.cF.bU.length->gO p cs 15 (bh<|p.cF.bU.set s y)):=⟨λh=>rC (r:={p.dJ with bU:=p.dJ.bU.set s y}) Z dc<|e7<|CG (p:=p.dJ) (s:=s) (cI h (fq G.F.dJ).2.1)<|rr (gZ h) a,λh=>rF (r:={p.cF with bU:=p.cF.bU.set s y}) Z dc<|e7<|CG (p:=p.cF) (s:=s) (cI h (fq G.F.cF).2.1)<|rr (gZ h) a⟩
theorem vj(G:fv p cs):p.dX.length=(xo p).toNat/\p.jT.length=(xo p).toNat/\2<=xo p/\xo p<=3:=(mT (rl ((sQ G.F).2.2.2) Z) (rl ((sQ G.F).2.2.1) Z) (Int.le_sub_left_of_add_le G.nm.gj.1)<|sj G.nm.gj.2)
theorem ql(G:fv p cs){s:Nat}:(s<p.dJ.bB.length->∀y,(y<0\/(p.bC.length:Int)<y\/y=0/\dg p.dJ.bB s≠0)->gO p cs 8 (bh<|p.dJ.bB.set s y))/\(s<p.cF.bB.length->∀y,(y<0\/(p.dX.length:Int)<y\/y=0/\dg p.cF.bB s≠0)->gO p cs 14 (bh<|p.cF.bB.set s y)):=⟨λh y a=>rC (r:={p.dJ with bB:=p.dJ.bB.set s y}) Z dc<|e7<|EY G.F.dJ (Ua G.F.dJ G.F.oka) h a,λh y a=>rF (r:={p.cF with bB:=p.cF.bB.set s y}) Z dc<|e7<|EY G.F.cF (Ub G.F.cF ((vj G).1) G.F.Pc) h<|((vj G).1)▸a⟩
theorem zC(G:fv p cs){s:Nat}{y:Int}(a:s<p.dJ.dp.length)(h:(dg p.dJ.bB s=0/\y≠0)\/(dg p.dJ.bB s≠0/\kH p.bC.length p.dt.length y=bk))(z:y.natAbs<=20000000):z9 p cs 7 s y:=jf (rC (r:={p.dJ with dp:=p.dJ.dp.set s y}) Z dc<|Pb G.F.dJ (mT (il<|aD G.dl dc) (bT _) (il<|aD G.l2.2 dc)<|bT _) (cI a (fq G.F.dJ).2.2) h) z
theorem tJ(G:fv p cs){s:Nat}{y:Int}(a:s<p.cF.dp.length)(h:(dg p.cF.bB s=0/\y≠0)\/(dg p.cF.bB s≠0/\(y<1\/y=dg p.jT (dg p.cF.bB s-1))))(z:y.natAbs<=20000000):z9 p cs 13 s y:=jf (rF (r:={p.cF with dp:=p.cF.dp.set s y}) Z dc<|Lo G.F.cF (vj G).1 (cI a (fq G.F.cF).2.2) h) z
theorem ack(G:fv p cs){s:Nat}(e:s<p.cF.dp.length)(h:dg p.cF.bB s≠0):(dg p.jT<|dg p.cF.bB s-1).natAbs<=20000000:=by
 have a:=l9 G.F.cF (c:=s)<|cI e (fq G.F.cF).2.2;refine zp a.1 λi f=>?_;rw [f]at h a⊢;induction i with
 |zero=>exact cM Z h
 |succ i=>
  have b:i<p.jT.length:=by refine rr ((vj G).2.1)<|rl ((fq G.F.cF).2.1) ?_;exact li a.2.1
  refine rr (show((i+1:Nat):Int)-1=i from eW (i:Int) 1) ?_;have g:dg p.jT i∈p.jT:=by
   unfold dg;refine rr (bx)<|rr (aV b) ?_;exact eU b
  have:=(zv G.F.gdf).2 _ g;have d:=G.dl;have a1:=this.1 _ Z;have j:=this.2 _ Z;generalize dg p.jT i=z at*;lia
theorem n15{p:kg}{s:Nat}(h:s<(cX p k).length):1<=k/\k<=15:=by
 by_cases a:k=0
 .exact cM (a▸h:s<(cX p 0).length)<|Dr _
 .refine⟨QF a,gS λb=>?_⟩;exact ka (Nat.exists_eq_add_of_le' b) λn e=>Dr s (e▸h:s<(cX p<|n+16).length)
theorem ah4(G:fv p cs){s:Nat}:∀k,s<(cX p k).length->∀y∈UD p k s,z9 p cs k s y:=by
 have F:=G.F;have l:=sQ F;have g:=vj G;have c:=G.nm.Nn;have nl:p.bp.length<=1000:=li<|bA G.nm.gj.2<|bA (ix c.2 3) dc;have dl:=aD G.dl (show 3<=1000 by decide);have b:=aD G.l2.2 (show 4<=1000 by decide);intro k a;refine k15 (P:=λk=>s<(cX p k).length->∀y∈UD p k s,z9 p cs k s y) (fc ?_<|fc ?_<|fc ?_<|fc ?_<|fc ?_<|fc ?_<|fc ?_<|fc ?_<|fc ?_<|fc ?_<|fc ?_<|fc ?_<|fc ?_<|fc ?_<|fc ?_ f0) (n15 a).1 (n15 a).2 a<;>clear a<;>intro a
 .obtain rfl:s=0:=Nat.lt_one_iff.mp a;exact fc (jf (oF F<|.inl Z) dc)<|fc (jf (oF F<|.inr<|.inl Z)<|nz0 nl)<|fc (jf (oF F<|.inr<|.inr<|.inl Z)<|cz c dc)<|fc (jf (oF F<|.inr<|.inr<|.inr Z)<|cz (c:=-1) c dc) f0
 .have q:∀y:Int,y=p.cy+1\/y=p.cy->y.natAbs<=20000000:=λy h=>h.elim (λe=>e▸cz (c:=1) c dc) λe=>e▸(Ac p.cy)▸cz (c:=0) c dc;refine fc (jf (vS F a<|.inl<|vu _ dc)<|cz (c:=-1) c dc)<|fc (jf (vS F a<|.inr<|.inl<|fb _)<|nz0 nl)<|fc ?_ f0;split
  .exact jf (vS F a<|.inr<|.inr<|.inl ⟨‹_›,i5<|jW _⟩)<|q _<|.inl Z
  .exact jf (vS F a<|.inr<|.inr<|.inr ⟨QF ‹_›,Z⟩)<|q _<|.inr Z
 .have a:=cI a l.1;exact fc (jf (vc F a<|.inl dc) dc)<|fc ZL<|fi (λe=>fc (jf (vc F a<|.inr ⟨e,dc⟩) dc)<|fc (jf (vc F a<|.inr ⟨e,dc⟩) dc) f0) λU=>f0
 .have a:=cI a l.2.1;exact fc (jf (z5 F a<|.inl dc) dc)<|fc ZL<|fi (λU=>f0) λe=>fc (jf (z5 F a<|.inr ⟨by decide,e⟩) dc) f0
 .exact fc (jf (yq a<|.inl dc) dc)<|fc (jf (yq a<|.inr<|fb _)<|nz0 b) f0
 .exact fc (jf ((vV G<|.inl Z).1 a) dc)<|fc (jf ((vV G<|.inr Z).1 a) dc) f0
 .exact fi (λe=>fc (zC G a (.inl ⟨e,by decide⟩) dc)<|fc (zC G a (.inl ⟨e,by decide⟩) dc) f0) λe=>have o:=λ(y:Int) f i (d:y≠1048576/\y≠-1048576)=>zC G a (y:=y)<|.inr ⟨e,UE f i d.1 d.2⟩;fc (o 0 (.inl dc) (.inl dc) dc dc) (fc (o _ (.inr<|fb _) (.inl<|bT _) (UG (Lz dl).2 (Lz dl).1)<|nz0 dl) (fc ((Int.zero_sub (p.dt.length:Int))▸o _ (.inl<|HA<|bT _) (.inr<|fb _) (UG (rM (Lz b).1)<|bA (HA<|bT _) dc) (aD (cC<|Fi _)<|nz0 b))
   (fc (o _ (.inr<|bA (Lz dl).1 dc) (.inl dc) dc dc)<|fc (o _ (.inr<|bA (Lz dl).1 dc) (.inl dc) dc dc)<|fc (o _ (.inl dc) (.inr<|bA dc<|rM (Lz b).1) dc dc)<|fc (o _ (.inl dc) (.inr<|bA dc<|rM (Lz b).1) dc dc) f0)))
 .exact fc (jf ((ql G).1 a _<|.inr<|.inl<|jW _)<|nz dl dc)<|fc (jf ((ql G).1 a _<|.inl dc) dc)<|fi (λU=>f0) λe=>fc (jf ((ql G).1 a _<|.inr<|.inr ⟨Z,e⟩) dc) f0
 .exact fc (jf ((tI G<|.inl dc).1 a) dc)<|fc (jf ((tI G<|.inr<|jW _).1 a)<|nz (aD (dH<|cI a (fq F.dJ).2.1) dl:s<=1000) dc) f0
 .have o:=λ(y:Int) h=>jf (cs:=cs) (k:=10)<|Pd (x:=y) F a h;exact fc (o _ (.inl dc) dc)<|fc (o _ (.inr<|.inl<|fb _)<|nz0 dl)<|fc (o _ (.inr<|.inr<|.inl Z) dc)<|fi (λe=>fi (λU=>fc (o _ (.inr<|.inr<|.inr<|.inr ⟨Z,e⟩) dc) f0) λU=>f0) λe=>fc (o _ (.inr<|.inr<|.inr<|.inl ⟨Z,e⟩) dc) f0
 .exact f0
 .exact fc (jf ((vV G<|.inl Z).2 a) dc)<|fc (jf ((vV G<|.inr Z).2 a) dc) f0
 .refine fi (λe=>fc (tJ G a (.inl ⟨e,by decide⟩) dc)<|fc (tJ G a (.inl ⟨e,by decide⟩) dc) f0) λe=>fc (tJ G a (.inr ⟨e,.inl dc⟩) dc)<|fc (jf (jG (p':={p with cF:={p.cF with dp:=p.cF.dp.set s (p.bC.length:Int)}}) Z dc dc c13 ?_)<|nz0 dl)<|fc (tJ G a (.inr ⟨e,.inr Z⟩)<|ack G a e) f0;exact nU<|.inr<|bX _ (iU a)<|.inr<|bX _ Z<|vu _ dc
 .exact fc (jf ((ql G).2 a _<|.inr<|.inl<|jW _)<|nz (li (l.2.2.2▸bA g.2.2.2 dc):p.dX.length<=1000) dc)<|fc (jf ((ql G).2 a _<|.inl dc) dc)<|fi (λU=>f0) λe=>fc (jf ((ql G).2 a _<|.inr<|.inr ⟨Z,e⟩) dc) f0
 .exact fc (jf ((tI G<|.inl dc).2 a) dc)<|fc (jf ((tI G<|.inr<|jW _).2 a)<|nz (aD (dH (g.2.1▸cI a (fq F.cF).2.1:s<p.jT.length)) (li<|l.2.2.1▸bA g.2.2.2 dc):s<=1000) dc) f0
end
section
variable{E:Ex}
theorem DU(W:WA g)(j:3<=n){v:V}{p:kg}{s:Nat}(a:iY Y v p)(k:s<p.dJ.bB.length)(q:∀r i,bH Y i->Y r=X->i r=O (.aF<|bh<|CU p s)->Q (.S r) i):bE ⟨g,X,n⟩ (.S 846) [.aL s,v] Y Q E:=by
 obtain⟨x,rfl,a⟩:=a;refine W.e 69 j Z Z Z<|gN a.c Z λv b=>cK b λy z d=>rr z<|dv d (ft k)<|lL (λh=>?_) λh=>?_
 .intro r f;refine q r _ (bH.cu f) f ?_;unfold CU;exact rr (bI h)<|N.aM _ _ _
 .refine gN a.df Z λv b=>cK b λy z d=>rr z<|ei d (cZ _)<|gN a.lf Z λv b=>cK b λy z d=>rr z<|ei d (cZ _)<|dW Z Z ?_;intro r f;refine q r _ (bH.cu f) f ?_;unfold CU;exact rr (bu h)<|N.aM ..
end
theorem iY.S{v:V}{p:kg}(h:iY Y v p):∃x,v=.S x:=h.imp λU h=>h.1
theorem wG{p:Prop} [Decidable p]{A xs:Prop}(h:p)(a:A):cond ((fF==fF)==decide p) A xs:=rr (aN h) a
variable{aG:Prop}
theorem pG{p:Prop} [Decidable p]{A xs:Prop}(h:¬p)(b:xs):cond ((fF==fF)==decide p) A (cond (decide p) aG xs):=rr (bj h) b
section
variable{E:Ex}
theorem mR(W:WA g)(c:1<=n){x:a8}{p:kg}{s:Nat}{w:aq}(a:iY Y (.S x) p)(q:iy ⟨g,X,n-1⟩ (kU E) (aeF.drop 1) [O<|.aQ w,O<|.aL s,O<|.S x,O<|.aL p.cy,O<|.aL p.bp.length,O<|.aL p.dt.length] Y (yZ Q)):bE ⟨g,X,n⟩ (.S 860) [.aQ w,.aL s,.S x] Y Q E:=(W.d 71 Z).r W c Z<|gN a.x.ct Z λv h=>rr h<|gN a.x.nm Z λv h=>cK h λy b e=>rr b<|ei e (dI _)<|gN a.x.lf Z λv h=>cK h λz b f=>rr b<|ei f (cZ _)<|dW Z Z q
theorem GY(W:WA g)(c:1<=n){x:a8}{p:kg}{s:Nat}{w:aq}(b:iY Y (.S x) p)(q:iy ⟨g,X,n-1⟩ (kU E) (aeE.drop 1) [O<|.aQ w,O<|.aL s,O<|.S x,O<|.aL p.bC.length,O<|.aL p.dX.length,X,X,X,X] Y (yZ Q)):bE ⟨g,X,n⟩ (.S 853) [.aQ w,.aL s,.S x] Y Q E:=(W.d 70 Z).r W c Z<|gN b.x.df Z λv h=>cK h λy a e=>rr a<|ei e (cZ _)<|gN b.x.gm Z λv h=>cK h λz a f=>rr a<|ei f (cZ _)<|dW Z Z q
def oU(w:aq)(s:Nat)(p:kg):ar:=if w=gE then [0,(p.dt.length:Int)-1]else if w=iE/\0<s/\dg p.d5 s=0 then [0,10^160-1]else if w=ib/\dg p.dE s=0 then [0,10^160-1]else []
theorem acm(W:WA g)(o:3<=n){x:a8}{w:aq}{p:kg}{s:Nat}(j:iY Y (.S x) p)(t:w=iE->s<p.d5.length)(u:w=ib->s<p.dE.length)(q:∀r k,bH Y k->Y r=X->k r=O (.aF<|bh<|oU w s p)->Q (.S r) k):bE ⟨g,X,n⟩ (.S 874) [.aQ w,.aL s,.S x] Y Q E:=by
 refine W.e 73 o Z Z Z ?_;have out:∀l:ar,oU w s p=l->∀r,Y r=X->Q (.S r) (Y.aX r<|.aF<|bh l):=λl e r m=>q r _ (bH.cu m) m (by refine rr e ?_;exact N.aM _ _ _);refine lL (λh=>?_) λh=>?_
 .refine gN j.x.lf Z λv d=>?_;refine cK d λy z f=>?_;refine rr z ?_;refine ei f (cZ _) ?_;exact out _ (by unfold oU;exact rr (bI h) Z)
 have i:(0:Int)<=160/\(iq 10:Int)*160<=2^27:=dc;by_cases c:w=iE
 .have nb:¬w=ib:=by refine rr c ?_;exact dc
  refine wG c ?_;by_cases a:(0:Int)<s
  .refine wG a ?_;refine gN j.x.bf Z λv d=>?_;refine cK d λy z f=>?_;refine rr z ?_;refine dv f (ft<|t c) ?_;by_cases b:dg p.d5 s=0
   .refine wG b ?_;refine dW i.1 i.2 ?_;exact out _ (by unfold oU;exact rr (bu h)<|rr (bI<|dW c (zI ‹_›) b) Z)
   .refine pG b ?_;refine pG nb ?_;exact out [] (by unfold oU;exact rr (bu h)<|rr (bu λe=>b e.2.2)<|rr (bu λe=>nb e.1) Z)
  .refine pG a ?_;refine pG nb ?_;exact out [] (by unfold oU;exact rr (bu h)<|rr (bu λe=>a<|by lia)<|rr (bu λe=>nb e.1) Z)
 .refine pG c ?_;by_cases a:w=ib
  .refine wG a ?_;refine gN j.x.le Z λv d=>?_;refine cK d λy z f=>?_;obtain rfl:=z;refine dv f (ft<|u a) ?_;by_cases b:dg p.dE s=0
   .refine wG b ?_;refine dW i.1 i.2 ?_;exact out _ (by unfold oU;exact rr (bu h)<|rr (bu λe=>c e.1)<|rr (bI ⟨a,b⟩) Z)
   .refine pG b ?_;exact out [] (by unfold oU;exact rr (bu h)<|rr (bu λe=>c e.1)<|rr (bu λe=>b e.2) Z)
  .refine pG a ?_;exact out [] (by unfold oU;exact rr (bu h)<|rr (bu λe=>c e.1)<|rr (bu λe=>a e.1) Z)
end
abbrev I':aq:=lV++rv
abbrev Ja:aq:=lV++rz
abbrev UH:aq:=jl
abbrev GZ:aq:=lg
section
variable{E:Ex}
theorem PE{p:Prop} [Decidable p]{A xs:Prop}(a:¬p->A)(b:p->xs):cond (!decide p) A xs:=by
 by_cases h:p
 .exact rr (aN h)<|b h
 .exact rr (bj h)<|a h
theorem G0(W:WA g)(i:3<=n){x:a8}{p:kg}{s:Nat}(b:iY Y (.S x) p)(j:s<p.cF.bB.length)(k:dg p.cF.bB s≠0->1<=dg p.cF.bB s/\dg p.cF.bB s<=p.jT.length)(q:∀r e,bH Y e->Y r=X->e r=O (.aF<|bh<|if dg p.cF.bB s=0 then [1,-1]else [0,p.bC.length,dg p.jT<|dg p.cF.bB s-1])->Q (.S r) e):bE ⟨g,X,n⟩ (.S 853) [.aQ I',.aL s,.S x] Y Q E:=by
 refine GY W (r1 i Z) b<|gN b.x.gc Z λv f=>cK f λc z l=>rr z<|dv l (ft j)<|lL (λh=>?_) λh=>?_
 .intro r a;exact q r _ (bH.cu a) a<|rr (bI h)<|N.aM _ _ _
 .refine fw (k h) λm o=>gN b.x.gd Z λv f=>cK f λd z hd=>rr z<|dv hd (rA (show 0<=dg p.cF.bB s-1 by lia)<|by lia) ?_;intro r a;exact q r _ (bH.cu a) a<|rr (bu h)<|(N.aM _ _ _).trans Z
theorem G1(W:WA g)(m:3<=n){x:a8}{p:kg}{s:Nat}(i:iY Y (.S x) p)(o:s<p.cF.bB.length)(q:∀r e,bH Y e->Y r=X->e r=O (.aF<|bh<|[(p.dX.length:Int)+1,-1]++(if dg p.cF.bB s=0 then []else [0]))->Q (.S r) e):bE ⟨g,X,n⟩ (.S 853) [.aQ Ja,.aL s,.S x] Y Q E:=by
 refine GY W (r1 m Z) i ?_;intro r j;have k:bH Y (Y.aX r<|.aF [.aL<|p.dX.length+1,.aL<|-1]):=bH.cu j;have l:=N.aM Y r<|.aF [.aL<|p.dX.length+1,.aL<|-1];refine gN ((i.fr (bH.cu (C:=.aF [.aL<|p.dX.length+1,.aL<|-1]) j).fr).x).gc Z λv t=>cK t λc z u=>rr z<|dv u (ft o)<|PE (λh=>?_) λh=>?_
 .intro w a;exact jS (N.dF a l) (N.aM _ _ _) (mX<|aK rfl) λf b=>have d:=k.e0 (C:=.aF [.aL 0]) a;q f _ (d.e0 b) (fp d b)<|rr (bu h)<|(N.aM _ _ _).trans Z
 .intro w a;exact jS (N.dF a l) (N.aM _ _ _) (mX<|aK rfl) λf b=>have d:=k.e0 (C:=.aF []) a;q f _ (d.e0 b) (fp d b)<|rr (bI h)<|(N.aM _ _ _).trans Z
end
section
variable{E:Ex}
theorem LD(W:WA g)(u:5<=n){x:a8}{p:kg}{s:Nat}(m:iY Y (.S x) p)(A:s<p.dX.length)(ok:XH p.cF)(vs:p.cF.bU.length=p.dX.length)(q:∀r o,bH Y o->Y r=X->o r=O (.aF<|bh<|[-2,(p.bC.length:Int),0]++(if dg p.dX s=0 then(if 1<p.bC.length then [1]else [])else [-1]))->Q (.S r) o):bE ⟨g,X,n⟩ (.S 853) [.aQ UH,.aL s,.S x] Y Q E:=by
 refine GY W (r1 u Z) m<|gN m.x.gm Z λv i=>cK i λM z xs=>rr z<|dv xs (ft A)<|gN m.x.go Z λv i=>?_;obtain⟨go,rfl,i⟩:=i;refine i.m_ Z Z<|qC W (rm u Z) i ok λw j F aO=>fE aO λl aZ z G H=>rr z<|e9 (DL.at H (k:=s) (by simp [zX];exact cI ‹_› (pP ‹_›))) λd aB I U U U=>dv G I<|dW Z Z ?_;intro r ρ;have t:=N.aM j r<|.aF [.aL<|-2,.aL p.bC.length,.aL 0];have fin:∀(l:ar) c a (b:(j.aX r<|.aF [.aL<|-2,.aL p.bC.length,.aL 0]) c=X) (f:((j.aX r<|.aF [.aL<|-2,.aL p.bC.length,.aL 0]).aX c<|.aF<|bh l) a=X),(if dg p.dX s=0 then(if 1<p.bC.length then [1]else [])else [-1])=l->
  Q (.S a) (((j.aX r<|.aF [.aL<|-2,.aL p.bC.length,.aL 0]).aX c<|.aF<|bh l).aX a<|.aF<|[.aL<|-2,.aL p.bC.length,.aL 0]++bh l):=λl c a b f e=>by
  have y:=(F.e0 (C:=.aF [.aL<|-2,.aL p.bC.length,.aL 0]) ρ).e0 (C:=.aF<|bh l) b;exact q a _ (y.e0 f) (fp y f)<|rr e<|(N.aM _ _ _).trans Z
 refine PE (λh=>?_) λh=>?_
 .intro c b;exact jS (N.dF b t) (N.aM _ _ _) (mX<|aK rfl) λa f=>fin [-1] c a b f<|bu h
 .refine lL (λK=>?_) λK=>?_
  .intro c b;exact jS (N.dF b t) (N.aM _ _ _) (mX<|aK rfl) λa f=>fin [1] c a b f (by exact rr (bI h)<|rr (bI<|zI ‹_›) Z)
  .intro c b;exact jS (N.dF b t) (N.aM _ _ _) (mX<|aK rfl) λa f=>fin [] c a b f (by exact rr (bI h)<|rr (bu<|by lia) Z)
end
theorem UI{x:a8}{kv:ak}(h:Y x=O (.cQ kv))(a:Y y=O (.cQ []))(q:P (!kv.isEmpty)):gX ((Q4 x y Y).map (!·)) P:=by unfold Q4;refine rr h<|rr a ?_;exact q
section
variable{E:Ex}
theorem Jb(W:WA g)(aG:5<=n){x:a8}{p:kg}{s:Nat}(aZ:iY Y (.S x) p)(hs:s<p.dX.length)(ok:XH p.cF)(ho:p.cF.bU.length=p.dX.length)(hd:p.bC.length<=60)(hk:∀a∈zX p.cF,a.length<=60/\∀q∈a,0<=q.1/\q.1<=60)(q:∀r l aB,bH Y aB->Y r=X->aB r=O (.aF<|bh l)->l≠[]->l.length<=4->(∀y∈l,y=dg p.dX s+2^p.bC.length\/y=-1\/(y=0/\dg p.dX s≠0)\/(y=1/\dg p.dX s=0)\/∃q∈(zX p.cF).getD s [],y=dg p.dX s-2^q.1.toNat)->Q (.S r) aB):bE ⟨g,X,n⟩ (.S 853) [.aQ GZ,.aL s,.S x] Y Q E:=by
 refine GY W (r1 aG Z) aZ ?_;refine gN aZ.x.gm Z λv z=>?_;refine cK z λz' P hz'=>?_;refine rr P ?_;refine dv hz' (ft hs) ?_;refine gN aZ.x.go Z λv z=>?_;obtain⟨go,rfl,z⟩:=z;refine z.m_ Z Z ?_;refine qC W (rm aG Z) z ok λw σ x1 aO=>?_;refine fE aO λl hs' P hl H=>?_;refine rr P ?_;refine e9 (DL.at H (k:=s) (by simp [zX];exact cI ‹_› (pP ‹_›))) λd a e4 R vs M=>?_;have o:=hk a<|aW R;refine dv hl e4 ?_;refine dW Z Z ?_;refine dW (bT _) (oq dc dc _ (by lia)<|bT _) ?_;refine PE (λh=>?_) λh=>?_
 .intro r A;have t:=N.dF (C:=.aF [.aL<|dg p.dX s+2^p.bC.length,.aL<|-1,.aL 0]) A M;intro r2 m;refine UI (N.dF m t) (N.aM _ _ _) ?_;have u:=N.dF (C:=.cQ []) m t;have xs:=N.dF (C:=.cQ []) m<|N.aM σ r<|.aF [.aL<|dg p.dX s+2^p.bC.length,.aL<|-1,.aL 0];have F:=(x1.e0 (C:=.aF [.aL<|dg p.dX s+2^p.bC.length,.aL<|-1,.aL 0]) A).e0 (C:=.cQ []) m;clear M R t;cases a with
  |nil=>
   intro aE b;refine jS (N.dF b xs) (N.aM _ _ _) (mX<|aK rfl) λG c=>?_;have f:=F.e0 (C:=.aF []) b;refine q G [dg p.dX s+2^p.bC.length,-1,0] _ (f.e0 c) (fp f c) (N.aM _ _ _) (by simp) (by simp) λy i=>?_;simp at i;clear vs u o
   rcases i with rfl|rfl|rfl
   .exact .inl Z
   .exact .inr<|.inl Z
   .exact .inr<|.inr<|.inl ⟨Z,h⟩
  |cons j a=>
   refine lz Z u (sJ<|j::a) (by have:=o.1;simp at this⊢;lia) λaE b=>?_;refine Zg Z (N.aM _ _ _) (λe=>by have:=(iD ((j::a).map (·.1))).length_eq;replace this:=e▸this;simp at this) ?_;refine cK (List.mem_map.mp ((iD _).mem_iff.mp ((zf (l:=jY ((j::a).map (·.1))) (λe=>by have:=(iD ((j::a).map (·.1))).length_eq;replace this:=e▸this;simp at this)).1))) λq1 I T=>?_;refine rl T ?_;have ρ:=o.2 q1 I;refine dW ρ.1 (oq dc dc _ (by lia) ρ.1) ?_;intro G c;refine jS (N.dF c<|N.dF b xs) (N.aM _ _ _) (mX<|aK rfl) λV K=>?_;have f:=(F.e0 (C:=.aF (bh (jY ((j::a).map (·.1))))) b).e0 (C:=.aF [.aL<|dg p.dX s-2^q1.1.toNat]) c;refine q V [dg p.dX s+2^p.bC.length,-1,0,dg p.dX s-2^q1.1.toNat] _ (f.e0 K) (fp f K) (N.aM _ _ _) (by simp) (by simp) λy i=>?_;simp at i;clear u o
   rcases i with rfl|rfl|rfl|rfl
   .exact .inl Z
   .exact .inr<|.inl Z
   .exact .inr<|.inr<|.inl ⟨Z,h⟩
   .exact .inr<|.inr<|.inr<|.inr<|bX q1 (by refine rr vs ?_;exact I) Z
 .intro r A;have t:=N.dF (C:=.aF [.aL<|dg p.dX s+2^p.bC.length,.aL<|-1,.aL 1]) A M;intro r2 m;refine UI (N.dF m t) (N.aM _ _ _) ?_;have u:=N.dF (C:=.cQ []) m t;have xs:=N.dF (C:=.cQ []) m<|N.aM σ r<|.aF [.aL<|dg p.dX s+2^p.bC.length,.aL<|-1,.aL 1];have F:=(x1.e0 (C:=.aF [.aL<|dg p.dX s+2^p.bC.length,.aL<|-1,.aL 1]) A).e0 (C:=.cQ []) m;clear M R t;cases a with
  |nil=>
   intro aE b;refine jS (N.dF b xs) (N.aM _ _ _) (mX<|aK rfl) λG c=>?_;have f:=F.e0 (C:=.aF []) b;refine q G [dg p.dX s+2^p.bC.length,-1,1] _ (f.e0 c) (fp f c) (N.aM _ _ _) (by simp) (by simp) λy i=>?_;simp at i;clear vs u o
   rcases i with rfl|rfl|rfl
   .exact .inl Z
   .exact .inr<|.inl Z
   .exact .inr<|.inr<|.inr<|.inl ⟨Z,h⟩
  |cons j a=>
   refine lz Z u (sJ<|j::a) (by have:=o.1;simp at this⊢;lia) λaE b=>?_;refine Zg Z (N.aM _ _ _) (λe=>by have:=(iD ((j::a).map (·.1))).length_eq;replace this:=e▸this;simp at this) ?_;refine cK (List.mem_map.mp ((iD _).mem_iff.mp ((zf (l:=jY ((j::a).map (·.1))) (λe=>by have:=(iD ((j::a).map (·.1))).length_eq;replace this:=e▸this;simp at this)).1))) λq1 I T=>?_;refine rl T ?_;have ρ:=o.2 q1 I;refine dW ρ.1 (oq dc dc _ (by lia) ρ.1) ?_;intro G c;refine jS (N.dF c<|N.dF b xs) (N.aM _ _ _) (mX<|aK rfl) λV K=>?_;have f:=(F.e0 (C:=.aF (bh (jY ((j::a).map (·.1))))) b).e0 (C:=.aF [.aL<|dg p.dX s-2^q1.1.toNat]) c;refine q V [dg p.dX s+2^p.bC.length,-1,1,dg p.dX s-2^q1.1.toNat] _ (f.e0 K) (fp f K) (N.aM _ _ _) (by simp) (by simp) λy i=>?_;simp at i;clear u o
   rcases i with rfl|rfl|rfl|rfl
   .exact .inl Z
   .exact .inr<|.inl Z
   .exact .inr<|.inr<|.inr<|.inl ⟨Z,h⟩
   .exact .inr<|.inr<|.inr<|.inr<|bX q1 (by refine rr vs ?_;exact I) Z
end
section
variable{E:Ex}
theorem Av(W:WA g)(b:3<=n){x:a8}{p:kg}{s:Nat}(c:iY Y (.S x) p)(q:∀r a,bH Y a->Y r=X->a r=O (.aF<|bh [2,(p.bp.length:Int),p.cy+1,p.cy-1])->Q (.S r) a):bE ⟨g,X,n⟩ (.S 860) [.aQ mY,.aL s,.S x] Y Q E:=by refine mR W (r1 b Z) c ?_;intro r h;refine q r _ (bH.cu h) h<|(N.aM _ _ _).trans ?_;rfl
theorem Jc(W:WA g)(c:5<=n){x:a8}{p:kg}{s:Nat}(d:iY Y (.S x) p)(q:∀r b,bH Y b->Y r=X->b r=O (.aF<|bh<|[p.cy-1,(p.bp.length:Int),if s=0 then p.cy+1 else p.cy])->Q (.S r) b):bE ⟨g,X,n⟩ (.S 860) [.aQ<|vO,.aL s,.S x] Y Q E:=by
 refine mR W (r1 c Z) d<|lL (λh=>?_) λh=>?_
 .intro r a;refine q r _ (bH.cu a) a<|(N.aM _ _ _).trans ?_;exact rr (bI<|by lia) Z
 .intro r a;refine q r _ (bH.cu a) a<|(N.aM _ _ _).trans ?_;exact rr (bu<|by lia) Z
theorem CV(W:WA g)(b:5<=n){x:a8}{p:kg}{s:Nat}(c:iY Y (.S x) p)(q:∀r a,bH Y a->Y r=X->a r=O (.aF<|bh<|[-1,(p.dt.length:Int)])->Q (.S r) a):bE ⟨g,X,n⟩ (.S 860) [.aQ<|gE,.aL s,.S x] Y Q E:=by refine mR W (r1 b Z) c ?_;intro r h;refine q r _ (bH.cu h) h<|(N.aM _ _ _).trans ?_;rfl
theorem Jd(W:WA g)(b:5<=n){x:a8}{p:kg}{s:Nat}(c:iY Y (.S x) p)(q:∀r a,bH Y a->Y r=X->a r=O (.aF<|bh<|[1000,-1000])->Q (.S r) a):bE ⟨g,X,n⟩ (.S 860) [.aQ<|rq,.aL s,.S x] Y Q E:=by refine mR W (r1 b Z) c ?_;intro r h;refine q r _ (bH.cu h) h<|(N.aM _ _ _).trans ?_;rfl
theorem G3(W:WA g)(b:5<=n){x:a8}{p:kg}{s:Nat}(c:iY Y (.S x) p)(q:∀r a,bH Y a->Y r=X->a r=O (.aF<|bh<|[1000,-1000])->Q (.S r) a):bE ⟨g,X,n⟩ (.S 860) [.aQ<|lV++rq,.aL s,.S x] Y Q E:=by refine mR W (r1 b Z) c ?_;intro r h;refine q r _ (bH.cu h) h<|(N.aM _ _ _).trans ?_;rfl
theorem G4(W:WA g)(b:5<=n){x:a8}{p:kg}{s:Nat}(c:iY Y (.S x) p)(q:∀r a,bH Y a->Y r=X->a r=O (.aF<|bh<|[-1,(s:Int)+1])->Q (.S r) a):bE ⟨g,X,n⟩ (.S 860) [.aQ<|oT,.aL s,.S x] Y Q E:=by refine mR W (r1 b Z) c ?_;intro r h;refine q r _ (bH.cu h) h<|(N.aM _ _ _).trans ?_;rfl
theorem DV(W:WA g)(b:5<=n){x:a8}{p:kg}{s:Nat}(c:iY Y (.S x) p)(q:∀r a,bH Y a->Y r=X->a r=O (.aF<|bh<|[-1,(s:Int)+1])->Q (.S r) a):bE ⟨g,X,n⟩ (.S 860) [.aQ<|lV++oT,.aL s,.S x] Y Q E:=by refine mR W (r1 b Z) c ?_;intro r h;refine q r _ (bH.cu h) h<|(N.aM _ _ _).trans ?_;rfl
theorem DW(W:WA g)(i:5<=n){x:a8}{p:kg}{s:Nat}(j:iY Y (.S x) p)(q:∀r d,bH Y d->Y r=X->d r=O (.aF<|bh<|[-1,10^160]++(if s=0 then [1,3]else []))->Q (.S r) d):bE ⟨g,X,n⟩ (.S 860) [.aQ<|iE,.aL s,.S x] Y Q E:=by
 refine mR W (r1 i Z) j<|dW dc dc ?_;intro r f;refine lL (λh=>?_) λh=>?_
 .intro k a;refine jS (N.dF a<|N.aM _ _ _) (N.aM _ _ _) (mX<|aK rfl) λe b=>have c:=(bH.cu (Y:=Y) (C:=.aF [.aL<|-1,.aL<|10^160]) f).e0 (C:=.aF [.aL 1,.aL 3]) a;q e _ (c.e0 b) (fp c b) ((N.aM _ _ _).trans ?_);exact rr (bI<|by lia) Z
 .intro k a;refine jS (N.dF a<|N.aM _ _ _) (N.aM _ _ _) (mX<|aK rfl) λe b=>have c:=(bH.cu (Y:=Y) (C:=.aF [.aL<|-1,.aL<|10^160]) f).e0 (C:=.aF []) a;q e _ (c.e0 b) (fp c b) ((N.aM _ _ _).trans ?_);exact rr (bu<|by lia) Z
theorem DX(W:WA g)(k:5<=n){x:a8}{p:kg}{s:Nat}(j:iY Y (.S x) p)(l:s<p.dE.length)(q:∀r e,bH Y e->Y r=X->e r=O (.aF<|bh<|[-1,10^160]++(if dg p.dE s=0 then []else [1]))->Q (.S r) e):bE ⟨g,X,n⟩ (.S 860) [.aQ<|ib,.aL s,.S x] Y Q E:=by
 refine mR W (r1 k Z) j<|dW dc dc ?_;intro r f;refine gN ((j.fr (bH.cu (C:=.aF [.aL<|-1,.aL<|10^160]) f).fr).x).le Z λv m=>cK m λd z hd=>rr z<|dv hd (ft l)<|PE (λh=>?_) λh=>?_
 .intro o a;refine jS (N.dF a<|N.aM _ _ _) (N.aM _ _ _) (mX<|aK rfl) λi b=>have c:=(bH.cu (Y:=Y) (C:=.aF [.aL<|-1,.aL<|10^160]) f).e0 (C:=.aF [.aL 1]) a;q i _ (c.e0 b) (fp c b) ((N.aM _ _ _).trans ?_);exact rr (bu h) Z
 .intro o a;refine jS (N.dF a<|N.aM _ _ _) (N.aM _ _ _) (mX<|aK rfl) λi b=>have c:=(bH.cu (Y:=Y) (C:=.aF [.aL<|-1,.aL<|10^160]) f).e0 (C:=.aF []) a;q i _ (c.e0 b) (fp c b) ((N.aM _ _ _).trans ?_);exact rr (bI h) Z
theorem Je(W:WA g)(o:5<=n){x:a8}{p:kg}{s:Nat}(i:iY Y (.S x) p)(t:s<p.dJ.bB.length)(q:∀r j,bH Y j->Y r=X->j r=O (.aF<|bh<|[(p.bC.length:Int)+1,-1]++(if dg p.dJ.bB s=0 then []else [0]))->Q (.S r) j):bE ⟨g,X,n⟩ (.S 860) [.aQ<|rz,.aL s,.S x] Y Q E:=by
 refine mR W (r1 o Z) i<|gN i.x.df Z λv k=>cK k λe z u=>rr z<|jQ u ?_;intro r l;refine gN ((i.fr (bH.cu (C:=.aF [.aL<|(bh p.bC).length+1,.aL<|-1]) l).fr).x).c Z λv k=>cK k λd z hd=>rr z<|dv hd (ft t)<|PE (λh=>?_) λh=>?_
 .intro w a;refine jS (N.dF a<|N.aM _ _ _) (N.aM _ _ _) (mX<|aK rfl) λm b=>have f:=(bH.cu (Y:=Y) (C:=.aF [.aL<|(bh p.bC).length+1,.aL<|-1]) l).e0 (C:=.aF [.aL 0]) a;q m _ (f.e0 b) (fp f b) ((N.aM _ _ _).trans ?_);refine rr (bu h) ?_;simp only [cZ];rfl
 .intro w a;refine jS (N.dF a<|N.aM _ _ _) (N.aM _ _ _) (mX<|aK rfl) λm b=>have f:=(bH.cu (Y:=Y) (C:=.aF [.aL<|(bh p.bC).length+1,.aL<|-1]) l).e0 (C:=.aF []) a;q m _ (f.e0 b) (fp f b) ((N.aM _ _ _).trans ?_);refine rr (bI h) ?_;simp only [cZ];rfl
theorem Jf(W:WA g)(h:6<=n){x:a8}{p:kg}{s:Nat}(d:iY Y (.S x) p)(f:s<p.dJ.bB.length)(q:∀r c,bH Y c->Y r=X->c r=O (.aF<|bh<|CU p s)->Q (.S r) c):bE ⟨g,X,n⟩ (.S 860) [.aQ<|rv,.aL s,.S x] Y Q E:=mR W (r1 h Z) d<|DU W (rm h Z) d f λr c a b e=>q r c a b e
theorem G5(W:WA g)(h:6<=n){x:a8}{p:kg}{s:Nat}(d:iY Y (.S x) p)(f:s<p.cF.bB.length)(i:dg p.cF.bB s≠0->1<=dg p.cF.bB s/\dg p.cF.bB s<=p.jT.length)(q:∀r c,bH Y c->Y r=X->c r=O (.aF<|bh<|if dg p.cF.bB s=0 then [1,-1]else [0,p.bC.length,dg p.jT<|dg p.cF.bB s-1])->Q (.S r) c):bE ⟨g,X,n⟩ (.S 860) [.aQ<|I',.aL s,.S x] Y Q E:=mR W (r1 h Z) d<|G0 W (rm h Z) d f i λr c a b e=>q r c a b e
theorem G6(W:WA g)(h:6<=n){x:a8}{p:kg}{s:Nat}(d:iY Y (.S x) p)(f:s<p.cF.bB.length)(q:∀r c,bH Y c->Y r=X->c r=O (.aF<|bh<|[(p.dX.length:Int)+1,-1]++(if dg p.cF.bB s=0 then []else [0]))->Q (.S r) c):bE ⟨g,X,n⟩ (.S 860) [.aQ<|Ja,.aL s,.S x] Y Q E:=mR W (r1 h Z) d<|G1 W (rm h Z) d f λr c a b e=>q r c a b e
theorem LF(W:WA g)(h:6<=n){x:a8}{p:kg}{s:Nat}(d:iY Y (.S x) p)(f:s<p.dX.length)(ok:XH p.cF)(i:p.cF.bU.length=p.dX.length)(q:∀r c,bH Y c->Y r=X->c r=O (.aF<|bh<|[-2,(p.bC.length:Int),0]++(if dg p.dX s=0 then(if 1<p.bC.length then [1]else [])else [-1]))->Q (.S r) c):bE ⟨g,X,n⟩ (.S 860) [.aQ<|UH,.aL s,.S x] Y Q E:=mR W (r1 h Z) d<|LD W (rm h Z) d f ok i λr c a b e=>q r c a b e
end
theorem ah5{a:Int}(h:a<k):a<((k+1:Nat):Int):=adg h<|jW _
theorem qN.up{st ru:Int}(R:qN st ru k row):qN st ru ((k+1:Nat):Int) row:=⟨R.1,λq h=>have:=R.2 q h;(dW this.1 (ah5 this.2.1) this.2.2)⟩
theorem qN.jO{st ru:Int}{v:Int}(R:qN st ru k row)(h:kH st ru v=D):qN st ru ((k+1:Nat):Int) (row++[((k:Int),v)]):=⟨List.pairwise_append.mpr<|dW R.1 (kQ _ _) λa d b e=>rr (ms e)<|(R.2 a d).2.1,λq c=>bV (ma c) (λc=>R.up.2 q c) λc=>rr (ms c)<|dW (bT k) (jW _) h⟩
theorem qN.lS{st ru:Int}(R:qN st ru k row)(v:Int):lS (r9 row) (.i k) (.aL v)=r9 (row++[((k:Int),v)]):=Iw row k v λq h=>nZ (R.2 q h).2.1
theorem Yf(r:af):(r9 r).length=r.length:=aT ..
theorem PF{s r x:Int}(h:0<x)(a:x<s):kH s r x=D:=by unfold kH;refine rr (aN h)<|rr (aN a) ?_;rfl
theorem PG{s r x:Int}(h:-r<x)(a:x<0):kH s r x=D:=by unfold kH;refine rr (aN h)<|rr (aN a)<|rr (acZ _) ?_;rfl
theorem Nq{e r:Nat}(h:(e:Int)<r-1):-(r:Int)<0-1-e/\0-1-(e:Int)<0:=by lia
theorem Nr{e s:Nat}(h:(e:Int)<s-1):0<1+(e:Int)/\1+(e:Int)<s:=by lia
theorem CW(h:(1:Int)<k)(a:k<=1000):1<=(k:Int)-1/\(k:Int)-1<=1000:=⟨gH h,bA (iQ _ dc)<|il a⟩
def Kd(x d:a8)(Y c8:N):Prop:=∀b C,b≠x->b≠d->Y b=O C->c8 b=O C
theorem Kd.of{x d:a8}(k:Kc x Y c8):Kd x d Y c8:=λb C h U e=>k b h C e
theorem Kd.aU{x d:a8}(k:Kd x d Y c8)(l:Kd x d c8 qV):Kd x d Y qV:=λb C h a e=>l b C h a<|k b C h a e
theorem Kd.aX{x d:a8}{C:cP}(k:Kd x d Y c8):Kd x d Y (c8.aX d C):=λb aO a h e=>(N.da _ _ h).trans<|k b aO a h e
variable{sd:a8} {ru:ar} {ot:au} {sta:au} {cn:Nat} {u2:au} {u3:au} {u4:au} {u5:au} {u6:au} {u7:au} {u8:au} {u9:au} {LG:au} {ZM:au} {ZN:au} {ZO:au} {u15:au}
section
variable{E:oZ}
theorem UJ(W:WA g)(r:10<=n){x d:a8}{K:VF->bw->N->Prop}{cnt nm z a ls wy:au}{u:bw}(p:jn Y x c (aZ+2)) (hd:Y d=O (.cQ<|r9 row)) (s:d≠x/\d≠c) (R:qN st ru.length k row) (G:row.length<=100) (xs:st<=3) (C:2<=ru.length/\ru.length<=4) (H:Y sd=O (.aF<|bh ru)) (I:sd≠x)(q:∀j w A,jn j x c aZ->Kd x d Y j->j d=O (.cQ<|r9 A)->qN st ru.length ((k+1:Nat):Int) A->A.length<=row.length+1->K .eR (O (.S x)::O (.aL st)::cnt::nm::ot::O (.S sd)::z::a::ls::sta::O (.S d)::O (.aL k)::w::u) j):
 iy ⟨g,X,n⟩ E Zi (O (.S x)::O (.aL st)::cnt::nm::ot::O (.S sd)::z::a::ls::sta::O (.S d)::O (.aL k)::wy::u) Y K:=by
 refine jo W (r1 r Z) p dc dc λw aO M t m=>?_;have fin:∀b v,kH st ru.length v=D->jn b x c aZ->Kc x aO b->nj d (.aL k) (.aL v) b λj=>K .eR (O (.S x)::O (.aL st)::cnt::nm::ot::O (.S sd)::z::a::ls::sta::O (.S d)::O (.aL k)::O (.aL w)::u) j:=λb v ρ i f=>by
  exact Tp (f d s.1 _<|m d s.1 _ hd) (rr (Yf _)<|aD G dc)<|rr (R.lS v)<|q _ _ _ (i.aX s) ((Kd.of<|m.aU f).aX) (N.aM _ _ _) (R.jO ρ)<|cC<|iP ..
 have up:=λw=>q aO w row t.dr (Kd.of m) (m d s.1 _ hd) R.up<|ej _;refine lL (λh=>?_) λh=>?_
 .intro l vs;exact Nk W (r1 r Z) t vs (λb i f=>fin b _ (oB<|.inl<|oB<|.inr dc) i f) λb i f=>fin b _ (oB<|.inr dc) i f
 refine lL (λh=>?_) λh=>?_
 .exact ei (m sd I _ H) (cZ _)<|have so:=CW (it C.1)<|aD C.2 dc;jo W (r1 r Z) t so.1 so.2 λe b o i f=>fin b _ (PG (Nq o).1 (Nq o).2) i f
 by_cases F:(w:Int)=2
 .refine wG F ?_;by_cases y:(1:Int)<st
  .exact wG y<|jo W (r1 r Z) t (CW y<|aD xs dc).1 (CW y<|aD xs dc).2 λe b o i f=>fin b _ (PF (Nr o).1 (Nr o).2) i f
  .exact pG y<|up _
 .exact pG F<|up _
def HC(f:α->cP)(Y:N)(hs:List a8)(B:List α):Prop:=hs.length=B.length/\∀(k:Nat) (h:a8),hs[k]?=O h->∃a,B[k]?=O a/\Y h=O (f a)
theorem HC.mv{f:α->cP}{B:List α}(h:HC f Y hs B)(g:∀a x,a∈hs->Y a=O (f x)->c8 a=O (f x)):HC f c8 hs B:=⟨h.1,λk a e=>cK (h.2 k a e) λr b c=>bX r b<|g _ _ (aW e) c⟩
theorem Nt{l:List α}{x y:α}(h:(l++[x])[k]?=O y):l[k]?=O y\/k=l.length/\y=x:=by
 replace h:=(List.getElem?_append).symm.trans h;split at h
 .exact .inl h
 .rename_i a;cases e:k-l.length with
  |zero=>replace h:=e▸h;exact rr (aJ h)<|.inr ⟨vr (wi e)<|gS a,Z⟩
  |succ j=>replace h:=e▸h;cases h
theorem Nu{l:List α}{x y:α}(h:l[k]?=O y):(l++[x])[k]?=O y:=by refine rr (fX<|gl h) ?_;exact h
theorem Jg{l:List α}{x:α}:(l++[x])[l.length]?=O x:=by refine rr (eN<|bO _)<|rr (qU _) ?_;rfl
theorem HC.jO{f:α->cP}{B:List α}{d:a8}{x:α}(h:HC f Y hs B)(hd:Y d=O (f x)):HC f Y (hs++[d]) (B++[x]):=⟨by exact rr (iP _ _)<|rr (iP _ _)<|rr (h.1) Z,λk a e=>(Nt e).elim (λe=>cK (h.2 k a e) λy b c=>bX y (Nu b) c) λe=>bX x (by refine rr (e.1)<|rr (h.1) ?_;exact Jg)<|e.2▸hd⟩
theorem HC.at{f:α->cP}{B:List α}(h:HC f Y hs B)(b:k<B.length):∃d,mO (hs.map V.S) (k:Int)=O (.S d)/\Y d=O (f B[k]):=by have e:=aV (l:=hs) (i:=k)<|rr (h.1) b;refine cK (h.2 k _ e) λa c g=>rr (aJ<|(aV b).symm.trans c) ?_;exact bX _ (by refine rr (kq _ _)<|rr (bz)<|rr e ?_;rfl) g
theorem jn.cQ{x:a8}{kv:ak}(p:jn Y x c m)(h:Y a=O (.cQ kv)):a≠x:=by refine jz p λcells s g b U=>?_;rintro rfl;replace b:=h.symm.trans b;cases b
theorem LH{E:Ex}{x d:a8}(h:Y x=O (.aF<|hs.map .S))(a:hs.length<=1000)(q:Q .bR (Y.aX x<|.aF<|(hs++[d]).map .S)):bE Γ (.eH "list.append") [.S x,.S d] Y Q E:=jR h (rr (aT _)<|cD (jx a)<|mX dc) (by replace q:=(bN)▸q;exact q)
theorem PH(W:WA g)(aO:12<=n){x l:a8}{K:VF->bw->N->Prop}{nm z a v1 v2 v3:au}{u:bw}(p:jn Y x c (aZ+10)) (m:Y l=O (.aF<|hs.map .S)) (H:HD Y hs rows) (nl:l≠x/\l≠c) (F:st<=3) (s:cn<=5) (G:2<=ru.length/\ru.length<=4) (v:Y sd=O (.aF<|bh ru)) (y:sd≠x) (vs:rows.length<=10)(q:∀k M aB P A i,jn k x c aZ->Kd x l Y k->k l=O (.aF<|A.map .S)->HD k A (rows++[i])->qN st ru.length cn i->K .eR (O (.S x)::O (.aL st)::O (.aL cn)::nm::ot::O (.S sd)::z::a::O (.S l)::sta::M::aB::P::u) k):
 iy ⟨g,X,n⟩ E Zj (O (.S x)::O (.aL st)::O (.aL cn)::nm::ot::O (.S sd)::z::a::O (.S l)::sta::v1::v2::v3::u) Y K:=by
 intro d hd;refine mj (aD s dc)<|B8 s (λo:au×au=>O (.S x)::O (.aL st)::O (.aL cn)::nm::ot::O (.S sd)::z::a::O (.S l)::sta::O (.S d)::o.1::o.2::u)
  (λt j U k=>∃i,jn k x c (aZ+2*t)/\Kd x d (Y.aX d<|.cQ []) k/\k d=O (.cQ<|r9 i)/\qN st ru.length j i/\i.length<=j) (v2,v3) (rf [] (p.dq (bH.cu hd:bH Y (Y.aX d<|.cQ []))) (λU U U U e=>e) (N.aM _ _ _) ⟨uh,nofun⟩<|bO _) (λt j o k ρ Q I aE=>?_) λt o k I=>?_
 .exact ka I λi I=>UJ W (r1 aO Z) (aZ:=aZ+2*t) I.1 I.2.2.1 (p.ne hd) I.2.2.2.1 (aD I.2.2.2.2<|aD (dH<|cD Q s) dc) F G (I.2.1 sd _ y (eG hd v)<|(bH.cu hd:bH Y (Y.aX d<|.cQ [])) _ _ v) y λqR w T aG σ d2 R2 z2=>aE (_,_) _<|rf T aG (I.2.1.aU σ) d2 R2<|aD z2<|cg I.2.2.2.2
 .refine pS I λi p' k' d' R zr=>have xs:=k' l _ nl.1 (eG hd m:l≠d)<|(bH.cu hd:bH Y (Y.aX d<|.cQ [])) _ _ m;nB xs<|LH xs (aD (cC H.1)<|aD vs dc)<|q _ _ _ _ (hs++[d]) i (p'.dr.aX nl) (Kd.aX λb C b1 b2 e=>k' b C b1 (eG hd e)<|(bH.cu hd:bH Y (Y.aX d<|.cQ [])) _ _ e) (N.aM _ _ _) ?_ R;refine HC.jO (f:=λi=>cP.cQ<|r9 i) (HC.mv (f:=λi=>cP.cQ<|r9 i) H λb r U e=>?_)<|(N.da _ _ (eG hd m:l≠d).symm).trans d';exact(N.da _ _<|n5 e m λh=>nq Internal.cP.ctorIdx (aJ h) ff).trans<|k' b _ (p.cQ e) (eG hd e)<|(bH.cu hd:bH Y (Y.aX d<|.cQ [])) _ _ e
def vl(one:ar):cP:=.aF<|bh one
theorem jn.tK{x:a8}(p:jn Y x c m)(h:Y a=O (.aF<|bh l)):a≠x:=by refine jz p λcells s g b U=>?_;rintro rfl;replace b:=h.symm.trans b;induction l<;>cases b
theorem vW:((dk m).map λ(k:Nat)=>V.aL k).length=m:=by exact rr (aT _)<|rr (et) Z
theorem PI(W:WA g)(G:12<=n){x l:a8}{gs:ae}{K:VF->bw->N->Prop}{u:bw}(p:jn Y x c (aZ+6)) (j:Y l=O (.aF<|hs.map .S)) (H:HC vl Y hs gs) (nl:l≠x/\l≠c) (m:st<=3) (Q:gs.length<=10)(q:∀a w ρ one,jn a x c aZ->Kd x l Y a->a l=O (.aF<|ρ.map .S)->HC vl a ρ (gs++[one])->one.length=st->(∀y∈one,y∈qM st)->K .eR (O (.S x)::O (.aL st)::u2::u3::u4::u5::u6::u7::u8::u9::LG::ZM::ZN::O (.S l)::ZO::w::u) a):
 iy ⟨g,X,n⟩ E Zk (O (.S x)::O (.aL st)::u2::u3::u4::u5::u6::u7::u8::u9::LG::ZM::ZN::O (.S l)::ZO::u15::u) Y K:=by
 refine mj (aD m dc)<|ML qh (M:=3) (vW▸m) (λt k one a=>one.length=k/\(∀y∈one,y∈qM st)/\jn a x c (aZ+2*t)/\Kc x Y a) (mT Z nofun p Kc.cL) (λU U U U U=>⟨trivial,λU h=>nq aP h ff⟩) (λt k y one a R J' s I aE U=>?_) λt one a I r i=>?_
 .refine fw (B6 s) λhk o9=>have fin:∀v f,v∈qM st->jn f x c (aZ+2*t)->Kc x a f->R (.aL v) f:=λv f z A xs=>aE v f (mT ((iP ..).trans (aH (·+1) I.1)) ((λz aO y s=>(ma s).elim (aO y) λh=>ms h▸z:∀{one:ar} {v:Int},v∈qM st->(∀y∈one,y∈qM st)->∀y∈one++[v],y∈qM st) z I.2.1) A<|I.2.2.2.aU xs);have p':jn a x c (aZ+2*t+2):=I.2.2.1;?_;by_cases o:(1:Int)<st
  .refine wG o<|jo W (r1 G Z) p' dc dc λd T d1 vs aB=>?_;by_cases P:(d:Int)=0
   .exact wG P<|jo W (r1 G Z) vs (CW o<|aD m dc).1 (CW o<|aD m dc).2 λe f aG A xs=>fin _ f (di _<|List.mem_map.mpr<|bX e (J9<|Nat.lt_sub_of_add_lt<|zI<|Int.add_lt_of_lt_sub_right aG)<|lC _ _) A<|aB.aU xs
   .exact pG P<|fin _ T (bS:(-1:Int)∈qM st) vs.dr aB
  .exact pG o<|fin _ a (bS:(-1:Int)∈qM st) p'.dr Kc.cL
 .refine Bh (vW▸I) λzl aO p' k'=>have F:=N.dF (C:=.aF<|bh one) i<|k' l nl.1 _ j;nB F<|LH F (aD (cC H.1)<|aD Q dc)<|q _ _ (hs++[r]) one ((p'.dr.aX<|p'.ne i).aX nl) (Kd.aX λb C σ b2 e=>N.dF i<|k' b σ C e) (N.aM _ _ _) ?_ zl aO;refine(H.mv λb r' hb e=>?_).jO<|(N.da _ _ (eG i<|k' l nl.1 _ j).symm).trans<|N.aM _ _ _;refine(N.da _ _ λe2=>?_).trans<|N.dF i<|k' b (p.tK e) _ e;replace e:=j▸e2▸e;clear H j F;cases hs with
  |nil=>cases hb
  |cons _ _=>induction r'<;>cases e
end
theorem AX(f:Nat->Option β)(j:Nat):(dk<|j+1).filterMap f=(dk j).filterMap f++(f j).toList:=by refine rr (qd)<|rr (oI)<|rr (iJ)<|?_;cases f j<;>rfl
theorem UK{u:Int}(h:dg one j=-1\/dg one j=u):sW one u j=sW one u (j+1):=by unfold sW;refine rr (AX _ _)<|rr (bI h) ?_;exact(dS _).symm
theorem UL{u:Int}(h:¬(dg one j=-1\/dg one j=u)):sW one u (j+1)=sW one u j++[((j:Int),dg one j)]:=by unfold sW;refine rr (AX _ _)<|rr (bu h) ?_;rfl
theorem Yg(h:dg one j=-1):vi one j=vi one (j+1):=by unfold vi;refine rr (AX _ _)<|rr (bI h) ?_;exact(dS _).symm
theorem Yh(h:¬dg one j=-1):vi one (j+1)=vi one j++[2^j]:=by unfold vi;refine rr (AX _ _)<|rr (bu h) ?_;rfl
theorem Jh(l:af)(a b:Int):fC l++[.bD [.aL a,.aL b]]=fC (l++[(a,b)]):=by rw [fC,fC];refine rr (bN) ?_;rfl
theorem UM(one:ar)(u:Int)(j:Nat):(sW one u j).length<=j:=by
 have:=km (λ(i:Nat)=>if dg one i=-1\/dg one i=u then X else O ((i:Int),dg one i))<|dk j
 rwa [et]at this
def dcl(row:af):cP:=.cQ<|r9 row
theorem HC.gj{f:α->cP}{B:List α}(h:HC f Y hs B):(hs.map V.S).length=B.length:=(aT ..).trans h.1
variable{ul:a8} {Nv:List a8} {u0:au} {u18:au} {u17:au}
section
variable{E:oZ}
theorem PJ(W:WA g){l gl:a8}{gs:ae}{rs:List (List<|Int×Int)}{K:VF->bw->N->Prop}{u:bw}(c:Y l=O (.aF<|hs.map .S)) (H:HC dcl Y hs rs) (i:Y gl=O (.aF<|Nv.map .S)) (G:HC vl Y Nv gs) (A:Y ul=O (.aF<|bh<|gs.map lx)) (m:k<gs.length) (xs:gs[k].length=st) (o:st<=3) (p:((hE gs[k]).map (·.1)).Nodup) (aO:rs.length<=10)(q:∀a s,(∀b C,b≠l->Y b=O C->a b=O C)->a l=O (.aF<|s.map .S)->HC dcl a s (rs++[hE gs[k]])->K .eR (u0::O (.aL st)::u2::u3::u4::u5::u6::u7::u8::u9::LG::ZM::ZN::O (.S gl)::ZO::u15::O (.S ul)::O (.aL k)::u18::O (.S l)::u) a):
 iy ⟨g,X,n⟩ E Zl (u0::O (.aL st)::u2::u3::u4::u5::u6::u7::u8::u9::LG::ZM::ZN::O (.S gl)::ZO::u15::O (.S ul)::O (.aL k)::u18::O (.S l)::u) Y K:=by
 subst xs;refine cK (G.at m) λd hd t=>?_;have F:mO (bh<|gs.map lx) (k:Int)=O (.aL<|lx gs[k]):=by
  refine rr (kq _ _) ?_;rw [bh];refine rr (bz)<|rr (bz)<|rr (aV m) ?_;rfl
 unfold hE at p q;generalize gs[k]=one at*;refine nB c<|mj (aD o dc)<|uM qh ⟨trivial,λU h=>nq aP h ff⟩ (λj=>fC<|sW one (lx one) j) Z (λj y Q R I ρ vs=>?_) λr v=>?_
 .refine fw (B6 I) λM aZ=>rr aZ<|have w:mO (bh one) (j:Int)=O (.aL<|dg one j):=ft M;dv i hd<|dv t w<|dv A F<|abj (λh=>?_) λh=>?_
  .refine dv i hd<|dv t w<|ρ _<|(Jh _ _ _).trans<|aH fC (UL λe=>?_).symm;refine bV e (λe=>?_) λe=>?_
   .replace h:=e▸h;exact nq bP h ff
   .replace h:=e▸h;simp at h
  .exact vs (aH fC<|UK<|by lia)
 .exact rr vW<|have x:=N.dF (C:=.aF<|fC<|sW one (lx one) one.length) v c;Ge Z (N.aM _ _ _) p (aD (UM ..)<|aD o dc) λaB f=>have z:=(bH.cu (C:=.aF<|fC<|sW one (lx one) one.length) v).e0 (C:=.cQ<|r9<|sW one (lx one) one.length) f;LH (N.dF (C:=.cQ<|r9<|sW one (lx one) one.length) f x) (aD (cC H.1)<|aD aO dc)<|q _ (hs++[aB]) (λb C P e=>(N.da _ _ P).trans<|z _ _ e) (N.aM _ _ _)<|(H.mv λb r aE e=>(N.da _ _<|n5 e c λh=>nq Internal.cP.ctorIdx (aJ h) ff).trans<|z _ _ e).jO<|(N.da _ _ (eG f x).symm).trans<|N.aM _ _ _
theorem vm(f:α->β)(l:List α)(h:k<l.length):(l.take<|k+1).map f=(l.take k).map f++[f l[k]]:=by refine rr (dK)<|rr (aV h)<|rr (bN) ?_;rfl
theorem UN{v:V}(h:(hs.map V.S)[k]?=O v):k<hs.length/\∃d,hs[k]?=O d/\v=.S d:=by rw [bz]at h;exact om h λd hd e=>Bl (gl hd) d hd e.symm
theorem HC.nu{f:α->cP}{B:List α}(h:HC f Y hs B){d:a8}(e:hs[k]?=O d)(c:k<B.length):Y d=O (f B[k]):=by refine cK (h.2 k _ e) λa b g=>?_;rw [aV c]at b;exact rr (aJ b) g
theorem acn(W:WA g){gl:a8}{gs:ae}{K:VF->bw->N->Prop}{u16:au}{u:bw}(v:st<=3)(o:Y gl=O (.aF<|Nv.map .S)) (G:HC vl Y Nv gs) (w:∀one∈gs,one≠[]/\one.length=st)(q:∀c f m,bH Y c->c f=O (.aF<|bh<|gs.map lx)->c m=O (.aF<|bh<|gs.map jU)->iy ⟨g,X,n⟩ E (ON.drop 10) (u0::O (.aL st)::u2::u3::u4::u5::u6::u7::u8::u9::LG::ZM::ZN::O (.S gl)::ZO::u15::O (.S f)::u17::O (.S m)::u) c K):
 iy ⟨g,X,n⟩ E (ON.drop 8) (u0::O (.aL st)::u2::u3::u4::u5::u6::u7::u8::u9::LG::ZM::ZN::O (.S gl)::ZO::u15::u16::u17::u18::u) Y K:=by
 refine uM (jD o) (jE o) (λk=>bh<|(gs.take k).map lx) Z (λk y A ρ i l U=>?_) λf H=>?_
 .refine Bi (UN i) λa d hd z=>rr z ?_;have a:=G.1▸a;exact aer Z (G.nu hd a) (w _<|eU a).1<|l _<|(yr _ _).trans<|aH bh (vm lx gs a).symm
 refine rr (G.gj)<|rr (dD) ?_;have p:bH Y (Y.aX f<|.aF<|bh<|gs.map lx):=bH.cu H;have vs:=N.aM Y f<|.aF<|bh<|gs.map lx;generalize Y.aX f (.aF<|bh<|gs.map lx)=j8 at*;have xs:=p _ _ o;have s:HC vl j8 Nv gs:=G.mv λb r U e=>p _ _ e;refine Zm (jD xs) (λk t c=>t=bh ((gs.take k).map jU)/\bH j8 c) ⟨Z,bH.cL⟩ (λU U U h=>jE<|h.2 _ _ xs) (λk y t M A ρ i I l U=>?_) λt M I m C=>?_
 .refine Bi (UN i) λa d hd z=>rr z ?_;have a:=s.1▸a;have aZ:=I.2 _ _<|s.nu hd a;have aO:=(w _<|eU a).2;have fin:=λc x=>l (.aL<|jU gs[k]) c ⟨by refine rr (I.1)<|rr (vm jU gs a) ?_;exact yr _ _,I.2.aU x⟩;unfold jU at fin;generalize gs[k]=one at*;refine mj (aD v dc)<|uM qh ⟨trivial,λU h=>nq aP h ff⟩ (λj=>bh<|vi one j) Z (λj y A ρ i l aB=>?_) λr P=>?_
  .refine fw (B6 i) λF z=>rr z<|dv aZ (ft<|aO▸F)<|PE (λh=>?_) λh=>?_
   .refine dW (bT j) (oq dc dc j (il<|aD (dH<|cD F v) dc)<|bT j) ?_;exact l _<|(yr _ _).trans<|aH bh (Yh h).symm
   .exact aB<|aH bh<|Yg h
  .refine rr vW<|rl aO ?_;exact Sy Z (N.aM _ _ _)<|fin _<|bH.cu P
 .replace I:=(dD)▸(s.gj)▸I;exact rr (I.1)<|q _ f m (p.aU<|I.2.e0 C) (N.dF C<|I.2 _ _ vs)<|N.aM _ _ _
end
theorem Yi:∀(a:af) (lo:Int) (k:Nat),Nh a->(∀q∈a,lo<=q.1/\q.1<lo+k)->a.length<=k:=by
 intro l;induction l with
 |nil=>
  intro U U U U;exact dA _
 |cons q r i=>
  exact @λ
  |lo,0,h,b=>cM (b q bS).1<|wj<|Ac lo▸(b q bS).2
  |lo,k+1,h,b=>cg<|i (lo+1) k (List.pairwise_cons.mp h).2 λy c=>⟨Int.add_one_le_of_lt<|ig (b q bS).1<|(List.pairwise_cons.mp h).1 y c,by refine rr (Hv _ _ _)<|rr (lC 1 _) ?_;exact(b y<|di _ c).2⟩
theorem Yj{ru:Nat}{v:Int}(a:st<=10)(b:ru<=10)(h:kH st ru v=D):v.natAbs<=2000000:=by unfold kH at h;exact bV (Bool.or_eq_true_iff.mp h) (λh=>bV (Bool.or_eq_true_iff.mp h) (λh=>bV (Bool.or_eq_true_iff.mp h) (λh=>VZ (bA dc<|ew<|aI (Bool.and_eq_true_iff.mp h).1)<|bA (ew<|aI (Bool.and_eq_true_iff.mp h).2)<|bA (il a) dc) λh=>VZ (bA dc<|bA (rM<|il b)<|ew<|aI (Bool.and_eq_true_iff.mp h).1)<|bA (ew<|aI (Bool.and_eq_true_iff.mp h).2) dc) λh=>rr (aI h) dc) λh=>rr (aI h) dc
theorem Yk(b:1<=st/\st<=3)(c:one.length=st)(h:∀y∈one,y∈qM st):Nh (hE one)/\(hE one).length<=3/\∀q∈hE one,0<=q.1/\q.1<st/\q.2.natAbs<=2000000:=dW (oH<|GV b.2 b.1 c h).2.2.2.2.2.1 (oH<|GV b.2 b.1 c h).2.2.2.2.2.2 (λq d=>have a:=(oH<|GV b.2 b.1 c h).2.2.2.2.1 q d;(dW a.1.1 a.1.2<|VZ (bA dc a.2.1)<|bA a.2.2<|bA (iQ _ dc)<|bA (il b.2) dc))
theorem yv{P:α->Prop}{l:List α}{x:α}(h:∀y∈l,P y)(a:P x):∀y∈l++[x],P y:=λy b=>(ma b).elim (h y) λh=>ms h▸a
def CR(Y:N)(L:aw)(cs:List (Option<|aw)):Prop:=L.length=cs.length/\∀(k:Nat) (w:V),L[k]?=O w->∃u,cs[k]?=O u/\sF Y w u
theorem CR.f2{L:aw}(h:CR Y L cs)(f:F2 Y c8):CR c8 L cs:=⟨h.1,λk w e=>cK (h.2 k w e) λu a b=>bX u a<|b.f2 f⟩
theorem CR.jO{L:aw}{w:V}(h:CR Y L cs)(b:sF Y w u):CR Y (L++[w]) (cs++[u]):=⟨by exact rr (iP _ _)<|rr (iP _ _)<|rr (h.1) Z,λk a e=>(Nt e).elim (λe=>cK (h.2 k a e) λy c d=>bX y (Nu c) d) λe=>bX u (by refine rr (e.1)<|rr (h.1) ?_;exact Jg)<|e.2▸b⟩
theorem UO{a b c:Nat}(h:a=b+c):(a:Int)-b=c:=by exact rr h<|rr (Int.natCast_add _ _)<|rr (lC _ _)<|rr (eW _ _) Z
theorem CQ.z{c:Int}{names:aa}(aZ:CQ c names):names.length<=8:=li<|bA aZ.gj.2<|ix aZ.Nn.2 3
theorem CQ.o3{o:Nat}{names:aa}(aZ:CQ cn names)(h:names.length=cn+o):2<=o/\o<=3:=by have:=aZ.gj;rw [h]at this;exact⟨si<|li this.1,si<|li this.2⟩
variable{ua:a8} {l8:a8} {va:a8} {wa:a8}
section
theorem LI{E:Ex}(W:WA g)(i:11<=n){x:a8}(j:∀v Y K ρ,bE ⟨g,X,n⟩ (.S 834) [.S x] Y K E->xs v Y K ρ)(p:jn Y x c (aZ+16)) (d:Y ua=O (.aF<|bh ru)) (l:ua≠x) (m:ru.length<=4) (q:∀r a cs,jn a x c aZ->Kc x Y a->jF a (.S r) cs->cs.length=ru.length->(∀u∈cs,u∈yt)->Q (.S r) a):wz X xs Q (.S ua) Y:=by
 refine SK (jD d) (M:=4) (rr (cZ _) m) (λt k b a=>∃cs,cs.length=k/\CR a b cs/\(∀u∈cs,u∈yt)/\jn a x c (aZ+4*t)/\Kc x Y a) (rf [] Z ⟨Z,λU U h=>nq aP h ff⟩ nofun p Kc.cL) (λU U U U o=>pS o λU U U U U k=>jE<|k ua l _ d) (λt k y b a K ρ A I s U=>?_) λt b a I r e=>?_
 .refine ka I λcs I=>j _ _ _ _<|ace W (r1 i Z) (aZ:=aZ+4*t) I.2.2.2.1 λaO u F w f d z=>?_;exact s _ _ (rf (cs++[u]) ((iP ..).trans (aH (·+1) I.1)) ((I.2.1.f2<|.of f I.2.2.2.1).jO z) (yv I.2.2.1 d) w<|I.2.2.2.2.aU f)
 .exact ka I λcs I=>have C:=I.2.1.f2 (bH.cu (C:=.aF b) e).fr.f2;q r _ cs (I.2.2.2.1.dr.dq<|bH.cu e) (I.2.2.2.2.cu e) (gk r b Z (N.aM ..) C.1 C.2) (I.1.trans<|cZ _) I.2.2.1
theorem Ji(W:WA g)(K:40<=n){E:oZ}{x gl ml nl:a8}{ot:Nat}{names:aa}{z a:ar}{gs:ae}{u19 u20 u21 u22:au}(p:jn Y x c (m+19)) (w:1<=st/\st<=3) (aZ:CQ cn names) (vs:names.length=cn+ot)(hN:Y nl=O (.aF<|bQ names)) (xs:Y ua=O (.aF<|bh ru)) (iv:Y va=O (.aF<|bh z)) (iw:Y wa=O (.aF<|bh a)) (R:p9 cn ot ru z a) (r2:2<=z.length/\z.length<=4)(aO:DL Y (.S l8) rows) (dl:rows.length=st) (dr:∀j∈rows,qN st ru.length cn j)(hg:Y gl=O (.aF<|Nv.map .S)) (G:HC vl Y Nv gs) (aB:gs.length=ot) (aG:∀one∈gs,one.length=st/\∀y∈one,y∈qM st)(hul:Y ul=O (.aF<|bh<|gs.map lx)) (hml:Y ml=O (.aF<|bh<|gs.map jU))(q:∀t i cv p cs,iY i t p->jF i cv cs->j5 st p cs->i gl=O (.aF<|Nv.map .S)->(Nv.length:Int)=xo p->jn i x c m->Kc x Y i->Q (.bD [t,.S l8,.S gl,cv]) i):
 iy ⟨g,X,n⟩ E (ON.drop 10) [O<|.S x,O<|.aL st,O<|.aL cn,O<|.S nl,O<|.aL ot,O<|.S ua,O<|.S va,O<|.S wa,O<|.S l8,u9,LG,ZM,ZN,O<|.S gl,ZO,u15,O<|.S ul,u17,O<|.S ml,u19,u20,u21,u22] Y (yZ Q):=by
 have c5:(cn:Int)<=5:=aZ.Nn.2;have r4:ru.length<=4:=R.l1▸r2.2;have eo:xo ⟨names,cn,ru,z,a,[],⟨[],[],[],[]⟩,⟨[],[],[],[]⟩,[],[]⟩=ot:=UO vs;have σ:=λone h=>Yk w (aG one h).1 (aG one h).2;intro l hl;have xa:bH Y (Y.aX l<|.aF []):=bH.cu hl;refine mj (aD (aZ.o3 vs).2 dc)<|B7 (λo:au=>[O<|.S x,O<|.aL st,O<|.aL cn,O<|.S nl,O<|.aL ot,O<|.S ua,O<|.S va,O<|.S wa,O<|.S l8,u9,LG,ZM,ZN,O<|.S gl,ZO,u15,O<|.S ul,o,O<|.S ml,O<|.S l,u20,u21,u22])
  (λk U i=>∃P,(∀b C,b≠l->(Y.aX l<|.aF []) b=O C->i b=O C)/\i l=O (.aF<|P.map .S)/\HC dcl i P ((gs.take k).map hE)) _ (fW [] (λU U U e=>e) (N.aM _ _ _) ⟨Z,λU U h=>nq aP h ff⟩) (λk o i ρ hk I hJ=>?_) λo j8 I=>?_
 .refine ka I λP I=>have aE:k<gs.length:=aB▸hk;?_;have old:∀b C,Y b=O C->i b=O C:=λb C e=>I.1 b C (eG hl e)<|xa _ _ e;refine PJ W I.2.1 I.2.2 (old _ _ hg) (G.mv λb r U e=>old _ _ e) (old _ _ hul) aE (aG _<|eU aE).1 w.2 (List.pairwise_map.mpr<|(σ _<|eU aE).1.imp λh=>nZ h) (by refine rr (aT _)<|rr (iI<|dH aE) ?_;exact aD (dH hk)<|aD (aZ.o3 vs).2 dc) λF hs2 f2 l2 H2=>?_;exact hJ _ _<|fW hs2 (λb C hb e=>f2 b C hb<|I.1 b C hb e) l2<|rr (vm hE gs aE) H2
 refine hV I λP f hl1 H=>have H:=(dD)▸aB▸H;?_;have x1:bH Y j8:=λb C e=>f b C (eG hl e)<|xa _ _ e;have D19:DL j8 (.S l) (gs.map hE):=fe l P Z hl1 H;have p1:=p.dq x1;refine mj (aD w.2 dc)<|ML qh (M:=3) (vW▸w.2) (λt k u i=>u.length=k/\(∀y∈u,0<=y/\y<ru.length)/\jn i x c (m+16+t)/\Kc x j8 i) (mT Z nofun p1 Kc.cL) (λU U U U U=>⟨trivial,λU h=>nq aP h ff⟩) (λt k y u i K' J' v I hK U=>?_) λt u F I T afu=>?_
 .refine fw (B6 v) λhk o9=>?_;obtain rfl:=o9;exact ei (I.2.2.2 ua (p.tK xs) _<|x1 _ _ xs) (cZ _)<|jo W (r1 K Z) I.2.2.1 (il<|R.l1▸aD dc r2.1) (il<|aD r4 dc) λd F d1 p2 k2=>hK _ _ (mT ((iP ..).trans (aH (·+1) I.1)) (yv I.2.1 ⟨bT d,d1⟩) p2<|I.2.2.2.aU k2)
 rw [vW]at I;refine Bh I λzl hd p2 k2=>have e3:=N.aM F T<|.aF<|bh u;have k13:=k2.cu (C:=.aF<|bh u) afu;have k3:=(Kc.Lu x1).aU k13;have f3:F2 Y (F.aX T<|.aF<|bh u):=.of k3 p;have D3:=D19.f2<|.of k13 p1;have p3:jn _ x c (m+16):=(p2.dq<|bH.cu (C:=.aF<|bh u) afu).dr;?_;show bE _ _ _ (F.aX T<|.aF<|bh u) _ _;generalize F.aX T (.aF<|bh u)=Df at*;refine oG W (r1 K Z) (aO.f2 f3) (aD (cC dl) w.2) (bA c5 dc) (λj s=>⟨(dr j s).1,cw (Yi j 0 5 (dr j s).1 λy v=>⟨((dr j s).2 y v).1,dO ((dr j s).2 y v).2.1 c5⟩) dc⟩) (λj s y v=>dW ((dr j s).2 y v).1 ((dr j s).2 y v).2.1<|Yj (aD w.2 dc) (aD r4 dc) ((dr j s).2 y v).2.2) λta DN pa x4 ha Pa=>oG W (r1 K Z) (D3.fr x4.fr) (by refine rr (aT _)<|rr aB ?_;exact(aZ.o3 vs).2) (bA (il w.2) dc) (λj s=>?_) (λj s y v=>?_) λtg Qp pg x5 hgo Pg=>?_
 .exact vB s λone h=>⟨(σ one h).1,cw (σ one h).2.1 dc⟩
 .refine mm s λone h o9=>?_;obtain rfl:=o9;exact(σ one h).2.2 y v
 have x35:=x4.aU x5;have A:F2 Y Qp:=λb C e a b'=>x35 _ _<|f3 b C e a b';exact qA W (r1 K Z) (p:=⟨names,cn,ru,z,a,u,pa,pg,gs.map lx,gs.map jU⟩) Z (vs▸d7 ..) (aD aZ.z dc) (TL.f2 (bX nl Z hN) A) (IL.f2 (bX ua Z xs) A) (IL.f2 (bX va Z iv) A) (IL.f2 (bX wa Z iw) A) (bX T Z<|x35 _ _ e3) (ha.fr x5.fr) hgo (IL.f2 (bX ul Z hul) A) (IL.f2 (bX ml Z hml) A) λt DO x6 ht=>have k6:Kc x Y DO:=k3.aU<|Kc.Lu<|x35.aU x6;have p6:=p3.dq<|x35.aU x6;LI W (r1 K Z) (λU U U U h=>h) p6 (k6 ua (p.tK xs) _ xs) (p.tK xs) r4 λr Zp cs p7 k7 hc z2 hc'=>q t Zp (.S r) _ cs (ht.f2 (.of k7 p6:F2 DO Zp)) hc ⟨w,aZ,eo▸R,r2,zl,hd,fW rows dl dr Pa,rf gs ((aH (λk:Nat=>(k:Int)) aB).trans eo.symm) aG Pg Z Z,z2,hc'⟩ ((.of k7 p6:F2 DO Zp) _ _ (x6 _ _<|A _ _ hg Z<|yi _) Z<|yi _) ((aH (λk:Nat=>(k:Int))<|G.1.trans aB).trans eo.symm) p7<|k6.aU k7
end
theorem jn.UP{x:a8}{l:aa}(p:jn Y x c m)(h:Y a=O (.aF<|bQ l)):a≠x:=by refine jz p λcells s g b U=>?_;rintro rfl;replace b:=h.symm.trans b;induction l<;>cases b
theorem UQ(l:List α)(a b:ao):(hU l a b).length<=l.length:=rr (gw)<|aD (Qr ..)<|LV ..
section
theorem LJ(W:WA g)(P:40<=n){E:oZ}{x nl:a8}{ot:Nat}{names:aa}{z a:ar}(p:jn Y x c (m+67)) (f:1<=st/\st<=3) (aZ:CQ cn names) (xs:names.length=cn+ot)(hN:Y nl=O (.aF<|bQ names)) (s:Y sd=O (.aF<|bh ru)) (iv:Y va=O (.aF<|bh z)) (iw:Y wa=O (.aF<|bh a)) (R:p9 cn ot ru z a) (r2:2<=z.length/\z.length<=4)(q:∀t d l gl (aO:List a8) F p cs,iY d t p->jF d F cs->j5 st p cs->d gl=O (.aF<|aO.map .S)->(aO.length:Int)=xo p->jn d x c m->Kc x Y d->Q (.bD [t,.S l,.S gl,F]) d):
 iy ⟨g,X,n⟩ E (ON.drop 4) [O<|.S x,O<|.aL st,O<|.aL cn,O<|.S nl,O<|.aL ot,O<|.S sd,O<|.S va,O<|.S wa,X,X,X,X,X,X,X,X,X,X,X,X,X,X,X] Y (yZ Q):=by
 intro l K;have n8:=p.ne K;have aE:bH Y (Y.aX l<|.aF []):=bH.cu K;refine mj (aD f.2 dc)<|B8 f.2 (λo:au×au×au×au=>[O<|.S x,O<|.aL st,O<|.aL cn,O<|.S nl,O<|.aL ot,O<|.S sd,O<|.S va,O<|.S wa,O<|.S l,o.1,o.2.1,o.2.2.1,o.2.2.2,X,X,X,X,X,X,X,X,X,X])
  (λt k U d=>∃(i:List a8) (rows:List (List<|Int×Int)),jn d x c (m+37+10*t)/\Kd x l (Y.aX l<|.aF []) d/\d l=O (.aF<|i.map .S)/\HD d i rows/\rows.length=k/\∀T∈rows,qN st ru.length cn T)
  (X,X,X,X) (vz [] [] (p.dq aE) (λU U U U e=>e) (N.aM _ _ _) ⟨Z,λU U h=>nq aP h ff⟩ Z nofun) (λt k o d ρ aG I σ=>?_) λt o j I=>?_
 .exact vv I λi rows p' k' l' H zl ok=>PH W (r1 P Z) (aZ:=m+37+10*t) p' l' H n8 f.2 (li aZ.Nn.2:cn<=5) (R.l1▸r2) (k' sd _ (p.tK s) (eG K s)<|aE _ _ s) (p.tK s) (zl▸aD (dH aG) (aD f.2 dc)) λvs w1 w2 w3 hs2 T v w l2 H2 ok2=>σ (_,_,_,_) _ (vz hs2 (rows++[T]) v (k'.aU w) l2 H2 ((iP ..).trans (aH (·+1) zl))<|yv ok ok2)
 refine vv I λi rows p1 k1 e8 H zl ok=>have A:Kc x Y j:=λb hb C e=>k1 b C hb (eG K e)<|aE _ _ e;have D1:DL j (.S l) rows:=fe l i Z e8 H;?_;intro gl ZA;have ng:=(p1.dr:jn j x c (m+19+6*3)).ne ZA;have xg:bH j (j.aX gl<|.aF []):=bH.cu ZA;refine mj (aD (aZ.o3 xs).2 dc)<|B8 (aZ.o3 xs).2 (λq:au×au=>[O<|.S x,O<|.aL st,O<|.aL cn,O<|.S nl,O<|.aL ot,O<|.S sd,O<|.S va,O<|.S wa,O<|.S l,o.1,o.2.1,o.2.2.1,o.2.2.2,O<|.S gl,q.1,q.2,X,X,X,X,X,X,X])
  (λt k U d=>∃(i:List a8) (gs:ae),jn d x c (m+19+6*t)/\Kd x gl (j.aX gl<|.aF []) d/\d gl=O (.aF<|i.map .S)/\HC vl d i gs/\gs.length=k/\∀one∈gs,one.length=st/\∀y∈one,y∈qM st)
  (X,X) (vz [] [] ((p1.dr:jn j x c (m+19+6*3)).dq xg) (λU U U U e=>e) (N.aM _ _ _) ⟨Z,λU U h=>nq aP h ff⟩ Z nofun) (λt k q d ρ aG I σ=>?_) λt q2 vs I=>?_
 .exact vv I λi gs p' k' l' G M ok=>PI W (r1 P Z) (aZ:=m+19+6*t) p' l' G ng f.2 (M▸aD (dH aG) (aD (aZ.o3 xs).2 dc)) λvs w1 hs2 one v w l2 G2 y1 y2=>σ (_,_) _ (vz hs2 (gs++[one]) v (k'.aU w) l2 G2 ((iP ..).trans (aH (·+1) M))<|yv ok ⟨y1,y2⟩)
 refine vv I λaO gs v w e2 G M og=>have kc2:Kc x j vs:=λb hb C e=>w b C hb (eG ZA e)<|xg _ _ e;?_;refine acn W f.2 e2 G (λone h=>⟨λe=>cM f.1 (by refine rl ((og one h).1)<|rr e ?_;exact dc),(og one h).1⟩) λDf ul ml aB hul hml=>?_;have u:=kc2.aU<|Kc.Lu aB;exact Ji W P ((v.dr:jn vs x c (m+19)).dq aB) f aZ xs ((A.aU u) nl (p.UP hN) _ hN) ((A.aU u) sd (p.tK s) _ s) ((A.aU u) va (p.tK iv) _ iv) ((A.aU u) wa (p.tK iw) _ iw) R r2 (D1.f2<|.of u (p1.dr:jn j x c (m+19+6*3))) zl ok (aB _ _ e2) (G.mv λb r U e=>aB _ _ e) M og hul hml λt DN F pt cs f h2 h3 h4 h5 h6 h7=>q t DN l gl aO F pt cs f h2 h3 h4 h5 h6<|(A.aU u).aU h7
theorem Jj{d:Nat}(h:cn<2)(hd:d<2):∃n o,hU (bQ Lx) X (O<|4+(cn:Int))++hU (bQ Ly) X (O<|2+(d:Int))=bQ n/\(4+cn,n)∈ach/\n.length=4+cn+o:=
 match cn,d,h,hd with
 |0,0,_,_=>fe _ 2 Z (aW (i:=0) Z) Z
 |0,1,_,_=>fe _ 3 Z (aW (i:=1) Z) Z
 |1,0,_,_=>fe _ 2 Z (aW (i:=2) Z) Z
 |1,1,_,_=>fe _ 3 Z (aW (i:=3) Z) Z
theorem UR(W:WA g)(h:50<=n){x:a8}(p:jn Y x c (m+80)){E:Ex}(q:∀t f o gl (i:List a8) j p cs,iY f t p->jF f j cs->fv p cs->f gl=O (.aF<|i.map .S)->(i.length:Int)=xo p->jn f x c m->Kc x Y f->Q (.bD [t,.S o,.S gl,j]) f):bE ⟨g,X,n⟩ (.S 839) [.S x] Y Q E:=by refine W.e 68 h Z Z Z<|jo W (rm h Z) p dc dc λst j8 u p1 k1=>jo W (rm h Z) p1 dc dc λcn H e1 v k2=>dW Z Z ?_;have h1:1<=1+st/\1+st<=3:=⟨d7 ..,fO st 1▸zI u⟩;have k12:=k1.aU k2;intro r I;refine zS (N.aM _ _ _) λw ρ=>have K:=(bH.cu (C:=.aF<|bQ Lx) I).e0 (C:=.aF<|hU (bQ Lx) X<|O<|4+(cn:Int)) ρ;have e2:=N.aM (H.aX r<|.aF<|bQ Lx) w<|.aF<|hU (bQ Lx) X<|O<|4+(cn:Int);have n2:=(v.dq<|bH.cu I).ne ρ;?_;intro vs y;have M:=K.e0 (C:=.aF<|bQ Ly) y;have e3:=N.dF (C:=.aF<|bQ Ly) y e2;have s3:=N.aM ((H.aX r<|.aF<|bQ Lx).aX w<|.aF<|hU (bQ Lx) X<|O<|4+(cn:Int)) vs<|.aF<|bQ Ly;have n3:=(v.dq K).ne y;have p3:=v.dq M;refine jo W (rm h Z) p3 dc dc λd aZ u p4 A=>have k14:=(k12.aU<|Kc.Lu M).aU A;have xs:=A w n2.1 _ e3;have aO:=A vs n3.1 _ s3;?_;refine zS aO λaB P=>jS (N.dF P xs) (N.aM _ _ _) (mX<|aD (cV (UQ (bQ Lx) _ _)<|UQ (bQ Ly) _ _) dc) λk hr6=>fE (Jj (zI e1)<|zI u) λaE ot en T F=>have V:=(bH.cu (C:=.aF<|hU (bQ Ly) X<|O<|2+(d:Int)) P).e0 (C:=.aF<|hU (bQ Lx) X (O<|4+(cn:Int))++hU (bQ Ly) X (O<|2+(d:Int))) hr6;have G:=(N.aM (aZ.aX aB<|.aF<|hU (bQ Ly) X<|O<|2+(d:Int)) k<|.aF<|hU (bQ Lx) X (O<|4+(cn:Int))++hU (bQ Ly) X (O<|2+(d:Int))).trans<|aH (λl=>O<|cP.aF l) en;?_;generalize(aZ.aX aB<|.aF<|hU (bQ Ly) X<|O<|2+(d:Int)).aX k (.aF<|hU (bQ Lx) X (O<|4+(cn:Int))++hU (bQ Ly) X (O<|2+(d:Int)))=DO at*;refine ei G (dI _)<|have aG:=p4.dq V;have k6:=k14.aU<|Kc.Lu V;?_;have o3:=(ZI T).o3 F;refine((UO (b:=4+cn) F:(aE.length:Int)-(4+(cn:Int))=ot)▸?_:iy ⟨g,X,n-1⟩ (kU E) (ON.drop 3) [O<|.S x,O<|.aL<|1+(st:Int),O<|.aL<|4+(cn:Int),O<|.S k,O<|.aL<|(aE.length:Int)-(4+(cn:Int)),X,X,X,X,X,X,X,X,X,X,X,X,X,X,X,X,X,X] DO (yZ Q));refine X' W (rm h Z) aG ⟨il o3.1,il<|aD o3.2 dc⟩ λl1 l2 l3 s z a Zp p7 σ iu iv iw R z2 z4=>dW Z Z ?_;exact LJ W (rm h Z) (st:=1+st) (cn:=4+cn) p7 h1 (ZI T) F (σ k (aG.UP G) _ G) iu iv iw R ⟨z2,z4⟩ λt σ8 o gl i j pt cs a1 xs aO a4 a5 a6 a7=>q t σ8 o gl i j pt cs a1 xs aO.uw a4 a5 a6<|k6.aU<|σ.aU a7
end
variable{l1:ar} {l2:ar}
section
variable{E:Ex} {p:kg}
theorem Jk(W:WA g)(h:6<=n){x:a8}{s:Nat}(b:iY Y (.S x) p)(d:s<p.dX.length)(ok:XH p.cF)(e:p.cF.bU.length=p.dX.length)(hd:p.bC.length<=60)(f:∀c∈zX p.cF,c.length<=60/\∀q∈c,0<=q.1/\q.1<=60)(q:∀r l a,bH Y a->Y r=X->a r=O (.aF<|bh l)->l≠[]->l.length<=4->(∀y∈l,y=dg p.dX s+2^p.bC.length\/y=-1\/(y=0/\dg p.dX s≠0)\/(y=1/\dg p.dX s=0)\/∃q∈(zX p.cF).getD s [],y=dg p.dX s-2^q.1.toNat)->Q (.S r) a):bE ⟨g,X,n⟩ (.S 860) [.aQ GZ,.aL s,.S x] Y Q E:=mR W (r1 h Z) b<|Jb W (rm h Z) b d ok e hd f q
theorem p2n(h:k<=3):((2:Int)^k).natAbs<=8:=(by decide:∀k<4,((2:Int)^k).natAbs<=8) k<|jx h
theorem Pc(G:fv p cs):XH p.cF/\p.cF.bU.length=p.dX.length:=by have e:=(fq G.F.cF).2.1.trans (vj G).1.symm;exact⟨Ct G.F.cF (aD G.z2 dc)<|rr e<|li<|(sQ G.F).2.2.2▸bA (vj G).2.2.2 dc,e⟩
def US(Y:N)(p:kg)(cs:List (Option<|aw))(Q:aj)(s k:Nat):Prop:=∀r l c8,bH Y c8->Y r=X->c8 r=O (.aF<|bh l)->l≠[]->l.length<=10->(∀y∈l,z9 p cs k s y)->Q (.S r) c8
theorem US.o{s:Nat}(q:US Y p cs Q s k)(G:fv p cs)(b:s<(cX p k).length)(h:UD p k s≠[]/\(UD p k s).length<=10):∀r a,bH Y a->Y r=X->a r=O (.aF<|bh<|UD p k s)->Q (.S r) a:=λr a x c e=>q r _ a x c e h.1 h.2<|ah4 G k b
theorem if2{c:Prop} [Decidable c]{a b:Int}(h:l1.length<=2)(d:l2.length<=2):([a,b]++(if c then l1 else l2))≠[]/\([a,b]++(if c then l1 else l2)).length<=10:=⟨dy _ _,by
 split
 .exact aD (cG h 2) dc
 .exact aD (cG d 2) dc⟩
theorem Cd{c:Prop} [Decidable c]{a b a' b':Int}(h1:l1.length<=8)(h2:l2.length<=8):(if c then a::b::l1 else a'::b'::l2)≠[]/\(if c then a::b::l1 else a'::b'::l2).length<=10:=by
 split
 .exact⟨dy _ _,cG h1 2⟩
 .exact⟨dy _ _,cG h2 2⟩
theorem nb8{a b:Int}(c:a.natAbs<=10000000)(d:b.natAbs<=8):(a+b).natAbs<=20000000/\(a-b).natAbs<=20000000:=
 have h:=aD (cV c d) (by decide:10000000+8<=20000000)
 ⟨aD (VQ _ _) h,aD (Int.natAbs_sub_le _ _) h⟩
theorem UT(W:WA g)(m:6<=n){x:a8}{s:Nat}(t:iY Y (.S x) p)(G:fv p cs)(b:s<p.dX.length)(q:US Y p cs Q s 11):bE ⟨g,X,n⟩ (.S 860) [.aQ GZ,.aL s,.S x] Y Q E:=by
 have F:=G.F;refine Jk W m t b (Pc G).1 (Pc G).2 (aD G.dl dc) (λu c=>?_) λr l v w c e A xs f=>?_
 .obtain⟨i,e⟩:=List.mem_iff_getElem?.mp c;exact⟨aD (Gx (p:=p.cF) e).2<|aD G.z2 dc,λy d=>have k:=zm F.cF c d;⟨k.1,bA (ew k.2)<|il<|aD G.dl dc⟩⟩
 .refine q r l v w c e A (aD xs dc) λy d=>jf (Lp F b<|f y d) ?_;have j:(dg p.dX s).natAbs<=10000000:=G.sg.2 _ (by
   unfold dg;refine rr (bx)<|rr (aV b) ?_;exact eU b)
  refine bV (f y d) (λh=>?_) λC=>bV C (λh=>?_) λaO=>bV aO (λh=>?_) λH=>bV H (λh=>?_) λI=>cK I λz a h=>?_
  .exact rr h<|(nb8 j<|p2n G.dl).1
  .exact rr h dc
  .exact rr (h.1) dc
  .exact rr (h.1) dc
  .replace a:=(bx)▸a;generalize e4:(zX p.cF)[s]?=o at a;induction o with
   |none=>cases a
   |some u=>
    exact rr h<|(nb8 j<|p2n<|Int.toNat_le.mpr<|bA (ew (zm F.cF (aW e4) a).2)<|il G.dl).2
theorem afv(W:WA g)(hn:6<=n){x:a8}{s:Nat}(hp:iY Y (.S x) p)(G:fv p cs)(hs:s<(cX p k).length)(q:US Y p cs Q s k):bE ⟨g,X,n⟩ (.S 860) [.aQ<|cf.getD k [],.aL s,.S x] Y Q E:=by
 have F:=G.F;refine k15 (P:=λk=>s<(cX p k).length->US Y p cs Q s k->bE ⟨g,X,n⟩ (.S 860) [.aQ<|cf.getD k [],.aL s,.S x] Y Q E) (fc ?_<|fc ?_<|fc ?_<|fc ?_<|fc ?_<|fc ?_<|fc ?_<|fc ?_<|fc ?_<|fc ?_<|fc ?_<|fc ?_<|fc ?_<|fc ?_<|fc ?_ f0) (n15 hs).1 (n15 hs).2 hs q<;>clear hs q<;>intro hs q
 .exact Av W (r1 hn Z) hp<|q.o G hs ⟨dy _ _,aK rfl⟩
 .exact Jc W (r1 hn Z) hp<|q.o G hs ⟨dy _ _,aK rfl⟩
 .exact DW W (r1 hn Z) hp<|q.o G hs<|if2 dc dc
 .exact DX W (r1 hn Z) hp (cI hs<|(sQ F).2.1.trans (sQ F).1.symm)<|q.o G hs<|if2 dc dc
 .exact CV W (r1 hn Z) hp<|q.o G hs ⟨dy _ _,aK rfl⟩
 .exact Jd W (r1 hn Z) hp<|q.o G hs ⟨dy _ _,aK rfl⟩
 .exact Jf W (r1 hn Z) hp (cI hs (fq F.dJ).2.2)<|q.o G hs<|Cd (aK rfl)<|aK rfl
 .exact Je W (r1 hn Z) hp hs<|q.o G hs<|if2 dc dc
 .exact G4 W (r1 hn Z) hp<|q.o G hs ⟨dy _ _,aK rfl⟩
 .refine LF W (r1 hn Z) hp (cI hs<|(vj G).2.1.trans (vj G).1.symm) (Pc G).1 (Pc G).2<|q.o G hs ⟨dy _ _,?_⟩;show(if dg p.dX s=0 then(if 1<p.bC.length then [1]else [])else [-1]:ar).length+3<=10;split
  .split<;>exact aK rfl
  .exact aK rfl
 .exact UT W hn hp G hs q
 .exact G3 W (r1 hn Z) hp<|q.o G hs ⟨dy _ _,aK rfl⟩
 .have hc:=cI hs (fq F.cF).2.2;exact G5 W (r1 hn Z) hp hc (λh=>⟨Int.lt_iff_add_one_le.mp<|Int.lt_iff_le_and_ne.mpr ⟨(l9 F.cF hc).1,h.symm⟩,((fq F.cF).2.1.trans (vj G).2.1.symm)▸(l9 F.cF hc).2.1⟩)<|q.o G hs<|Cd (aK rfl)<|aK rfl
 .exact G6 W (r1 hn Z) hp hs<|q.o G hs<|if2 dc dc
 .exact DV W (r1 hn Z) hp<|q.o G hs ⟨dy _ _,aK rfl⟩
end
def qa(L:ah):aa:=[w_head]++s8 cf L++[nO 18]
def pA(L:ah)(k:Nat):aa:=[w_head]++s8 cf (L.take k)
def pB(L:ah)(k:Nat):aa:=s8 (cf.drop<|k+1) (L.drop<|k+1)++[nO 18]
def kL(k:Nat)(v:aw):aq:=dP (cf.getD k [])<|v.map sh
theorem G7(w:aa)(L:ah)(h:L.length<=w.length):(s8 w L).length=L.length:=List.length_zipWith.trans<|Wd h
theorem vn{L:ah}(h:L.length=17)(a:k<17):(pA L k).length=k+1:=by rw [pA];refine rr (aY)<|rr (G7 _ _ (by refine rr (jV)<|rr vQ ?_;lia))<|rr (jV) ?_;simp;lia
theorem ou{L:ah}(c:L.length=17)(h:k<17):qa L=pA L k++kL k (L.getD k [])::pB L k:=by
 have e:L=L.take k++L.getD k []::L.drop (k+1):=by
  conv=>lhs;rw [<-hO k L]
  refine rr (bx)<|rr (aV<|cI ‹_› (pP ‹_›))<|rr (fY<|cI ‹_› (pP ‹_›)) ?_;rfl
 have a:cf.drop k=cf.getD k []::cf.drop (k+1):=by
  refine rr (bx)<|rr (aV<|h) ?_;exact fY _
 have b:s8 cf L=s8 cf (L.take k)++kL k (L.getD k [])::s8 (cf.drop<|k+1) (L.drop<|k+1):=by
  conv=>lhs;rw [e]
  refine rr (X3 _ _ _ (by refine rr (jV)<|rr vQ ?_;lia))<|rr (jV)<|rr (show min k L.length=k by lia)<|rr a ?_;rfl
 exact(aH (·++[nO 18]) ((aH ([w_head]++·) b).trans (bF [w_head] _ _).symm)).trans<|bF _ _ _
theorem UU{L:ah}(h:L.length=17)(a:k<17):(qa L).take (k+1)=pA L k:=rr (ou h a)<|rr (Wf<|vn h a) Z
theorem UW{L:ah}(h:L.length=17)(a:k<17):(qa L).drop (k+2)=pB L k:=rr (ou h a)<|rr (show pA L k++kL k (L.getD k [])::pB L k=(pA L k++[kL k<|L.getD k []])++pB L k from(bF (pA L k) [_]<|pB L k).symm)<|rr (lH (by refine rr (aY)<|rr (vn h a) ?_;rfl)) Z
theorem aco{L:ah}(h:L.length=17)(a:k<17):(qa L)[k+1]?=O (kL k<|L.getD k []):=by refine rr (ou h a)<|rr (eN<|rr (vn h a)<|bO _)<|rr (vn h a)<|rr (qU _) ?_;rfl
theorem tL{L:ah}(h:L.length=17):(qa L).length=19:=by rw [qa];refine rr (aY)<|rr (aY)<|rr (G7 _ _ (by refine rr h ?_;exact dc))<|rr h ?_;rfl
def CX(ls:aa)(k:Nat):Prop:=∃e,gJ (fl ls)=.eA e/\e.length<=(fl<|ls.drop k).length
def ky(L:ah)(k:Nat)(t:aq):aa:=pA L k++[t]++pB L k
theorem Jl{L:ah}(h:t8 L)(a:k<17){v:aw}(d:Hq v)(f:fS ((L.set k v).getD 16 [])≠X)(g:∃j,k<=j/\j<17/\sP j ((L.set k v).take<|j+1)=O bk):CX (ky L k<|kL k v) (k+1):=by
 refine cK (T6 h a d f g<|fl [nO 18]) λe b c=>?_;rw [<-CF]at b;refine bX e ?_ ?_
 .have:ky L k (kL k v)=[w_head]++s8 cf (L.take k)++[dP (cf.getD k [])<|v.map sh]++s8 (cf.drop<|k+1) (L.drop<|k+1)++[nO 18]:=(bF (pA L k++[kL k v]) _ [nO 18]).symm;exact rr this b
 .rw [ky];refine rr (bF _ _ _)<|rr (lH<|vn h.gj a) ?_;rw [<-CF]at c
  rwa [bF]at c
theorem Jm{L:ah}(h:t8 L)(a:k<17)(d:∀q,∃e,mP (cf.getD k []) (t++10::q)=.eA e):CX (ky L k t) (k+1):=by refine cK (T7 h a d<|fl<|pB L k) λe b c=>?_;rw [<-CF]at b c;exact bX e b (by rw [ky];refine rr (bF _ _ _)<|rr (lH<|vn h.gj a) ?_;exact c)
def wq(p:kg)(cs:List (Option<|aw))(k s:Nat)(base:aw)(t:aq):Prop:=(∃x,t=sh x/\pE 2 x=D/\gO p cs k (base.set s x)/\fS (((cU p cs).set k<|base.set s x).getD 16 [])≠X)\/∀q,Nd q->∃e,rI 2 (t++q)=.eA e
theorem E3(f:α->β):∀(l:List α) (s:Nat) (x:α),(l.set s x).map f=(l.map f).set s (f x):=λl s x=>List.map_set
theorem Nw{f:α->Bool}{l:List α}{s:Nat}{x:α}(h:l.all f=D)(b:f x=D):(l.set s x).all f=D:=by rw [mB]at h⊢;intro y a;exact bV (mE a) (λa=>h y a) λz=>rr z b
variable{base:aw}
theorem Jn{p:kg}(G:fv p cs){s:Nat}(b:k<17)(c:base.all (pE 2)=D)(d:base.length<=50)(a:s<base.length)(h:wq p cs k s base t):CX (ky (cU p cs) k<|dP (cf.getD k [])<|(base.map sh).set s t) (k+1):=by
 refine bV h (λz=>gU z λx f g i j=>?_) λh=>?_
 .exact rr f<|rl (E3 _ _ _ _)<|Jl (tG G.F G.C G.R) b ⟨Nw c g,by refine rr (fD) ?_;exact aD ‹_› dc⟩ j i
 .refine Jm (tG G.F G.C G.R) b λq=>?_;have e:(base.map sh).set s t=(base.take s).map sh++[t]++(base.drop<|s+1).map sh:=by
   refine rr (List.set_eq_take_append_cons_drop)<|rr (bI<|rr (aT _) a)<|rr (xw)<|rr (Ho) ?_;exact(bF _ [t] _).symm
  refine rr e<|TR _ h (al λy l=>la c y<|AB _ _ l) ?_ q;refine rr (jV)<|rr (gw)<|rr (qn<|dH a) ?_;exact aD (cC<|iL a)<|aD d dc
noncomputable def acp:List (aq×au):=[([55],O<|.aL 7),([34,120,34],O<|.aQ [120]),([40,34,112,117,115,104,34,32,49,41],O<|.bD [.aQ my,.aL 1]), ([40,40,34,112,117,115,104,34,32,49,41,41],O<|.bD [.bD [.aQ my,.aL 1]]),([40,40,34,115,101,116,34,32,45,41,41],O<|.bD [.bD [.aQ nD,.bR]]),([40,40,34,106,117,109,112,34,32,50,41,41],O<|.bD [.bD [.aQ Gz,.aL 2]]), ([40,40,34,110,111,112,101,34,32,45,41,41],O<|.bD [.bD [.aQ [110,111,112,101],.bR]]),([40,40,55,32,49,41,41],O<|.bD [.bD [.aL 7,.aL 1]]), ([40,40,34,112,117,115,104,34,32,49,32,50,41,32,40,34,115,101,116,34,32,45,41,41],O<|.bD [.bD [.aQ my,.aL 1,.aL 2],.bD [.aQ nD,.bR]]), ([40,40,40,34,111,119,110,34,32,45,41,41,41],X),([40,40,34,112,117,115,104,34,32,49,41,32,40,34,115,101,116,34,32,49,41,41],O<|.bD [.bD [.aQ my,.aL 1],.bD [.aQ nD,.aL 1]])]
theorem UX:(acp.all λe=>decide (e.1.length<=60)&&match e.2 with
 |some x=>sh x==e.1&&pE 2 x&&pD x==O bk
 |none=>e.1.take 3==[40,40,40])=D:=by decide+kernel
section
variable{p:kg}
theorem PK(G:fv p cs){s:Nat}(a:s<p.dt.length){e:aq×au}(b:e∈acp):wq p cs 16 s (bg p.dt.length .bR) e.1/\e.1.length<=60:=by
 have h:=la UX e b;rw [eT,decide_eq_true_eq]at h;obtain⟨c,h⟩:=h;refine⟨?_,c⟩;obtain⟨t,x⟩:=e;clear c b;induction x with
 |some x=>
  have d:=cR<|nR h;exact .inl<|lQ x (cR<|nL<|nL h).symm (nR<|nL h) (Ud a d)<|rr (IS _ s a d) λe=>nq aP e ff
 |none=>
  refine .inr λq U=>?_;have f:t=40::40::40::t.drop 3:=by
   have:=hO 3 t;rw [((cR h):t.take 3=[40,40,40])]at this;exact this.symm
  exact rr f<|IG _
theorem PL{s:Nat}:wq p cs k s base (bg 1200 40):=.inr λq U=>X0 q
theorem PM:∀{s:aq},s.all zz=D->(s.map w6).flatten=s:=by
 intro l;induction l with
 |nil=>
  intro U;exact Z
 |cons d r i=>
  intro h;have hd:=nL h;exact(aH (·++(r.map w6).flatten)<|show w6 d=[d]from(bu<|bne_iff_ne.mp<|nR<|nL<|nL hd).trans ((bu<|bne_iff_ne.mp<|nR<|nL hd).trans<|bu<|bne_iff_ne.mp<|nR hd)).trans (aH (d::·)<|i<|nR h)
theorem CY{s:aq}(h:s.all zz=D):sh (.aQ s)=34::s++[34]:=aH (λx=>34::x++[34])<|PM h
theorem UY{s:aq}(h:s.all zz=D):pE 2 (.aQ s)=D:=al λd hd=>by
 have:=la h d hd;exact nL<|nL<|nL this
theorem Ny(G:fv p cs){s:Nat}{x:V}(e:sh x=t)(h:pE 2 x=D)(f:gO p cs 0 ((bQ p.bp).set s x)):wq p cs 0 s (bQ p.bp) t:=.inl (lQ x e.symm h f (by
 exact rr (G.C.all) λh=>nq aP h ff))
theorem acq(G:fv p cs){s:Nat}(h:s<p.bp.length):wq p cs 0 s (bQ p.bp) [55]:=Ny G (x:=.aL 7) dc dc<|IQ h Z
theorem acr(G:fv p cs){s:Nat}(h:s<p.bp.length):wq p cs 0 s (bQ p.bp) [45]:=Ny G (x:=.bR) Z Z<|IQ h Z
theorem UZ(G:fv p cs){s t:Nat}(b:s<p.bp.length)(h:t<p.bp.length)(c:s≠t):wq p cs 0 s (bQ p.bp) (34::p.bp.getD t []++[34]):=by
 have a:(p.bp.getD t []).all zz=D:=by
  refine rr (bx)<|rr (aV h) ?_;exact la G.nm.pl _<|eU h
 exact Ny G (CY a) (UY a)<|Pf b h c
theorem acs(G:fv p cs){s:Nat}(a:s<p.bp.length)(h:s<3\/(s:Int)=p.cy):wq p cs 0 s (bQ p.bp) [34,120,34]:=by have nl:=G.nm.gj;have c:=G.nm.Nn;exact Ny G (x:=.aQ [120]) dc dc<|bV h (λh=>Ph G.F h<|by lia) λh=>Lr a h.symm
end
theorem PD.f2{x:a8}(k:PD x Y c8)(p:jn Y x c m):F2 Y c8:=λa C h f n=>k a C (by
 refine jz p λcells s g b U=>?_;rintro rfl;replace h:=b.symm.trans h;obtain rfl:=aJ h;exact nq bP n ff) h f
theorem acu(a b:aa)(t:aq):bQ a++[.aQ t]++bQ b=bQ (a++[t]++b):=by refine rr (lW _ _) ?_;exact(bN ..).symm
theorem ZP{b:Nat}:∀{ls:aa},(∀t∈ls,t.length<=b)->(ls.map bW).sum<=ls.length*b:=by
 intro l;induction l with
 |nil=>
  intro U;exact dA _
 |cons t r i=>
  intro h;show t.length+(r.map bW).sum<=(r.length+1)*b;refine rr (C5 _ _ _)<|rr (NR _)<|rr (fO _ _) ?_;exact cV (i λu a=>h u<|di _ a)<|h t bS
theorem PN(f:α->Nat)(a b:List α)(x y:α):((a++[x]++b).map f).sum<=((a++y::b).map f).sum+f x:=by refine rr (bN)<|rr (bN)<|rr (bN)<|rr (m3)<|rr (m3)<|rr (m3)<|rr (yO _ _ _) ?_;exact cV (eZ (gq ..) _)<|bO _
theorem PO(a b:List α)(x y:α):(a++[x]++b).length=(a++y::b).length:=rr (bF _ _ _)<|(aY ..).trans (aY (as:=a) (bs:=y::b)).symm
theorem U0{L:ah}(h:L.length=17)(a:k<17)(t:aq):((ky L k t).map bW).sum<=((qa L).map bW).sum+t.length:=rr (ou h a)<|PN ..
theorem Jo{L:ah}(h:L.length=17)(a:k<17)(t:aq):(ky L k t).length=19:=by have:=tL h;rw [ou h a]at this;exact(PO ..).trans this
variable{ip:Nat} {ia:Nat}
section
variable{E:oZ} {J:bw} {K:VF->bw->N->Prop}
theorem Jp{f:Nat}{aG:CE}{B:List CE}{L:ah}(j:nk J ip=O (.S a))(m:nk J ia=O (.aL ((k+1:Nat):Int)))(y:∀b,bH Y b->∀p:aj,(∀d,bH b d->p (.aQ t) d)->rU ⟨g,X,n⟩ (kE E J) aG J b p) (o:Y a=O (.aF<|bQ<|qa L)) (c:L.length=17) (h:k<17)(q:∀r e,bH Y e->e r=O (.aF<|bQ<|ky L k t)->Ra ⟨g,X,n⟩ (kE E J) B J e (ads (.S r)<|Q8 ⟨g,X,n⟩ (.S f) (kRe K J)<|kE E J)):
 iy ⟨g,X,n⟩ E [.j7<|O<|.jA (.dT<|.S f)<|.fh .Add (.fh .Add (.eC (.dR ip) X<|O<|.dR ia)<|.aF [aG]) (.eC (.dR ip) (O<|.fh .Add (.dR ia)<|.dT<|.aL 1) X)::B] J Y K:=by
 refine mu j<|mu m<|rX o ((GQ _ _).trans<|aH bQ<|UU c h) λi z=>have x:bH Y (Y.aX i<|.aF<|bQ<|pA L k):=bH.cu z;have A:=N.aM Y i<|.aF<|bQ<|pA L k;?_;generalize Y.aX i (.aF<|bQ<|pA L k)=b at*;refine y b x _ λd s=>?_;intro xs u;refine jS (N.dF u<|s _ _ A) (N.aM _ _ _) ?_ λaO F=>?_
 .refine rr (dI _)<|rr (vn c h) ?_;exact mX<|aD (cG h 1) dc
 have v:=(x.aU s).e0 (C:=.aF [.aQ t]) u|>.e0 (C:=.aF<|bQ (pA L k)++[.aQ t]) F;have G:=N.aM (d.aX xs<|.aF [.aQ t]) aO<|.aF<|bQ (pA L k)++[.aQ t];refine mu j<|mu m<|rX (v _ _ o) ((vU _<|k+2).trans<|aH bQ<|UW c h) λρ w=>jS (N.dF w G) (N.aM _ _ _) ?_ λH I=>?_
 .refine rr (lW _ _)<|rr (dI _)<|rr (dI _)<|rl (aY) ?_;exact mX<|aD (cC<|Jo c h t) dc
 exact q H _ ((v.e0 w).e0 I)<|(N.aM _ _ _).trans<|aH (λl=>O<|cP.aF l)<|acu _ _ _
theorem yw(W:WA g)(o:205<=n){aG:CE}{L:ah}(p:nk J ip=O (.S a))(j:nk J ia=O (.aL ((k+1:Nat):Int)))(s:∀c,bH Y c->∀l:aj,(∀m,bH c m->l (.aQ t) m)->rU ⟨g,X,n⟩ (kE E J) aG J c l) (u:Y a=O (.aF<|bQ<|qa L)) (i:L.length=17) (h:k<17) (v:((qa L).map bW).sum<=600000) (w:t.length<=200000)(R:CX (ky L k t) (k+1)) (q:∀d,Fr Y d->K (.j7<|.du D) J d):
 iy ⟨g,X,n⟩ E [.j7<|O<|.jA (.dT<|.S 879) [.fh .Add (.fh .Add (.eC (.dR ip) X<|O<|.dR ia)<|.aF [aG])<|.eC (.dR ip) (O<|.fh .Add (.dR ia)<|.dT<|.aL 1) X,.dR ia]] J Y K:=Jp p j s u i h λr c x y=>mu j<|have b:=Jo i h t;vh W (r1 o Z) (k:=k+1) (ls:=ky L k t) y (λe=>by replace b:=e▸b;cases b) (aD (cg<|dH h)<|b▸by decide) (aD (cC b) dc) (aD (U0 i h t)<|aD (cV v w) dc) R λd f=>q d<|x.fr.aU f
theorem G8(W:WA g)(h:3<=n){iw ii:Nat}{li:a8}{w:aq}(e:nk J iw=O (.aQ w))(c:nk J ii=O (.S li))(d:Y li=O (.aF<|bQ us))(f:w.length<=1000)(i:us.length<=100)(j:(us.map bW).sum<=100000):
 ∀a,bH Y a->∀K:aj,(∀b,bH a b->K (.aQ<|dP w us) b)->rU ⟨g,X,n⟩ (kE E J) (.jA (.dT<|.S 893) [.dR iw,.dR ii]) J a K:=λa x K q=>by
 exact mu e<|mu c<|z8 W h f (x _ _ d) (aD i dc) (aD j dc) q
end
section
variable{p:kg}
theorem afw{p:Prop} [Decidable p]{A xs:Prop}(h:p)(b:aG):cond ((oC==fF)==decide p) A (cond (decide p) aG xs):=rr (aN h) b
theorem ZQ{p:Prop} [Decidable p]{A xs:Prop}(h:¬p)(a:A):cond ((oC==fF)==decide p) A xs:=rr (bj h) a
theorem acv{s l:Nat}(b:s<l)(a:2<=l):∃j:Nat,((s:Int)+1).fmod l=j/\j<l/\s≠j:=
 (fW ((s+1)%l) (Int.ofNat_fmod (s+1) l).symm (Nat.mod_lt _<|cD dc a) (λe=>by
  refine bV (m5<|VP b) (λh=>?_) λh=>?_
  .rw [Nat.mod_eq_of_lt h]at e;exact hY (dM s) e
  .replace h:s+1=l:=h;rw [h,Nat.mod_self]at e;subst e;subst h;exact cM a dc))
theorem vo(G:fv p cs):p.bp.length<=40/\∀s∈p.bp,s.all VX=D/\s.length<=60:=by have:=G.nm.ok;simp only [VY,eT,decide_eq_true_eq,mB]at this;exact⟨this.1,λs h=>⟨al (this.2 s h).1,(this.2 s h).2⟩⟩
theorem ZR(h:t.length<=60):[34].length+t.length<=cE/\([34]++t).length+[34].length<=cE/\(34::t++[34]).length<=2000:=(dW (mX<|aD (eZ h 1) dc) (mX<|aD (cG (cG h 1) 1) dc)<|rr (aY)<|aD (cG (cG h 1) 1) dc)
section
variable{E:Ex}
theorem DY(W:WA g)(xs:12<=n){x:a8}{s:Nat}(aO:jn Y x c (aZ+1))(F:iY Y (.S y) p)(G:fv p cs)(k:s<p.bp.length)(q:∀t f,jn f x c aZ->Kc x Y f->wq p cs 0 s (bQ p.bp) t->t.length<=2000->Q (.aQ t) f):bE ⟨g,X,n⟩ (.S 867) [.S x,.aQ vN,.aL s,.S y] Y Q E:=by
 have H:2<=p.bp.length:=li<|bA (bA dc<|ix G.nm.Nn.1 2) G.nm.gj.1;refine hV (acv k H) λj R o aE=>?_;have I:p.bp.getD j []=p.bp[j]:=by refine rr (bx)<|rr (aV o) ?_;rfl
 have T:mO (bQ p.bp) (((s:Int)+1).fmod ((bQ p.bp).length:Nat))=O (.aQ<|p.bp.getD j []):=by
  refine rr (dI _)<|rr R<|rr (kq _ _) ?_;rw [bQ];refine rr (bz)<|rr (aV o)<|rr I ?_;rfl
 have z:=ZR<|I▸((vo G).2 _<|eU o).2;have base:∀v∈[V.aQ [55],.aQ [45],.aQ<|[34]++p.bp.getD j []++[34]],∃t,v=.aQ t/\wq p cs 0 s (bQ p.bp) t/\t.length<=2000:=fc (fW _ Z (acq G k) dc)<|fc (fW _ Z (acr G k) dc)<|fc (fW _ Z (UZ G k o aE) z.2.2) f0;refine W.e 72 xs Z Z Z<|DM F.x.nm Z λnm ρ=>jQ ρ ⟨by refine rr (dI _) ?_;exact i5<|it<|cD dc H,?_⟩;refine dv ρ T ?_;generalize p.bp.getD j []=w at*;refine dW z.1 z.2.1 ?_;intro r aG;have u:bH Y (Y.aX r<|.aF [.aQ [55],.aQ [45],.aQ<|[34]++w++[34]]):=bH.cu aG;have σ:=N.aM Y r<|.aF [.aQ [55],.aQ [45],.aQ<|[34]++w++[34]];have fin:∀(i:aw) a A K,(∀v∈i,v=.aQ [34,120,34]/\(s<3\/(s:Int)=p.cy))->i.length<=1->(∀v Y,Q v Y->A v Y)->(Y.aX r<|.aF [.aQ [55],.aQ [45],.aQ<|[34]++w++[34]]) a=X->Wz r a ((Y.aX r<|.aF [.aQ [55],.aQ [45],.aQ<|[34]++w++[34]]).aX a<|.aF i) λv f=>bE ⟨g,X,n-1⟩ (.S 820) [.S x,v] f A K:=λi a A K vs M hQ b=>by
  refine jS (N.dF b σ) (N.aM _ _ _) (mX<|aD (eZ M 3) dc) λr3 aB=>have P:=(u.e0 (C:=.aF i) b).e0 (C:=.aF<|[.aQ [55],.aQ [45],.aQ<|[34]++w++[34]]++i) aB;vf W (rm xs Z) (aO.dq P) (N.aM _ _ _) (((aO.dq u).dq<|bH.cu b).ne aB).1 (dy _ _) (aD (cG M 3) dc) λd v f hd p' k'=>have key:∃t,v=.aQ t/\wq p cs 0 s (bQ p.bp) t/\t.length<=2000:=(ma<|aW hd).elim (base v) λh=>fW _ (vs v h).1 (acs G k (vs v h).2) dc;?_;exact hV key λt o9 l m=>rr o9<|hQ _ _<|q t f p' (Kc.aU (Kc.Lu P) k') l m
 by_cases l:(s:Int)<3
 .refine afw l ?_;intro a b;exact fin [.aQ [34,120,34]] a _ _ (fc ⟨Z,.inl<|zI l⟩ f0) (bO _) (λU U h=>h) b
 .refine ZQ l<|aeZ (F.fr u.fr).x.ct Z ?_;by_cases m:(s:Int)=p.cy
  .refine afw m ?_;intro a b;exact fin [.aQ [34,120,34]] a _ _ (fc ⟨Z,.inr m⟩ f0) (bO _) (λU U h=>h) b
  .refine ZQ m ?_;intro a b;exact fin [] a _ _ f0 (dA _) (λU U h=>h) b
theorem DZ(W:WA g)(i:12<=n){x:a8}{s:Nat}(j:jn Y x c (aZ+1))(G:fv p cs)(k:s<p.dt.length)(q:∀t a,jn a x c aZ->Kc x Y a->wq p cs 16 s (bg p.dt.length .bR) t->t.length<=2000->Q (.aQ t) a):bE ⟨g,X,n⟩ (.S 867) [.S x,.aQ vP,.aL s,.S y] Y Q E:=by refine W.e 72 i Z Z Z ?_;intro r b u h;exact jS (N.dF h<|N.aM _ _ _) (N.aM _ _ _) (mX<|aK rfl) λw f=>vf W (rm i Z) (B:=acp.map λe=>.aQ e.1) (j.dq<|((bH.cu b).e0 h).e0 f) (N.aM _ _ _) ((j.dq<|(bH.cu b).e0 h).ne f).1 (dy _ _) (aK rfl) λd v a hd p' k'=>vB (aW hd) λe l=>fw (PK G k l) λm o=>q _ a p' (Kc.aU (Kc.Lu<|((bH.cu b).e0 h).e0 f) k') m<|aD o dc
end
end
def FrD(x d:a8)(Y c8:N):Prop:=∀b C,b≠x->b≠d->Y b=O C->Ca C=D->c8 b=O C
theorem U1(l:aa)(s:Nat)(t:aq):(bQ l).set s (.aQ t)=bQ (l.set s t):=GL l s t
theorem E4:∀(l:aa) (s:Nat) (t:aq),((l.set s t).map bW).sum<=(l.map bW).sum+t.length:=by
 intro a;induction a with
 |nil=>
  intro U U;exact dA _
 |cons y r i=>
  exact @λ
  |0,t=>by
   show t.length+(r.map bW).sum<=y.length+(r.map bW).sum+t.length;exact rr (fO _ _)<|cG (gq ..) _
  |s+1,t=>by
   show y.length+((r.set s t).map bW).sum<=y.length+(r.map bW).sum+t.length;exact rr (ku _ _ _)<|eZ (i s t) _
theorem ZS(m d:Nat):(bg m [d]).flatten=bg m d:=by
 induction m with
 |zero=>rfl
 |succ m i=>refine rr (sb)<|rr i ?_;rfl
theorem acw:(bg 1200 40).length<=2000:=aD (cC ef)<|aK rfl
theorem AY{p:kg}(G:fv p cs):((qa<|cU p cs).map bW).sum<=500000:=by have:=(yd G.ok G.R1).1;rw [AS]at this;exact xh this dc Z
theorem CZ{w:aq}(a:w.length<=1000)(h:us.length<=100)(b:(us.map bW).sum<=100000):(dP w us).length<=200000:=aD (Ip w us<|aD h dc) (aD (cV (cV (cG a 10) b) h) dc)
variable{mn:V}
section
variable{p:kg} {K:VF->bw->N->Prop} {E:oZ}
theorem PQ(W:WA g)(h:209<=n){x li:a8}{s:Nat}(r:jn Y x c aZ)(G:fv p cs)(i:k<17)(v:base.all (pE 2)=D)(j:base.length<=40)(w:s<base.length)(z:((base.map sh).map bW).sum<=20000)(A:Y a=O (.aF<|bQ<|qa<|cU p cs)) (nl:li≠x/\li≠c) (xs:a≠li) (m:(cf.getD k []).length<=1000) (aO:wq p cs k s base t) (F:t.length<=2000)(q:∀d J,jn d x c aZ->(∀b C,b≠li->Y b=O C->Ca C=D->d b=O C)->K (.j7<|.du D) J d):
 iy ⟨g,X,n⟩ E (Xp.drop 6) [O<|.S x,O<|.S a,O<|.S y,O cv,O<|.aQ<|cf.getD k [],O<|.aL ((k+1:Nat):Int),O mn,O<|.aL s,O<|.S li] (Y.aX li<|.aF<|(bQ<|base.map sh).set s<|.aQ t) K:=by
 have u:((base.map sh).set s t).length<=40:=by refine rr (fD)<|rr (aT _) ?_;exact j
 have o:(((base.map sh).set s t).map bW).sum<=22000:=aD (E4 ..)<|cV z F;exact yw W (r1 h Z) (ip:=1) (ia:=5) (a:=a) (k:=k) (L:=cU p cs) Z Z (G8 W (r1 h Z) (iw:=4) (ii:=8) (li:=li) (us:=(base.map sh).set s t) Z Z ((N.aM _ _ _).trans<|aH (λl=>O<|cP.aF l)<|U1 _ _ _) m (aD u dc)<|aD o dc) ((N.da _ _ xs).trans A) Z i (aD (AY G) dc) (CZ m (aD u dc)<|aD o dc) (Jn G i v (aD j dc) w aO) λd f=>q d _ ((r.aX nl).fr f) λb C H e I=>f b C ((N.da _ _ H).trans e) I
theorem C0(W:WA g)(u:210<=n){x li:a8}{s:Nat}(xs:jn Y x c (aZ+2))(G:fv p cs)(aO:k<17)(F:base.all (pE 2)=D)(H:base.length<=40)(v:s<base.length)(I:((base.map sh).map bW).sum<=20000)(ρ:Y a=O (.aF<|bQ<|qa<|cU p cs)) (vs:a≠x) (w:Y li=O (.aF<|bQ<|base.map sh)) (nl:li≠x/\li≠c) (M:a≠li)(T:∀i Q P,jn i x c (aZ+1)->Kc x Y i->(∀t j,jn j x c aZ->Kc x i j->wq p cs k s base t->t.length<=2000->Q (.aQ t) j)->bE ⟨g,X,n⟩ (.S 867) [.S x,.aQ<|cf.getD k [],.aL s,.S y] i Q P)(aB:(cf.getD k []).length<=1000)(q:∀j J,jn j x c aZ->FrD x li Y j->K (.j7<|.du D) J j):
 iy ⟨g,X,n⟩ E (Xp.drop 5) [O<|.S x,O<|.S a,O<|.S y,O cv,O<|.aQ<|cf.getD k [],O<|.aL ((k+1:Nat):Int),O mn,O<|.aL s,O<|.S li] Y K:=by
 have z:∀t i,jn i x c aZ->Kc x Y i->wq p cs k s base t->t.length<=2000->iy ⟨g,X,n⟩ E (Xp.drop 6) [O<|.S x,O<|.S a,O<|.S y,O cv,O<|.aQ<|cf.getD k [],O<|.aL ((k+1:Nat):Int),O mn,O<|.aL s,O<|.S li] (i.aX li<|.aF<|(bQ<|base.map sh).set s<|.aQ t) K:=λt i m l o r=>
  PQ W (r1 u Z) m G aO F H v I (l a vs _ ρ) nl M aB o r λj J p f=>q j J p λb C R aE e aG=>f b C aE (l b R C e) aG
 have sl:(s:Int)<(bQ<|base.map sh).length:=by refine rr (dI _)<|rr (aT _) ?_;exact it v
 refine jo W (r1 u Z) xs dc dc λd i d1 m l=>lL (λh=>?_) λh=>?_
 .refine mT dc dc dc ?_;exact zi (l li nl.1 _ w) (bT s) sl<|z (bg 1200 [40]).flatten i m.dr l (ZS 1200 40▸PL)<|ZS 1200 40▸acw
 .exact T i _ _ m l λt σ p2 A o r=>zi (A li nl.1 _<|l li nl.1 _ w) (bT s) sl<|z t σ p2 (l.aU A) o r
theorem FrD.frX{x d:a8}(f:FrD x d Y c8)(k:Kc x lO Y)(h:lO d=X):PD x lO c8:=λb C a e c=>f b C a (eG h e) (k b a C e) c
theorem Kc.bR{x l:a8}(k:Kc x Y c8)(a:l≠x)(h:c8 l=X):Y l=X:=k.nn h a
theorem wH(f:α->β)(l:List α){y:α}(h:l[k]?=O y):(l.take<|k+1).map f=(l.take k).map f++[f y]:=by refine rr (dK)<|rr h<|rr (bN) ?_;rfl
end
section
variable{E:Ex} {p:kg}
theorem U2(G:fv p cs):p.bp.map (λs=>34::s++[34])=(bQ p.bp).map sh:=by rw [bQ];exact rr (eE)<|jH λs h=>(CY<|la G.nm.pl s h).symm
theorem acx{b:Nat}(h:∀v∈base,(sh v).length<=b):((base.map sh).map bW).sum<=base.length*b:=aD (ZP λt a=>mm a λv c e=>e▸h v c) (cC (aH (·*b)<|aT ..))
theorem Nz(h:∀v∈base,(sh v).length<=200)(a:base.length<=40):((base.map sh).map bW).sum<=20000:=aD (acx h)<|aD (gG 200 a) dc
theorem U3(m:Nat):(bg (m:Int).toNat [V.aQ [45]]).flatten=bQ ((bg m V.bR).map sh):=by
 induction m with
 |zero=>rfl
 |succ m i=>refine rr (sb)<|rr i ?_;rfl
theorem Yl(W:WA g)(f:215<=n){x:a8}(M:jn Y x c (aZ+4))(hp:iY Y (.S y) p)(G:fv p cs)(hc:jF Y cv cs)(ha:Y a=O (.aF<|bQ<|qa<|cU p cs))(l:a≠x)(q:∀aB,jn aB x c aZ->PD x Y aB->Q (.du D) aB):bE ⟨g,X,n⟩ (.S 910) [.S x,.S a,.S y,cv] Y Q E:=by
 refine W.e 79 f Z Z Z ?_;intro r hr;refine Nk W (rm f Z) M hr (λP H i=>?_) λP H i=>?_
 .have I:F2 Y P:=.of i M;have R:=hp.f2 I;have ρ:=i a l _ ha;refine DM R.x.nm Z λnm hnm=>ei hnm (dI _)<|jo W (rm f Z) H (il (zI (dO (dO dc<|ix G.nm.Nn.1 2) G.nm.gj.1):0<p.bp.length)) (il<|aD (vo G).1 dc) λs j t m o=>have hp2:=R.f2<|.of o H;have A:=o a l _ ρ;have xs:Kc x Y j:=i.aU o;?_;refine DM hp2.x.nm Z λnm2 afx=>uM (jD afx) (jE afx) (λk=>bQ<|(p.bp.take k).map λs=>34::s++[34]) Z (λk z K' J' aE hK U=>?_) λli b=>?_
  .refine mm (aW aE) λu K T=>?_;obtain rfl:=T;have e:p.bp[k]?=O u:=by
    rw [bQ,bz]at aE;refine om aE λw e h=>?_;obtain rfl:=Internal.V.aQ.inj h;exact e
   have zq:=ZR ((vo G).2 u K).2;exact dW zq.1 zq.2.1<|hK _<|(lW _ _).trans<|aH bQ (wH _ _ e).symm
  refine rr (dI _)<|rr (dD)<|rr (U2 G) ?_;have d:bH j (j.aX li<|.aF<|bQ<|(bQ p.bp).map sh):=bH.cu b;have nl:=m.ne b;have aO:(bQ p.bp).length<=40:=(dI _).symm▸(vo G).1;refine C0 W (rm f Z) (k:=0) (s:=s) (base:=bQ p.bp) (m.dq d) G dc (ZK G.nm.ok).1 aO (rr (dI _)<|zI t) (Nz (λv F=>?_) aO) (d _ _ A) l (N.aM ..) nl (eG b A) (λQp Q' E' aG k5 σ=>?_) dc λDO J p6 f6=>?_
  .refine vB F λu K=>rr (CY<|la G.nm.pl u K)<|rr (aY) ?_;exact aD (cG (cG ((vo G).2 u K).2 1) 1) dc
  .exact DY W (r1 (rm (k:=200) f Z) Z) aG ((hp2.fr d.fr).f2<|.of k5<|m.dq d) G (zI t) σ
  .exact q DO p6<|f6.frX (xs.aU<|Kc.Lu d)<|xs.bR nl.1 b
 .have I:F2 Y P:=.of i M;have R:=hp.f2 I;have ρ:=i a l _ ha;refine ei ρ ((dI _).trans<|tL Z)<|e9 (hc.f2 I) λcx cvs T hcx hcl hcr=>rr T<|ei hcx (hcl.trans G.C.gj)<|jo W (rm f Z) H (il<|aD dc G.l2.1) (il<|aD (aD G.l2.2 dc:p.dt.length<=40) dc) λs j t m o=>have A:=o a l _ ρ;have xs:Kc x Y j:=i.aU o;?_;intro r5 hr5;have vs:bH j (j.aX r5<|.aF [.aQ [45]]):=bH.cu hr5;refine Zn (N.aM _ _ _) (bT _) (il<|aD (aD G.l2.2 dc:p.dt.length<=40) dc) (bO _) λli b=>rr (U3 _)<|have d:=vs.e0 (C:=.aF<|bQ<|(bg p.dt.length V.bR).map sh) b;have nl:=(m.dq vs).ne b;have aO:(bg p.dt.length V.bR).length<=40:=List.length_replicate.symm▸(aD G.l2.2 dc:p.dt.length<=40);?_;refine C0 W (rm f Z) (k:=16) (s:=s) (base:=bg p.dt.length .bR) (m.dq d) G dc (al λv F=>by refine rr (mS F) ?_;rfl) aO (rr (ef)<|zI t) (Nz (λv F=>by refine rr (mS F) ?_;decide) aO) (d _ _ A) l (N.aM ..) nl (eG b<|vs _ _ A) (λQp Q' E' aG k5 σ=>?_) dc λDO J p6 f6=>?_
  .exact DZ W (r1 (rm (k:=200) f Z) Z) aG G (zI t) σ
  .exact q DO p6<|f6.frX (xs.aU<|Kc.Lu d)<|xs.bR nl.1<|fp vs b
end
theorem afy{a b:aq}(h:a=b)(q:P D):gX (O<|decide (a=b)) P:=by refine rr (aN h) ?_;exact q
theorem U4(p:kg)(cs:List (Option<|aw)):mkP (cU p cs)=p:=congr (aH (λ(m:ar->ar) (s:aa->aa)=>(⟨s p.bp,p.cy,m p.dt,m p.dE,m p.d5,m p.bC,⟨m p.dJ.dj,m p.dJ.dp,m p.dJ.bB,m p.dJ.bU⟩,⟨m p.cF.dj,m p.cF.dp,m p.cF.bB,m p.cF.bU⟩,m p.jT,m p.dX⟩:kg)) (funext ti:_=id)) (funext ts:_=id)
theorem LK(p:kg)(cs:List (Option<|aw)):((cU p cs).getD 16 []).map toCode=cs:=by
 refine rr (eE) ?_
 conv=>rhs;rw [<-LX cs]
 exact jH λu U=>(EW Z).symm
theorem yx{p:kg}(ok:qY p=D)(o:ya cs=D):mG (Ao p cs)=lu (qa<|cU p cs):=by rw [mG];refine rr (AS _ _) ?_;rfl
section
variable{E:Ex} {p:kg}
theorem PS(W:WA g)(d:150<=n)(i:T.length<=1000000)(b:gJ T=.ok (p,cs))(ok:qY p=D)(o:ya cs=D)(j:mG (Ao p cs)=T)(q:∀x w a,Fr Y a->Zt a x p->jF a w cs->Q (.bD [.S x,w]) a):bE ⟨g,X,n⟩ (.S 801) [.aQ T] Y Q E:=by
 refine wD W d i (rr b λh=>nq Internal.R.ctorIdx h ff) (λk l h=>?_) (λk l v w m h f c r=>?_) λp' e a h=>by replace h:=b▸h;exact nq Internal.R.ctorIdx h ff
 .replace h:=b▸h;cases h;exact dW ok o j
 .replace h:=b▸h;cases h;obtain⟨x,rfl,c⟩:=c;exact q x w m f c r
theorem U5(F:t8 (cU p cs)):gJ (lu<|qa<|cU p cs)=.ok (p,cs):=by have a:=tL (L:=cU p cs) Z;have:=O9 F;replace this:=(LK _ _)▸(U4 _ _)▸this;exact rr (Lw (λe=>by replace a:=e▸a;cases a)) this
theorem Jq(W:WA g)(v:160<=n){li:a8}(aE:t8 (cU p cs))(ok:qY p=D)(o:ya cs=D)(V:Y a=O (.aF<|bQ<|qa<|cU p cs))(A:Y li=O (.aF<|bQ<|(cX p k).map eF))(aG:k=3\/k=4\/k=5)(xs:qj (cX p k)=D)(q:∀F,Fr Y F->Q (.du D) F):bE ⟨g,X,n⟩ (.S 898) [.S a,.aQ<|cf.getD k [],.S li] Y Q E:=by
 have C:=GR (ls:=qa<|cU p cs) (aD (cC<|tL (L:=cU p cs) Z) dc)<|aD (xh ((AS _ _)▸((yd ok o).1)) dc Z:((qa<|cU p cs).map bW).sum<=500000) dc;have G:∀x∈cX p k,x.natAbs<10^170:=λx σ=>aI<|la (nR xs) x σ;refine W.e 77 v Z Z Z<|tC V (aD C.1 dc) ⟨mX<|rl (aY)<|aD C.2 dc,?_⟩;refine PS W (rm v Z) (T:=lu<|qa<|cU p cs) (aD C.2 dc) (U5 aE) ok o (yx ok o) λy w m f h H=>dW Z Z ?_;refine DM h.df Z λd I=>DM h.le Z λi ρ=>DM h.bf Z λl K=>?_;have key:∃aO,ni [(KK.s gE,.S d),(KK.s iE,.S i),(KK.s ib,.S l)] (.s<|cf.getD k [])=O (.S aO)/\m aO=O (.aF<|bh<|cX p k):=by
  clear xs;clear A G
  rcases aG with rfl|rfl|rfl
  .exact bX i Z ρ
  .exact bX l Z K
  .exact bX d Z I
 refine cK key λaO vs M=>SM [(KK.s gE,.S d),(KK.s iE,.S i),(KK.s ib,.S l)] Z λr hr=>have c:bH m (m.aX r<|.cQ [(KK.s gE,.S d),(KK.s iE,.S i),(KK.s ib,.S l)]):=bH.cu hr;abk (N.aM _ _ _) vs<|have aZ:=c _ _ M;have ah6:=c _ _<|f _ _ A Z;have hp1:iY _ _ p:=iY.fr (bX y Z h) c.fr;have hc1:=H.fr c.fr;have f1:=f.aU c.fr;?_;clear vs c H h M I ρ K;clear A xs;generalize m.aX r (.cQ [(KK.s gE,.S d),(KK.s iE,.S i),(KK.s ib,.S l)])=qR at*;refine uM (jD aZ) (jE aZ) (λj=>bQ<|((cX p k).take j).map eF) Z (λj z K' J' aB hK U=>?_) λr2 t=>?_
 .rw [bh,bz]at aB;exact Fs aB λu P=>have R:=x2<|G u<|aW P;xU R.1 (mX<|aD R.2 dc) (hK _<|(lW _ _).trans<|aH bQ (wH _ _ P).symm)
 refine rr (cZ _)<|rr (dD) ?_;exact Xs (b:=D) (N.aM _ _ _) (N.dF t ah6) (by exact rr (bI Z)<|rr (EN Z)<|rr (aN Z) Z)<|AQ W (rm v Z) (hp1.fr (bH.cu t).fr) (hc1.fr (bH.cu t).fr) ok o λDf x3=>mu Z<|afy (yx ok o)<|q Df<|(f1.aU (bH.cu t).fr).aU x3.fr
end
theorem PT:((dk 17).all λi=>(dk 17).all λj=>cf.getD i [] !=cf.getD j []||i==j)=D:=by decide+kernel
theorem sX(a:i<17)(b:j<17)(h:cf.getD i []=cf.getD j []):i=j:=by have:=la (la PT i<|J9 a) j<|J9 b;rw [h]at this;simpa using this
section
variable{p:kg}
theorem NA(h:1<=k)(a:k<=15):(cU p cs).getD k []=bh (cX p k):=k15 (P:=λk=>(cU p cs).getD k []=bh (cX p k)) (fc Z<|fc Z<|fc Z<|fc Z<|fc Z<|fc Z<|fc Z<|fc Z<|fc Z<|fc Z<|fc Z<|fc Z<|fc Z<|fc Z<|fc Z f0) h a
theorem Ym(F:gK p)(a:1<=k)(b:k<=15)(h:l.length≠(cX p k).length):gO p cs k (bh l):=k15 (P:=λk=>∀l:ar,l.length≠(cX p k).length->gO p cs k (bh l)) (fc (λU h=>yp h)<|fc (λU h=>DQ F h)<|fc (λU h=>Aq F h)<|fc (λU h=>Ar F h)<|fc (λU h=>zw F h)<|fc (rE F).1<|fc (rE F).2.1<|fc (rE F).2.2.1<|fc (rE F).2.2.2<|fc (λU h=>GK F h)<|fc (λU h=>DR F h)<|fc (rG F).1<|fc (rG F).2.1<|fc (rG F).2.2.1<|fc (rG F).2.2.2 f0) a b l h
theorem Jr(G:fv p cs)(a:k<=15)(v:aw):fS (((cU p cs).set k v).getD 16 [])≠X:=by
 have:((cU p cs).set k v).getD 16 []=cs.map kR:=by
  refine rr (bx)<|rr (i9<|by lia) ?_;rfl
 refine rr this<|rr (G.C.all) ?_;exactλh=>nq aP h ff
theorem oW(ok:qY p=D)(h:1<=k)(a:k<=15):qj (cX p k)=D:=k15 (P:=λk=>qj (cX p k)=D) (fc (nR<|nL<|nL<|nL<|nL<|nL<|nL<|nL<|nL ok)<|fc (nR<|nL<|nL<|nL<|nL<|nL<|nL<|nL ok)<|fc (nR<|nL<|nL<|nL<|nL<|nL<|nL ok)<|fc (nR<|nL<|nL<|nL<|nL<|nL ok)<|fc (nR<|nL<|nL<|nL<|nL ok)<|fc (nL<|nL<|nL<|nR<|nL<|nL<|nL ok)<|fc (nR<|nL<|nL<|nR<|nL<|nL<|nL ok)<|fc (nR<|nL<|nR<|nL<|nL<|nL ok)<|fc (nR<|nR<|nL<|nL<|nL ok)<|fc (nR<|nL<|nL ok)<|fc (nR<|nL ok)<|fc (nL<|nL<|nL<|nR ok)<|fc (nR<|nL<|nL<|nR ok)<|fc (nR<|nL<|nR ok)<|fc (nR<|nR ok) f0) h a
theorem G9(ok:qY p=D){a b c:ar}(x:qj a=D)(y:qj b=D)(z:qj c=D):qY {p with dE:=a,d5:=b,bC:=c}=D:=GX (nL<|nL<|nL<|nL<|nL<|nL<|nL<|nL<|nL ok) (nR<|nL<|nL<|nL<|nL<|nL<|nL<|nL<|nL ok) (nR<|nL<|nL<|nL<|nL<|nL<|nL<|nL ok) x y z (nR<|nL<|nL<|nL ok) (nR<|nL<|nL ok) (nR<|nL ok) (nR ok)
theorem md(G:fv p cs)(h:1<=k)(a:k<=15):qj (cX p k)=D:=oW G.ok h a
theorem nG(h:qj l=D):l.length<=40/\∀x∈l,x.natAbs<10^170:=⟨aI<|nL h,λx a=>aI<|la (nR h) x a⟩
theorem acy(h:l.length<=40)(k:∀x∈l,x.natAbs<10^170):qj l=D:=nA (aN h)<|al λx a=>aN<|k x a
theorem yy(G:fv p cs)(h:1<=k)(a:k<=15):Hq (bh<|cX p k):=by refine rl (NA (cs:=cs) h a)<|G.R _<|rr (bx)<|rr (aV (show k<(cU p cs).length by show k<17;exact cw ‹_› dc)) ?_;exact eU _
theorem acz(h:Hq (bh l)){x:Int}(a:x∈l):pE 2 (.aL x)=D:=la h.1 _<|List.mem_map.mpr<|bX x a Z
theorem U6(G:fv p cs){s:Nat}(e:1<=k)(b:k<=15){y:Int}(h:z9 p cs k s y):wq p cs k s (bh<|cX p k) (eF y):=by
 refine bV h (λz=>fw z λh a=>?_) λc=>fw c λh a=>?_
 .refine .inl<|lQ (.aL y) Z (aN a) ?_<|Jr G b _;exact rr (qk _ _ _) h
 .exact .inr λq d=>abT h q d
theorem NB(G:fv p cs)(b:1<=k)(a:k<=15)(f:l.length<=50)(d:∀x∈l,x∈cX p k\/x=0)(h:l.length≠(cX p k).length):CX (ky (cU p cs) k<|dP (cf.getD k [])<|l.map eF) (k+1):=by
 have:=Jl (tG G.F G.C G.R) (k:=k) (v:=bh l) (cw ‹_› dc) ⟨al λv c=>?_,by refine rr (cZ _) ?_;exact aD ‹_› dc⟩ (Jr G a _)<|Ym G.F b a h
 .rw [kL,EZ]at this;exact this
 .refine vB c λx e=>?_;clear c;exact bV (d x e) (λh=>acz (yy G b a) h) λz=>rr z Z
theorem PU(G:fv p cs)(h:1<=k)(a:k<=15){c:Int}(b:c=(cX p k).length+1\/c=(cX p k).length-1):CX (ky (cU p cs) k<|cf.getD k []++[32]++eF c++[58,32]++iC [32] ((cX p k).map eF)) (k+1):=by have z:=(nG<|md G h a).1;refine Jm (tG G.F G.C G.R) (cw ‹_› dc) λq=>?_;have:=TU (cf.getD k []) (yy G h a).1 (rr (cZ _)<|aD ‹_› dc) (c:=c) (rr (cZ _) b) q;replace this:=(EZ _)▸this;exact this
theorem Yn{L:ah}(h:L.length=17)(a:k<17)(v:aw):qa (L.set k v)=ky L k (kL k v):=by refine rr (ou (rr (fD) (rr h Z):(L.set k v).length=17) a) ?_;rw [(by unfold pA;exact rr (List.take_set_of_le<|bO k) Z:pA (L.set k v) k=pA L k),(by unfold pB;exact rr (List.drop_set_of_lt<|bO _) Z:pB (L.set k v) k=pB L k)];refine rr (bx)<|rr (eK<|cI ‹_› (pP ‹_›)) ?_;rw [ky];simp
theorem G'(G:fv p cs){s:Nat}(a:1<=k)(h:k<=15){y:Int}(p':kg)(d:k=3\/k=4\/k=5)(F:gK p')(f:p'.dt=p.dt)(b:(cU p cs).set k (bh<|(cX p k).set s y)=cU p' cs)(g:cX p' k=(cX p k).set s y)(c:y.natAbs<10^160)(i:qj ((cX p k).set s y)=D->qY p'=D):
 ∃p',(k=3\/k=4\/k=5)/\t8 (cU p' cs)/\qY p'=D/\cX p' k=(cX p k).set s y/\qa (cU p' cs)=ky (cU p cs) k (dP (cf.getD k [])<|((cX p k).set s y).map eF):=by
 refine rf p' d (tG F ⟨f▸G.C.gj,G.C.all⟩ λv j=>?_) (i<|acy ?_ λx l=>?_) g ?_
 .refine(mE<|b▸j).elim (G.R v) λe=>?_;refine rr e<|rl (qk _ _ _) ?_;exact⟨Nw (yy G a h).1<|aN c,List.length_set.symm▸(yy G a h).2⟩
 .exact List.length_set.symm▸(nG<|md G a h).1
 .exact(mE l).elim ((nG<|md G a h).2 x) λe=>e▸cD c (by decide+kernel)
 .refine rl b<|rr (Yn Z (cw h dc) _) ?_;rw [kL];exact rr (EZ _) Z
theorem U7{w:aq}{s:Nat}{y:Int}(c:y∈oU w s p):w=gE/\(y=0\/y=(p.dt.length:Int)-1)\/(w=iE/\0<s/\dg p.d5 s=0\/w=ib/\dg p.dE s=0)/\(y=0\/y=10^160-1):=by
 rw [oU]at c;have m:∀{a b:Int},y∈[a,b]->y=a\/y=b:=λh=>(mc h).imp_right ms;by_cases c1:w=gE
 .rw [bI c1]at c;exact .inl ⟨c1,m c⟩
 rw [bu c1]at c;by_cases c2:w=iE/\0<s/\dg p.d5 s=0
 .rw [bI c2]at c;exact .inr ⟨.inl c2,m c⟩
 rw [bu c2]at c;by_cases c3:w=ib/\dg p.dE s=0
 .rw [bI c3]at c;exact .inr ⟨.inr c3,m c⟩
 .rw [bu c3]at c;exact cM c tP
theorem zb{y:Int}(h:y=0\/y=10^160-1):0<=y/\y.natAbs<10^160:=by
 refine bV h (λe=>?_) λe=>?_
 .refine rr e ?_;decide+kernel
 .refine rr e ?_;decide+kernel
theorem zl{y:Int}(h:y=0\/y=(n:Int)-1)(a:0<n)(b:n<=40):(0<=y/\y<n)/\y.natAbs<10^160:=by
 have z:(0<=y/\y<n)/\y.natAbs<=40:=by
  rcases h with rfl|rfl
  .exact⟨⟨fb _,Int.natCast_pos.mpr a⟩,dc⟩
  .refine ka (C8<|mC a) λm c=>?_;obtain rfl:=c;refine rr (Int.natCast_succ _)<|rr (eW _ _)<|?_;exact⟨⟨bT _,jW _⟩,jy b⟩
 exact⟨z.1,cw z.2<|by decide+kernel⟩
theorem PV(G:fv p cs){s:Nat}(c:1<=k)(a:k<=15)(d:s<(cX p k).length){y:Int}(b:y∈oU (cf.getD k []) s p):
 ∃p',(k=3\/k=4\/k=5)/\t8 (cU p' cs)/\qY p'=D/\cX p' k=(cX p k).set s y/\qa (cU p' cs)=ky (cU p cs) k (dP (cf.getD k [])<|((cX p k).set s y).map eF):=by
 have lt:∀{n:Nat},n<=15->n<17:=λh=>cw h dc;refine(U7 b).elim (λh=>?_) λh=>h.1.elim (λw=>?_) λw=>?_
 .have e:k=5:=sX (j:=5) (lt a) dc h.1;have z:=zl h.2 (cD dc G.l2.1)<|aD G.l2.2 dc;clear b h;subst e;exact G' G c a {p with bC:=p.bC.set s y} (.inr<|.inr Z) (DS G.F z.1) Z Z Z z.2<|G9 G.ok (oW G.ok (k:=3) dc dc)<|oW G.ok (k:=4) dc dc
 .have e:k=3:=sX (j:=3) (lt a) dc w.1;have z:=zb h.2;clear b h;subst e;exact G' G c a {p with dE:=p.dE.set s y} (.inl Z) (GN G.F w.2.1 w.2.2 z.1) Z Z Z z.2 λx=>G9 G.ok x (oW G.ok (k:=4) dc dc)<|oW G.ok (k:=5) dc dc
 .have e:k=4:=sX (j:=4) (lt a) dc w.1;have z:=zb h.2;clear b h;subst e;exact G' G c a {p with d5:=p.d5.set s y} (.inr<|.inl Z) (GO G.F ((sQ G.F).1.symm▸(sQ G.F).2.1▸(d:s<p.d5.length)) w.2 z.1) Z Z Z z.2 λx=>G9 G.ok (oW G.ok (k:=3) dc dc) x<|oW G.ok (k:=5) dc dc
end
theorem Js{l:aw}(h:l≠[]):(if l.length=([]:aw).length then xD l []else O bk)=O bk:=by rw [bu];intro e;exact h<|List.length_eq_zero_iff.mp e
theorem PW:(cf.all λw=>w.all λd=>d !=32)=D:=by decide+kernel
theorem acA:(cf.all λw=>decide (w.length<=20))=D:=by decide+kernel
theorem tM(a:k<17):mQ 32 (cf.getD k [])/\(cf.getD k []).length<=20:=by
 have h:cf.getD k []∈cf:=by
  refine rr (bx)<|rr (aV<|a) ?_;exact eU _
 exact⟨λd hd=>by simpa using la (la PW _ h) d hd,aI<|la acA _ h⟩
theorem Jt(h:∀x∈l,x.natAbs<10^170)(a:l.length<=50):((l.map eF).map bW).sum<=8550:=aD (ZP (b:=171) λt c=>mm c λx d e=>e▸(x2<|h x d).2) (rr (aT _)<|gG 171 a)
theorem yz(h:qj l=D):((l.map eF).map bW).sum<=8550:=Jt (nG h).2<|aD (nG h).1 dc
section
variable{E:oZ} {p:kg}
theorem U8(W:WA g)(m:210<=n){x l:a8}{s:Nat}(aO:jn Y x c (aZ+1))(G:fv p cs)(vs:iY Y (.S y) p)(o:1<=k)(i:k<=15)(w:s<(cX p k).length)(M:Y a=O (.aF<|bQ<|qa<|cU p cs)) (aB:a≠x) (P:Y l=O (.aF<|bQ<|(cX p k).map eF)) (nl:l≠x/\l≠c) (R:a≠l)(q:∀j,jn j x c aZ->FrD x l Y j->Q (.du D) j):
 iy ⟨g,X,n⟩ E (OO.drop 9) [O<|.S x,O<|.S a,O<|.S y,O<|.aL ((k+1:Nat):Int),O<|.aQ<|cf.getD k [],O<|.S l,u6,u7,O<|.aL s,u9,LG] Y (yZ Q):=by
 have Dg:k<17:=cw i dc;have F:(cf.getD k []).length<=1000:=aD (tM Dg).2 dc;have H:=nG<|md G o i;refine afv W (r1 m Z) vs G w λr lo j8 u aE T aG σ I=>vf W (r1 m Z) (aO.dq u) T (aO.ne aE).1 (λh=>aG<|List.map_eq_nil_iff.mp h) (rr (cZ _)<|aD σ dc) λd v qR hd p2 A=>vB (aW hd) λz ρ=>have xs:=x2<|(I z ρ).elim (λh=>mD h.2<|by decide+kernel) λh=>h.2;xU xs.1 (mX<|aD xs.2 dc)<|zi (A l nl.1 _<|u _ _ P) (bT s) (by refine rr (dI _)<|rr (aT _) ?_;exact it w:(s:Int)<(bQ<|(cX p k).map eF).length) ?_;have K:(((cX p k).map eF).set s<|eF z).length<=100:=by refine rr (fD)<|rr (aT _) ?_;exact aD H.1 dc
 have ss:((((cX p k).map eF).set s<|eF z).map bW).sum<=100000:=aD (E4 ..)<|aD (cV (yz<|md G o i) xs.2) dc;have rt:=Jn G (k:=k) (s:=s) (base:=bh<|cX p k) (t:=eF z) Dg (yy G o i).1 (rr (cZ _)<|aD H.1 dc) (rr (cZ _) w)<|U6 G o i<|I z ρ;exact yw W (r1 m Z) (ip:=1) (ia:=3) (a:=a) (k:=k) (L:=cU p cs) Z Z (G8 W (r1 m Z) (iw:=4) (ii:=5) (li:=l) (us:=((cX p k).map eF).set s<|eF z) Z Z ((N.aM _ _ _).trans<|aH (λl=>O<|cP.aF l)<|U1 _ _ _) F K ss) ((N.da _ _ R).trans<|A a aB _<|u _ _ M) Z Dg (aD (AY G) dc) (CZ F K ss) ((EZ _)▸rt) λj f=>q j ((p2.aX nl).fr f) λb C b1 b2 e fx=>f b C ((N.da _ _ b2).trans<|A b b1 C<|u _ _ e) fx
end
section
variable{E:oZ} {p:kg}
theorem acB{w:aq}{s:Nat}:(oU w s p).length<=1000:=by
 unfold oU;split
 .exact aK rfl
 split
 .exact aK rfl
 split<;>exact aK rfl
theorem PX(W:WA g)(t:210<=n){x l:a8}{s:Nat}{way:Int}(ρ:jn Y x c (aZ+1))(G:fv p cs)(σ:iY Y (.S y) p)(u:1<=k)(m:k<=15)(o:s<(cX p k).length)(ha:Y a=O (.aF<|bQ<|qa<|cU p cs)) (hax:a≠x) (A:Y l=O (.aF<|bQ<|(cX p k).map eF)) (nl:l≠x/\l≠c) (nal:a≠l)(q:∀K,jn K x c aZ->FrD x l Y K->Q (.du D) K):
 iy ⟨g,X,n⟩ E (OO.drop 7) [O<|.S x,O<|.S a,O<|.S y,O<|.aL ((k+1:Nat):Int),O<|.aQ<|cf.getD k [],O<|.S l,O<|.aL way,u7,O<|.aL s,u9,LG] Y (yZ Q):=by
 have Dg:k<17:=cw m dc;have vs:cf.getD k []=iE->s<p.d5.length:=λh=>by
  clear u m A;obtain rfl:=sX (i:=k) (j:=3) Dg dc h;exact cI o<|(sQ G.F).1.trans (sQ G.F).2.1.symm
 have b4:cf.getD k []=ib->s<p.dE.length:=λh=>by
  clear vs u m A;obtain rfl:=sX (i:=k) (j:=4) Dg dc h;exact cI o<|(sQ G.F).2.1.trans (sQ G.F).1.symm
 have off:∀LG xs,bH Y xs->iy ⟨g,X,n⟩ E (OO.drop 9) [O<|.S x,O<|.S a,O<|.S y,O<|.aL ((k+1:Nat):Int),O<|.aQ<|cf.getD k [],O<|.S l,O<|.aL way,u7,O<|.aL s,u9,LG] xs (yZ Q):=λLG xs f=>
  U8 W t (ρ.dq f) G (σ.fr f.fr) u m o (f _ _ ha) hax (f _ _ A) nl nal λM aB f2=>q M aB λb C n1 n2 e P=>f2 b C n1 n2 (f _ _ e) P
 refine acm W (r1 t Z) σ vs b4 λr xs f hr R=>?_;by_cases g1:way=2
 .refine wG g1 ?_;intro r2 aO;have w:=f.e0 (C:=.aF []) aO;by_cases g2:oU (cf.getD k []) s p=[]
  .have H:bh (oU (cf.getD k []) s p)=[]:=by refine rr g2 ?_;rfl
   exact Iu (b:=D) (N.dF (C:=.aF []) aO R) (N.aM _ _ _) (rr H Z)<|off _ _ w
  .have H:bh (oU (cf.getD k []) s p)≠[]:=λh=>g2<|List.map_eq_nil_iff.mp h;refine Iu (b:=bk) (N.dF (C:=.aF []) aO R) (N.aM _ _ _) (Js H)<|vf W (r1 t Z) (ρ.dq w) (N.dF (C:=.aF []) aO R) (ρ.ne hr).1 H (rr (cZ _) acB) λd v M hd aB aE=>?_;clear vs;refine vB (aW hd) λz hz=>pS (PV G u m o hz) λp' ah7 Fn ok' T ep=>have I:=oW ok' u m;have oz:=x2<|(nG I).2 z<|rr T<|iU o;?_;refine xU oz.1 (mX<|aD oz.2 dc)<|zi (aE l nl.1 _<|w _ _ A) (bT s) (by refine rr (dI _)<|rr (aT _) ?_;exact it o:(s:Int)<(bQ<|(cX p k).map eF).length) ?_;have h5:(M.aX l<|.aF<|(bQ<|(cX p k).map eF).set s<|.aQ<|eF z) l=O (.aF<|bQ<|(cX p' k).map eF):=by refine rr T<|rr (E3 _ _ _ _)<|rl (U1 _ _ _) ?_;exact N.aM ..
   exact Jp (ip:=1) (ia:=3) (a:=a) (k:=k) (L:=cU p cs) Z Z (G8 W (r1 t Z) (iw:=4) (ii:=5) (li:=l) (us:=(cX p' k).map eF) Z Z h5 (aD (tM Dg).2 dc) (rr (aT _)<|aD (nG I).1 dc)<|aD (yz I) dc) ((N.da _ _ nal).trans<|aE a hax _<|w _ _ ha) Z Dg λr5 Df aG h6=>mu Z<|mu Z<|Jq W (r1 t Z) (p:=p') (cs:=cs) Fn ok' G.R1 (by exact rr h6<|rr ep<|rr T Z) (aG _ _ h5) ah7 I λDN f4=>q DN (((aB.aX nl).dq aG).fr f4) λb C b1 b2 e P=>f4 b C (aG _ _<|(N.da _ _ b2).trans<|aE b b1 C<|w _ _ e) P
 .exact pG g1<|off _ _ f
end
section
variable{E:oZ} {p:kg}
theorem U9(f:α->β)(A xs:List α)(v:α):((A++v::xs).map f).take A.length=A.map f:=rr (bN)<|rr (Wf<|aT ..) Z
theorem Ju(f:α->β)(A xs:List α)(v:α):((A++v::xs).map f).drop A.length=(v::xs).map f:=rr (bN)<|rr (lH<|aT ..) Z
theorem PY(f:α->β)(A xs:List α)(v:α):((A++v::xs).map f).drop (A.length+1)=xs.map f:=by refine rl (wt)<|rr (Ju _ _ _ _) ?_;rfl
theorem acC(A xs:List α)(v:α):(A++v::xs)[A.length]?=O v:=by refine rr (eN<|bO _)<|rr (qU _) ?_;rfl
theorem acD{l:List α}{s:Nat}(h:s<l.length):∃A v xs,l=A++v::xs/\A.length=s:=(kY (l.take s) (l[s]) (l.drop<|s+1) (by exact rl (fY h)<|rr (hO _ _) Z)<|iI<|dH h)
theorem U'(W:WA g)(w:210<=n){x l:a8}{s:Nat}(Q:jn Y x c (aZ+1))(G:fv p cs)(R:1<=k)(C:k<=15)(hs:s<(cX p k).length)(ha:Y a=O (.aF<|bQ<|qa<|cU p cs)) (hax:a≠x) (aO:Y l=O (.aF<|bQ<|(cX p k).map eF)) (nl:l≠x/\l≠c) {K:VF->bw->N->Prop}(q:∀t J,jn t x c aZ->PD x Y t->K (.j7<|.du D) J t):
 iy ⟨g,X,n⟩ E [.bY (.dR 9)<|.fh .Add (.eC (.dR 5) X<|O<|.dR 8)<|.cA (.dN .Eq (.jA (.dT<|.S 813) [.dR 0,.dT<|.aL 2])<|.dT<|.aL 0) (.eC (.dR 5) (O<|.fh .Add (.dR 8)<|.dT<|.aL 1) X)<|.fh .Add (.aF [.cW (.dR 5)<|.dR 8])<|.eC (.dR 5) (O<|.dR 8) X,.j7<|O<|.jA (.dT<|.S 879) [.fh .Add (.fh .Add (.eC (.dR 1) X<|O<|.dR 3)<|.aF [.jA (.dT<|.S 893) [.dR 4,.dR 9]])<|.eC (.dR 1) (O<|.fh .Add (.dR 3)<|.dT<|.aL 1) X,.dR 3]]
  [O<|.S x,O<|.S a,O<|.S y,O<|.aL ((k+1:Nat):Int),O<|.aQ<|cf.getD k [],O<|.S l,u6,u7,O<|.aL s,u9,LG] Y K:=by
 have Dg:k<17:=cw C dc;have F:=nG<|md G R C;have rl:=λl H h4=>NB G (k:=k) R C (l:=l) H h4;have ps:=AY G;refine jz (acD hs) λA v xs e o9=>?_;induction o9;rw [e]at F aO rl;have fin:∀(us:ar) r i j,jn i x c aZ->Kc x Y i->bH i j->j r=O (.aF<|bQ<|us.map eF)->us.length<=50->(∀z∈us,z∈A++v::xs)->us.length≠(A++v::xs).length->
  iy ⟨g,X,n⟩ E [.j7<|O<|.jA (.dT<|.S 879) [.fh .Add (.fh .Add (.eC (.dR 1) X<|O<|.dR 3)<|.aF [.jA (.dT<|.S 893) [.dR 4,.dR 9]])<|.eC (.dR 1) (O<|.fh .Add (.dR 3)<|.dT<|.aL 1) X,.dR 3]] [O<|.S x,O<|.S a,O<|.S y,O<|.aL ((k+1:Nat):Int),O<|.aQ<|cf.getD k [],O<|.S l,u6,u7,O<|.aL A.length,O<|.S r,LG] j K:=λus r i j I m ρ H vs aE hne=>by
  have T:((us.map eF).map bW).sum<=100000:=aD (Jt (λz b=>F.2 z<|aE z b) vs) dc;have aG:(us.map eF).length<=100:=by refine rr (aT _) ?_;exact aD vs dc
  exact yw W (r1 w Z) (ip:=1) (ia:=3) (a:=a) (k:=k) (L:=cU p cs) Z Z (G8 W (r1 w Z) (iw:=4) (ii:=9) (li:=r) (us:=us.map eF) Z Z H (aD (tM Dg).2 dc:(cf.getD k []).length<=1000) aG T) (ρ _ _<|m a hax _ ha) Z Dg (aD ps dc) (CZ (aD (tM Dg).2 dc:(cf.getD k []).length<=1000) aG T) (rl us vs (λz b=>.inl<|aE z b) hne) λt f=>q t _ ((I.dq ρ).fr f)<|PD.of (m.aU<|Kc.Lu ρ) f
 have b:A.length+(xs.length+1)<=40:=by have:=F.1;rwa [aY]at this
 refine rX aO ((GQ _ _).trans<|aH bQ<|U9 ..) λM σ=>have aB:bH Y (Y.aX M<|.aF<|bQ<|A.map eF):=bH.cu σ;have f1:=N.aM Y M<|.aF<|bQ<|A.map eF;have n1:=Q.ne σ;jo W (r1 w Z) (Q.dq aB) dc dc λd i d1 I m=>have f2:=m M n1.1 _ f1;have P:=m l nl.1 _<|aB _ _ aO;have k02:Kc x Y i:=(Kc.Lu aB).aU m;have fin:=λus r j=>fin us r i j I k02;?_;have zA:(bQ<|A.map eF).length<=40:=by refine rr (dI _)<|rr (aT _) ?_;exact aD (d7 ..) b
 have zB:(bQ<|xs.map eF).length<=40:=by refine rr (dI _)<|rr (aT _) ?_;exact aD (aD (ej _)<|gq ..) b
 refine lL (λh=>?_) λh=>?_
 .refine rX P ((vU _<|A.length+1).trans<|aH bQ<|PY ..) λb2 o=>jS (N.dF o f2) (N.aM _ _ _) (mX<|aD (cV zA zB) dc) λb3 u=>fin (A++xs) b3 _ ((bH.cu o).e0 u) ((N.aM _ _ _).trans<|aH (λl=>O<|cP.aF l)<|rr (bN)<|(bN ..).symm) (rr (aY)<|aD (eZ (ej _) _)<|aD b dc) (λz b=>(ma b).elim (λh=>List.mem_append.mpr<|.inl h) λh=>List.mem_append.mpr<|.inr<|di _ h) (by refine rr (aY)<|rr (aY) ?_;exact hY<|Qj (dM _) _)
 .refine dv (v:=.aQ<|eF v) P (by refine rr (kq _ _) ?_;rw [bQ];refine rr (bz)<|rr (bz)<|rr (acC _ _ _) ?_;rfl) ?_;intro b2 o;refine rX (N.dF o P) ((vU _ A.length).trans<|aH bQ<|Ju ..) λb3 u=>have z3:[V.aQ<|eF v].length+(bQ<|(v::xs).map eF).length<=42:=fO _ 1▸cg (cg zB);?_;refine jS (N.dF u<|N.aM _ _ _) (N.aM _ _ _) (mX<|aD z3 dc) λb4 hb4=>jS (N.dF hb4<|N.dF u<|N.dF o f2) (N.aM _ _ _) (mX<|rr (aY)<|aD (cV zA z3) dc) λb5 hb5=>fin (A++v::v::xs) b5 _ ((((bH.cu o).e0 u).e0 hb4).e0 hb5) ((N.aM _ _ _).trans<|aH (λl=>O<|cP.aF l)<|rr (bN)<|(bN (f:=V.aQ) (l₁:=A.map eF) (l₂:=(v::v::xs).map eF)).symm) (rr (aY)<|cg<|aD b dc) (λz b=>(ma b).elim (λh=>List.mem_append.mpr<|.inl h) λh=>List.mem_append.mpr<|.inr<|(mc h).elim (λe=>e▸bS) λh=>h) (by refine rr (aY)<|rr (aY) ?_;exact mC<|Qj (dM _) _)
end
theorem NC{d:Nat}(h:(d:Int)<2):(m:Int)+2*d-1=m+1\/(m:Int)+2*d-1=m-1:=
 match d,zI h with
 |0,_=>.inr (aH (·-1)<|Ac (m:Int))
 |1,_=>.inl<|Int.add_sub_assoc (m:Int) 2 1
section
variable{E:oZ} {p:kg}
theorem Jv(W:WA g)(o:212<=n){x l:a8}(T:jn Y x c (aZ+3))(G:fv p cs)(hp:iY Y (.S y) p)(w:1<=k)(v:k<=15)(ha:Y a=O (.aF<|bQ<|qa<|cU p cs)) (z:a≠x) (hl:Y l=O (.aF<|bQ<|(cX p k).map eF)) (nl:l≠x/\l≠c) (nal:a≠l)(q:∀i,jn i x c aZ->FrD x l Y i->Q (.du D) i):
 iy ⟨g,X,n⟩ E (OO.drop 2) [O<|.S x,O<|.S a,O<|.S y,O<|.aL ((k+1:Nat):Int),O<|.aQ<|cf.getD k [],O<|.S l,X,X,X,X,X] Y (yZ Q):=by
 have Dg:k<17:=cw v dc;have H:=(tM Dg).2;have aB:=md G w v;have P:=(nG aB).1;have V:=aD (AY G) (by decide:500000<=600000);refine jo W (r1 o Z) T dc dc λway A w1 σ xs=>have R:=xs l nl.1 _ hl;have ha1:=xs a z _ ha;have hp1:=hp.f2<|.of xs T;?_;refine lL (λhw=>?_) λhw=>?_
 .refine⟨mX<|aD (cG H 1) dc,?_⟩;refine ei R ((dI _).trans<|aT ..)<|jo W (r1 o Z) σ dc dc λd qR d1 aO aE=>⟨jJ dc,?_⟩;have on2:=aD P (by decide:40<=1000);have I:=x2 (n:=((cX p k).length:Int)+2*d-1) (cw ((NC (m:=(cX p k).length) d1).elim (λe=>e▸nz on2 dc) λe=>by refine rr e ?_;exact nz (c:=-1) on2 dc:(((cX p k).length:Int)+2*d-1).natAbs<=20000000)<|by decide+kernel);have lm:((cX p k).map eF).length<=40:=by refine rr (aT _) ?_;exact P
  have hj:(iC [32]<|(cX p k).map eF).length<=8590:=aD (mW [32] _)<|cV (yz aB)<|gG 1 lm;refine xU I.1 (mX<|aD I.2 dc) ?_;have z1:(cf.getD k []++[32]).length<=21:=by refine rr (aY) ?_;exact cG H 1
  have z2:(cf.getD k []++[32]++eF (((cX p k).length:Int)+2*d-1)).length<=192:=by refine rr (aY) ?_;exact cV z1 I.2
  have z3:(cf.getD k []++[32]++eF (((cX p k).length:Int)+2*d-1)++[58,32]).length<=194:=by refine rr (aY) ?_;exact cG z2 2
  refine dW (mX<|aD (cV z1 I.2) dc) (mX<|aD (cG z2 2) dc) ?_;refine tC (aE l nl.1 _ R) (aD (cV (yz aB)<|gG _ lm) dc) ⟨mX<|aD (cV z3 hj) dc,?_⟩;exact yw W (r1 o Z) (ip:=1) (ia:=3) (a:=a) (k:=k) (aG:=.dR 7) (L:=cU p cs) Z Z (λρ U K' q=>mu Z<|q ρ bH.cL) (aE a z _ ha1) Z Dg V (aD (by exact rr (aY)<|cV z3 hj:(cf.getD k []++[32]++eF (((cX p k).length:Int)+2*d-1)++[58,32]++iC [32] ((cX p k).map eF)).length<=8784) dc) (PU G w v<|NC (m:=(cX p k).length) d1) λi f=>q i (aO.dr.fr f) λb C j U e u=>f b C (aE b j C<|xs b j C e) u
 intro r hr;have F:bH A (A.aX r<|.aF []):=bH.cu hr;have K:=F _ _ R;have ha2:=F _ _ ha1;have aO:=σ.dq F;have hr2:=N.aM A r<|.aF [];have hp2:=hp1.fr F.fr;have k12:Kc x Y (A.aX r<|.aF []):=xs.aU<|Kc.Lu F;generalize A.aX r (.aF [])=qR at*;by_cases vs:cX p k=[]
 .refine Xs (b:=D) K hr2 (rr vs Z)<|yw W (r1 o Z) (ip:=1) (ia:=3) (a:=a) (k:=k) (aG:=.jA (.dT<|.S 893) [.dR 4,.aF [.dT<|.aQ [48]]]) (t:=dP (cf.getD k []) [[48]]) (L:=cU p cs) Z Z (λρ U K' q'=>?_) ha2 Z Dg V (CZ (aD H dc) dc dc) (NB G (l:=[0]) w v dc (fc (.inr Z) f0) (by refine rr vs ?_;decide)) λi f=>?_
  .refine mu Z ?_;intro r3 hr3;exact z8 W (r1 o Z) (us:=[[48]]) (aD H dc) (N.aM _ _ _) dc dc λDN x4=>q' DN<|(bH.cu hr3).aU x4
  .exact q i (aO.dr.fr f) λb C j U e u=>f b C (k12 b j C e) u
 exact Xs (b:=bk) K hr2 (Js λh=>vs<|List.map_eq_nil_iff.mp<|List.map_eq_nil_iff.mp h)<|ei K ((dI _).trans<|aT ..)<|jo W (r1 o Z) aO (il (List.length_pos_iff.mpr vs:0<(cX p k).length)) (il<|aD P dc) λs ρ s1 p3 M=>have hl3:=M l nl.1 _ K;have ha3:=M a z _ ha2;have k13:Kc x Y ρ:=k12.aU M;lL (λTg=>U' W (r1 o Z) p3 G w v (Int.ofNat_lt.mp s1) ha3 z hl3 nl λi J p' f=>q i p' λb C j U e u=>f b C j (k13 b j C e) u) (λTg=>PX W (r1 o Z) p3 G (hp2.f2<|.of M aO) w v (Int.ofNat_lt.mp s1) ha3 z hl3 nl nal λi p' f=>q i p' λb C j b2 e u=>f b C j b2 (k13 b j C e) u)
theorem Va(W:WA g)(j:220<=n){E:Ex}{x:a8}(w:jn Y x c (aZ+4))(F:iY Y (.S y) p)(G:fv p cs)(A:Y a=O (.aF<|bQ<|qa<|cU p cs))(xs:a≠x)(q:∀h,jn h x c aZ->PD x Y h->Q (.du D) h):bE ⟨g,X,n⟩ (.S 917) [.S x,.S a,.S y] Y Q E:=by
 refine W.e 80 j Z Z Z<|ei A ((dI _).trans<|tL Z)<|jo W (rm j Z) w dc dc λd H I aO m=>have s:=m a xs _ A;have o:1<=d+1:=gq ..;have i:d+1<=15:=zI I;have Dg:d+1<17:=cw i dc;have ρ:(2:Int)+d=((d+1+1:Nat):Int):=lC 2 d;?_;show iy ⟨g,X,n-1⟩ (kU E) (OO.drop 1) [O<|.S x,O<|.S a,O<|.S y,O<|.aL<|2+(d:Int),X,X,X,X,X,X,X] H (yZ Q);refine rr ρ ?_;generalize d+1=k at*;have K:mO (bQ<|qa<|cU p cs) ((k+1:Nat):Int)=O (.aQ<|dP (cf.getD k [])<|(cX p k).map eF):=by
  refine rr (kq _ _) ?_;rw [bQ];refine rr (bz)<|rr (aco Z Dg)<|rr (NA o i) ?_;rw [kL];exact rr (EZ _) Z
 refine dv s K<|GS W (rm j Z) (tM Dg).1 (λu vs=>?_) (aD (CZ (aD (tM Dg).2 dc) (rr (aT _)<|aD (nG<|md G o i).1 dc)<|aD (yz<|md G o i) dc) dc) λl R r t M=>?_
 .exact vB vs λz U=>yu<|.inr Z
 refine dW Z Z ?_;exact Jv W (rm j Z) (aO.dq r) G (F.f2 λb C e aB b'=>r _ _<|(F2.of m w) b C e aB b') o i (r _ _ s) xs M (aO.ne t) (eG t s) λh p' f=>q h p' λb C v e P=>f b C v (eG t<|m b v C e) (r _ _<|m b v C e) P
end
theorem acE:(cf.all λw=>w.all λd=>d !=10)=D:=by decide+kernel
theorem Vb(a:aa):∀L:ah,(∀w∈a,mQ 10 w)->(∀v∈L,Hq v)->∀l∈s8 a L,mQ 10 l:=by
 induction a with
 |nil=>exactλU U U U h=>nomatch h
 |cons w a i=>
  intro L b c l h;induction L with
  |nil=>cases h
  |cons v L=>
   refine bV (mc h) (λe=>rr e<|Pz (b w bS) λu d=>vB d λy f=>Yb 2 y<|la (c v bS).1 y f)<|i L (λw h=>b w<|di _ h) (λv h=>c v<|di _ h) l
theorem Vc{L:ah}(b:∀v∈L,Hq v):∀l∈qa L++[[]],mQ 10 l:=λl h=>by
 have a:∀{x:aq},(x.all λd=>d !=10)=D->mQ 10 x:=λe d hd=>bne_iff_ne.mp<|la e d hd;exact(ma h).elim (λh=>(ma h).elim (λh=>(ma h).elim (λh=>ms h▸a dc)<|Vb cf L (λw c=>a<|la acE w c) b l) λh=>ms h▸a dc) λh=>ms h▸qL
theorem Vd(h:ls≠[]):lu ls=iC [10] (ls++[[]]):=by
 induction ls with
 |nil=>exact cM Z h
 |cons x r i=>
  induction r with
  |nil=>simp [lu,iC]
  |cons y r=>
   have:=i<|dy _ _;rw [lu]at this⊢;refine rr (kW _ _ _ _)<|rr (bF _ _ _)<|rr (VO)<|rr this ?_;exact(kW 10 x y<|r++[[]]).symm
theorem PZ{L:ah}(h:∀v∈L,Hq v):(Txt.split (tx<|lu<|qa L) (tx [10])).map (·.cps.toList)=qa L++[[]]:=rr (Vd λe:qa L=[]=>nq ek e ff)<|CP (λe:qa L++[[]]=[]=>nq ek e ff)<|Vc h
theorem Ve{p p0:kg}(h:t8 (cU p cs))(e:(cU p0 cs).take 5=(cU p cs).take 5)(b:p0.bC=[]):CX (qa<|cU p0 cs) 6:=by
 have a:=ou (L:=cU p0 cs) (k:=5) Z dc;have c:fl (qa<|cU p0 cs)=w_head++10::(fl (s8 cf<|(cU p cs).take 5)++(dP gE (([]:aw).map sh)++10::fl (pB (cU p0 cs) 5))):=by
  have d:kL 5 ((cU p0 cs).getD 5 [])=dP gE (([]:aw).map sh):=by
   show dP _ ((bh p0.bC).map sh)=_;exact rr b Z
  refine rr a<|rr d ?_;rw [pA];exact rr e T3
 have f:yn 5 ((cU p cs).take 5) (dP gE (([]:aw).map sh)++10::fl (pB (cU p0 cs) 5))=.eA (fl<|pB (cU p0 cs) 5):=by
  have g:cf.drop 5=gE::cf.drop 6:=rfl;unfold yn;refine rr g ?_;rw [zt];refine ?_;have:sP 5 ((cU p cs).take 5++[[]])=O bk:=aH O<|kP _;rfl
 refine bX (fl<|pB (cU p0 cs) 5) ?_ ?_
 .refine rr c<|rr (yo h dc _) ?_;exact f
 .refine rr a<|rr (lH<|vn Z dc) ?_;exact aD (ej _)<|aD (gq ..)<|cC (aY (as:=kL 5 _) (bs:=10::fl _)).symm
theorem Jw(m:Nat)(x:α):(bg m [x]).flatten=bg m x:=by
 induction m with
 |zero=>rfl
 |succ m i=>refine rr (sb)<|rr i ?_;rfl
theorem E5(m:Nat)(x:Int):(bg m [V.aL x]).flatten=bh (bg m x):=by refine rr (Jw _ _) ?_;rw [bh];exact rr (Qk) Z
section
variable{E:oZ} {p:kg}
theorem Vf(ok:qY p=D)(o:ya cs=D):(([w_head]++s8 cf (cU p cs)).map bW).sum<=400000/\((qa<|cU p cs).map bW).sum<=400100:=by have z:=(yd ok o).1;rw [AS]at z;exact⟨z,xh z dc Z⟩
theorem ND{K:aj}{E:Ex}(a:∀v∈cU p cs,Hq v)(ok:qY p=D)(o:ya cs=D)(q:∀r,Y r=X->K (.S r) (Y.aX r<|.aF<|bQ<|qa (cU p cs)++[[]])):
 bE ⟨g,X,n⟩ (.eH "str.split") [.aQ<|mG<|Ao p cs,.aQ [10]] Y K E:=by
 refine MG (λh=>nq ek h ff) (rr (yx ok o)<|aD (GR (ls:=qa<|cU p cs) (aD (cC<|tL Z) dc)<|aD (Vf ok o).2 dc).2 dc) λr b=>rr (yx ok o)<|rr (PZ a) ?_;exact q r b
theorem NF(L:ah):hU (bQ<|qa L++[[]]) X (O<|-1)=bQ (qa L):=rl (lW _ _)<|I6 _ _
theorem Vg(W:WA g)(j:225<=n){x:a8}(l:jn Y x c (aZ+5))(r:iY Y (.S y) p)(G:fv p cs)(t:jF Y cv cs)(m:Y a=O (.aF<|bQ<|qa<|cU p cs))(i:a≠x){u:bw}{K:VF->bw->N->Prop}{body:av}(v:body=[.bY (.dR 8)<|.jA (.dT<|.S 813) [.dR 1,.dT<|.aL 6],.cA (.dN .Eq (.dR 8)<|.dT<|.aL 0) [.bY (.dR 9)<|.jA (.dT<|.S 905) [.dR 1,.dR 6]] [.cA (.dN .Eq (.dR 8)<|.dT<|.aL 1) [.bY (.dR 9)<|.jA (.dT<|.S 910) [.dR 1,.dR 6,.dR 2,.dR 5]] [.bY (.dR 9)<|.jA (.dT<|.S 917) [.dR 1,.dR 6,.dR 2]]],.cA (.mh<|.dR 9) [.j7<|O<|.dT<|.du bk] []])(q:∀d z A,jn d x c aZ->PD x Y d->K .eR (u0::O (.S x)::O (.S y)::u3::u4::O cv::O (.S a)::u7::z::A::u) d):
 iy ⟨g,X,n⟩ E body (u0::O (.S x)::O (.S y)::u3::u4::O cv::O (.S a)::u7::u8::u9::u) Y K:=by
 refine rr v<|jo W (r1 j Z) l dc dc λw xs H o k=>have fin:∀d,jn d x c aZ->PD x xs d->K .eR (u0::O (.S x)::O (.S y)::u3::u4::O cv::O (.S a)::u7::O (.aL w)::O (.du D)::u) d:=λd p' f=>q d _ _ p' λb C s e aO=>f b C s (k b s C e) aO;lL (λh=>?_) (λh=>?_)
 .refine acg W (r1 j Z) o (tG G.F G.C G.R) i (k a i _ m) (aD (Vf G.ok G.R1).1 dc) (G7 cf (cU p cs)<|bO _) λd p' f=>fin d p'.dr f
 exact lL (λh=>Yl W (r1 j Z) o (r.f2<|F2.of k l) G (t.f2<|F2.of k l) (k a i _ m) i fin) λh=>Va W (r1 j Z) o (r.f2<|F2.of k l) G (k a i _ m) i fin
end
section
theorem AZ{x:Int}(h:m<=3)(a:x.natAbs<=10000000):Au (bg m x):=⟨by refine rr (ef) ?_;exact aD h dc,λy b=>by refine rr (mS b) ?_;exact a⟩
noncomputable def Ha(p:kg)(pa pg:kK)(m:Nat):kg:=⟨p.bp,p.cy,p.dt,p.dE,p.d5,[],pa,pg,bg m<|-1,bg m 0⟩
theorem Yo{p:kg}{pa pg:kK}{c d:Int}{r s:List (List<|Int×Int)}(G:fv p cs)(h:m<=3)(P:qJ r c pa)(a:qJ s d pg):qY (Ha p pa pg m)=D/\∀v∈cU (Ha p pa pg m) cs,Hq v:=by
 have o:=λi {v} (e:(cU p cs)[i]?=O v)=>G.R v<|aW e;exact⟨GX G.nm.ok ((λk=>md G (k:=k)) 1 dc dc) ((λk=>md G (k:=k)) 2 dc dc) ((λk=>md G (k:=k)) 3 dc dc) ((λk=>md G (k:=k)) 4 dc dc) Z P.rw (AZ h dc:Au (bg m (-1:Int))).ok (AZ h dc:Au (bg m (0:Int))).ok a.rw,
  fc (o 0 Z) (fc (o 1 Z)<|fc (o 2 Z)<|fc (o 3 Z)<|fc (o 4 Z)<|fc ⟨Z,dA _⟩<|fc P.sm.1.rd<|fc P.sm.2.1.rd<|fc P.sm.2.2.1.rd<|fc P.sm.2.2.2.rd<|fc (AZ h dc:Au (bg m (-1:Int))).rd<|fc (AZ h dc:Au (bg m (0:Int))).rd<|fc a.sm.1.rd<|fc a.sm.2.1.rd<|fc a.sm.2.2.1.rd<|fc a.sm.2.2.2.rd<|fc (o 16 Z) f0)⟩
theorem Vh(W:WA g)(hn:299<=n){E:oZ}{x gl pr:a8}{p:kg}(G:fv p cs)(ht:Zt Y y p)(hc:jF Y cv cs)(ZA:Y gl=O (.aF<|Nv.map .S))(ho:(Nv.length:Int)=xo p)(q:∀c8,Q (.du D) c8):
 iy ⟨g,X,n⟩ E (aeG.drop 4) [u0,O<|.S x,O<|.S y,O<|.S l8,O<|.S gl,O cv,O<|.S pr,u7,u8,u9,X,X,X] Y (yZ Q):=by
 have o3:Nv.length<=3:=li<|ho▸(vj G).2.2.2;refine DM ht.nm Z λnm hnm=>aeZ ht.ct Z<|DM ht.lf Z λlf hlf=>DM ht.le Z λle hle=>DM ht.bf Z λbf hbf=>ei ZA (aT ..) ?_;generalize Nv.length=ot at*;refine dW Z Z ?_;intro d0 MJ;have y0:=bH.cu (C:=.aF<|bh []) MJ;intro r0 hr0;have y1:=y0.e0 (C:=.aF<|([]:List a8).map V.S) hr0;have i0:=N.dF (C:=.aF<|([]:List a8).map V.S) hr0<|N.aM Y d0<|.aF<|bh [];refine oG W (r1 hn Z) (rows:=[]) (cols:=1) (gk r0 [] Z (N.aM _ _ _) Z λU U h=>nq aP h ff) (dA _) dc nofun nofun λta DO pa x6 ha Pa=>have y6:=y1.aU x6;have i6:=x6 _ _ i0;?_;refine SM [] Z λdd hdd=>?_;intro rr hrr;refine K0 (N.aM _ _ _) (aD o3 dc) (bO _) (Jw _ _) λrl hrl=>have edd:=N.dF (C:=.aF<|bg ot<|V.S dd) hrl<|N.dF (C:=.aF [V.S dd]) hrr<|N.aM DO dd<|.cQ [];have y7:=((bH.cu (C:=.cQ []) hdd).e0 (C:=.aF [V.S dd]) hrr).e0 (C:=.aF<|bg ot<|V.S dd) hrl;have s7:=N.aM ((DO.aX dd<|.cQ []).aX rr<|.aF [V.S dd]) rl<|.aF<|bg ot<|V.S dd;?_;generalize((DO.aX dd<|.cQ []).aX rr<|.aF [V.S dd]).aX rl (.aF<|bg ot<|V.S dd)=Zp at*;have em:∀row∈bg ot ([]:af),row=[]:=λrow h=>mS h;refine oG W (r1 hn Z) (rows:=bg ot []) (cols:=1) (gk rl (bg ot dd) Z (by rw [Qk];exact s7) (by rw [ef,ef]) λk h e=>?_) (by rw [ef];exact o3) dc (λrow h=>em row h▸⟨uh,dc⟩) (λrow h=>em row h▸nofun) λtg σ8 pg x8 hg Pg=>?_
 .have hk:=(List.getElem?_eq_some_iff.mp e).1;replace hk:=(ef)▸hk;obtain rfl:=aJ<|(bI hk)▸(kM)▸e;exact bX [] (by rw [kM,bI hk]) edd
 have y8:=y7.aU x8;have y68:=y6.aU y8;have i8:=y8 _ _ i6;have ha:=ha.fr y8.fr;intro e1 he1;refine K0 (N.aM _ _ _) (aD o3 dc) (bO _) (E5 _ _) λe2 he2=>have z2:=(bH.cu (C:=.aF [V.aL<|-1]) he1).e0 (C:=.aF<|bh<|bg ot<|-1) he2;have s2:=N.aM (σ8.aX e1<|.aF [V.aL<|-1]) e2<|.aF<|bh<|bg ot<|-1;?_;generalize(σ8.aX e1<|.aF [V.aL<|-1]).aX e2 (.aF<|bh<|bg ot<|-1)=σ9 at*;intro e3 he3;refine K0 (N.aM _ _ _) (aD o3 dc) (bO _) (E5 _ _) λe4 he4=>have z4:=(bH.cu (C:=.aF [V.aL 0]) he3).e0 (C:=.aF<|bh<|bg ot 0) he4;have s4:=N.aM (σ9.aX e3<|.aF [V.aL 0]) e4<|.aF<|bh<|bg ot 0;?_;generalize(σ9.aX e3<|.aF [V.aL 0]).aX e4 (.aF<|bh<|bg ot 0)=σa at*;have z:=z2.aU z4;have y:=y68.aU z;refine zp (bA dc G.nm.Nn.1:0<=p.cy) λcn ec=>?_;rw [ec];have bo:=Yo (m:=ot) G o3 Pa Pg;refine qA W (r1 hn Z) (p:=Ha p pa pg ot) (count:=cn) ec (li<|ec▸(bA (rN dc) G.nm.gj.1:p.cy<=p.bp.length)) (aD G.nm.z dc) (bX nm Z<|y _ _ hnm) (bX lf Z<|y _ _ hlf) (bX le Z<|y _ _ hle) (bX bf Z<|y _ _ hbf) (bX d0 Z<|z _ _ i8) (ha.fr z.fr) (hg.fr z.fr) (bX e2 Z<|z4 _ _ s2) (bX e4 Z s4) λt0 σb x8 ht8=>have hc:=hc.fr (y.aU x8).fr;?_;exact AQ W (r1 hn Z) ht8 hc bo.1 G.R1 λσc x9=>ND bo.2 bo.1 G.R1 λr5 hr5=>rX (N.aM _ _ _) (NF _) λr6 hr6=>have pl:=tL (L:=cU (Ha p pa pg ot) cs) Z;vh W (r1 hn Z) (k:=6) (N.aM _ _ _) (λe=>by replace pl:=e▸pl;cases pl) (pl▸by decide) (aD (cC pl) dc) (aD (Vf bo.1 G.R1).2 dc) (Ve (tG G.F G.C G.R) rfl rfl) λσB fB=>q σB
theorem afz(W:WA g)(hn:300<=n){E:Ex}{ns:ar}(h0:Y a=X)(hb:Bas g a (bh ns))(q:∀c8,Q (.du D) c8):bE ⟨g,X,n⟩ (.S 924) [.S a] Y Q E:=by refine W.e 81 hn Z Z Z<|afm W (rm hn Z) h0 hb λx c j8 p1 x1=>UR W (rm hn Z) (m:=9905+5*3) p1 λt qR l8 gl Nv cv p cs ht hc G ZA hgo p2 k2=>dW Z Z ?_;obtain⟨y,rfl,ht⟩:=ht;refine AQ W (rm hn Z) (bX y Z ht) hc G.ok G.R1 λDf x3=>ND G.R G.ok G.R1 λpr0 afA=>rX (N.aM _ _ _) (NF _) λpr afB=>have x4:=(bH.cu (C:=.aF<|bQ<|qa (cU p cs)++[[]]) afA).e0 (C:=.aF<|bQ<|qa<|cU p cs) afB;have ah8:=fp (bH.cu (C:=.aF<|bQ<|qa (cU p cs)++[[]]) afA) afB;have hpr:=N.aM (Df.aX pr0<|.aF<|bQ<|qa (cU p cs)++[[]]) pr<|.aF<|bQ<|qa<|cU p cs;have x34:=x3.aU x4;have npr:=(p2.dq x3).ne ah8;?_;generalize(Df.aX pr0<|.aF<|bQ<|qa (cU p cs)++[[]]).aX pr (.aF<|bQ<|qa<|cU p cs)=DN at*;have p4:=p2.dq x34;have ht4:iY DN (.S y) p:=iY.fr (bX y Z ht) x34.fr;have hc4:=hc.fr x34.fr;have ah9:=x34 _ _ ZA;exact mj (k:=3) dc<|B8 (M:=3) (bO 3) (λo:au×au×au=>[O<|.S a,O<|.S x,O<|.S y,O<|.S l8,O<|.S gl,O cv,O<|.S pr,o.1,o.2.1,o.2.2,X,X,X]) (λt k U c8=>jn c8 x c (9905+5*t)/\PD x DN c8) (X,X,X) ⟨p4,λU U U e U=>e⟩ (λt k o Qp ρ hk I hJ=>Vg W (rm hn Z) (aZ:=9905+5*t) I.1 (ht4.f2<|I.2.f2 p4) G (hc4.f2<|I.2.f2 p4) (I.2 pr _ npr.1 hpr Z) npr.1 Z λDO w8 w9 p6 f6=>hJ (_,_,_) _ ⟨p6,λb C b1 e fx=>f6 b C b1 (I.2 b C b1 e fx) fx⟩) λt o Qp I=>Vh W (rm hn Z) G (ht4.f2<|I.2.f2 p4).x (hc4.f2<|I.2.f2 p4) ((I.2.f2 p4) _ _ ah9 Z<|yi _) hgo q
end
noncomputable def LL(v:bb):Option {x:Str×Tok//v=.str x.1 x.2}:=match v with|.str a b=>O ⟨(a,b),Z⟩|_=>X
noncomputable def LM(v:bb):Option {x:Int×Tok//v=.int x.1 x.2}:=match v with|.int a b=>O ⟨(a,b),Z⟩|_=>X
noncomputable def Vi(v:bb):Option {x:a8//v=.ref x}:=match v with|.ref a=>O ⟨a,Z⟩|_=>X
noncomputable def afC(o:Option Obj):Option {x:bb×Option a8×V2×Array (Option bb)//o=O ⟨x.1,x.2.1,.func x.2.2.1,x.2.2.2⟩}:=match o with|some ⟨a,b,.func c,d⟩=>O ⟨(a,b,c,d),Z⟩|_=>X
noncomputable def acF(o:Option Obj):Option {x:bb×Option a8×(Array bb×Nat)×Array (Option bb)//o=O ⟨x.1,x.2.1,.seq x.2.2.1.1 x.2.2.1.2,x.2.2.2⟩}:=match o with|some ⟨a,b,.seq c d,e⟩=>O ⟨(a,b,(c,d),e),Z⟩|_=>X
noncomputable def ah'(o:Option Obj):Option {x:bb×Option a8×(Array oA×Nat)×Array (Option bb)//o=O ⟨x.1,x.2.1,.dict x.2.2.1.1 x.2.2.1.2,x.2.2.2⟩}:=match o with|some ⟨a,b,.dict c d,e⟩=>O ⟨(a,b,(c,d),e),Z⟩|_=>X
noncomputable def bSt(b:FuncBody):Option {x:List lp//b=.stmts x}:=match b with|.stmts a=>O ⟨a,Z⟩|_=>X
def LN(v:V)(u:bb):Bool:=match v with
 |.aQ l=>(LL u).any λx=>x.1.1==tx l&&decide (l.length<=1000)
 |_=>bk
noncomputable def Hb:aw->List bb->Bool
 |[],L=>L.isEmpty
 |v::r,L=>(aC L).any λx=>LN v x.1.1&&Hb r x.1.2
def Vj(K:nH)(v:V)(u:bb):Bool:=match v with
 |.bR=>u==.none
 |.aL i=>(LM u).any λx=>x.1.1==i
 |.aQ l=>LN (.aQ l) u
 |.S a=>u==.ref a
 |.ph a=>u==.ref a
 |.fK n=>u==.type n
 |.eH n=>u==.builtin n&&yH (.builtin n)
 |.bD B=>(Vi u).any λa=>(acF<|K.lookup a.1).any λo=>o.1.2.1.isNone&&(o.1.1==.type "tuple"&&(Hb B o.1.2.2.1.1.toList&&decide (o.1.2.2.1.1.size<=1000)))
 |_=>bk
noncomputable def LO(K:nH):aw->List bb->Bool
 |[],L=>L.isEmpty
 |v::r,L=>(aC L).any λx=>Vj K v x.1.1&&LO K r x.1.2
theorem Hc(h:n<=1000):n<=cE:=aD h dc
theorem Jx{v:V}{u:bb}(e:LN v u=D):cY h v u:=by
 cases v with
 |aQ l=>exact vw u (LL u) e λx U e=>rr (cR<|nL e)<|qq<|Hc<|aI<|nR e
 |_=>exact nq bP e ff
theorem C1:∀{L:List bb},Hb B L=D->eX h B L:=by
 induction B with
 |nil=>exactλe=>rr (List.isEmpty_iff.mp e) iA
 |cons v r i=>exactλ{L} e=>vw L (aC L) e λx U e=>fQ (Jx<|nL e)<|i<|nR e
theorem E6(aG:K.In h){v:V}{u:bb}(e:Vj K v u=D):cY h v u:=by
 cases v with
 |bR=>exact rr (cR e) oD
 |aL i=>exact vw u (LM u) e λx U e=>rr (cR e) gW
 |aQ l=>exact Jx e
 |S a=>exact rr (cR e) jk
 |ph a=>exact rr (cR e) Wj
 |fK a=>exact rr (cR e) QM
 |eH a=>exact rr (cR<|nL e)<|QN<|nR e
 |bD B=>exact vw u (Vi u) e λa U e=>ey e λo e=>Bq (lR _ (aG _ _ o.2) (cR<|nL<|nR e) _ Z) (C1<|nL<|nR<|nR e)<|Hc<|aI<|nR<|nR<|nR e
 |_=>exact nq bP e ff
theorem LP(aG:K.In h):∀{L:List bb},LO K B L=D->eX h B L:=by
 induction B with
 |nil=>exactλe=>rr (List.isEmpty_iff.mp e) iA
 |cons v r i=>exactλ{L} e=>vw L (aC L) e λx U e=>fQ (E6 aG<|nL e)<|i<|nR e
def Yp(K:nH)(v:bb)(ds:aw):Bool:=match ds with
 |[]=>v==.none
 |d::r=>(Vi v).any λa=>(acF<|K.lookup a.1).any λo=>LO K (d::r) o.1.2.2.1.1.toList
noncomputable def P1(fd:V2)(b:List lp):lp:=.FunctionDef fd.name fd.params b [] X [] fd.scope X fd.name ⟨0,0,0,0⟩
def NG(K:nH)(f np nl:Nat)(ds:aw)(k:av):Bool:=(afC<|K.lookup f).any λo=>(bSt o.1.2.2.1.body).any λb=>
 o.1.2.2.1.closure.isEmpty&&(o.1.2.2.1.globals==gC&&(o.1.2.2.1.builtins==nV&&(codeIn K o.1.2.2.1.code o.1.2.2.1.qualname&&(Ey (P1 o.1.2.2.1 b.1)&&
  (N6 k b.1 o.1.2.2.1.scope (xT (P1 o.1.2.2.1 b.1)++JO (P1 o.1.2.2.1 b.1))&&((xT<|P1 o.1.2.2.1 b.1).length==np&&((JO<|P1 o.1.2.2.1 b.1).length==nl&&Yp K o.1.2.2.1.defaults ds)))))))
theorem afD{b:List lp}(h:fd.closure=[])(a:fd.globals=gC)(c:fd.builtins=nV)(d:fd.body=.stmts b):fd={fd with closure:=[],globals:=gC,builtins:=nV,body:=.stmts b}:=by
 induction fd
 dsimp only at h a c d;subst h a c d;rfl
theorem afE(h:Yp K v ds=D):match ds with
 |[]=>v=.none
 |ds=>∃T c od z sl L,v=.ref T/\K.lookup T=O ⟨c,od,.seq (iZ L) z,sl⟩/\∀h,K.In h->eX h ds L:=by
 induction ds with
 |nil=>exact cR h
 |cons d r=>exact ey h λT h=>ey h λo h=>sq T.1 o.1.1 o.1.2.1 o.1.2.2.1.2 o.1.2.2.2 o.1.2.2.1.1.toList T.2 ⟨o.2,λU aG=>LP aG h⟩
theorem afF{f nl:Nat}{k:av}(h:NG g.K f np nl ds k=D):Dn g f np nl ds k:=ey h λw h=>ey h λb h=>
 have hd:=afE<|nR<|nR<|nR<|nR<|nR<|nR<|nR<|nR h
 ⟨(rf (P1 w.1.2.2.1 b.1) ⟨(Bm w.1.2.2.1.qualname w.1.2.2.1 w.1.2.2.1.code ⟨Bm w.1.1 w.1.2.1 w.1.2.2.2 w.2,sr w.1.2.2.1.name w.1.2.2.1.defaults w.1.2.2.1.kwdefaults w.1.2.2.1.doc w.1.2.2.1.pyModule w.1.2.2.1.annotations w.1.2.2.1.closureTuple<|afD (List.isEmpty_iff.mp<|nL h) (cR<|nL<|nR h) (cR<|nL<|nR<|nR h) b.2,nL<|nR<|nR<|nR h,by
  induction ds with
  |nil=>exact hd
  |cons d r=>exact hd⟩),by unfold A8;dsimp only;exact rr (w.2) Z⟩ (nL<|nR<|nR<|nR<|nR h) (nL<|nR<|nR<|nR<|nR<|nR h) (cR<|nL<|nR<|nR<|nR<|nR<|nR<|nR h) (cR<|nL<|nR<|nR<|nR<|nR<|nR<|nR<|nR h))⟩
noncomputable def P2(o:Option (Option bb))(v:bb):Bool:=o==O (O v)
noncomputable def isN(o:Option (Option bb)):Bool:=o==O X
noncomputable def yA(K:nH)(f:a8):Bool:=Bb K (.ref f)==O (.type "function")
def Vk(K:nH)(e:Str×V):Bool:=match ZU K gC e.1 with
 |some (O u)=>Vj K e.2 u
 |some X=>e.1 !=("__name__":Str)&&match e.2 with
  |.fK n=>wI e.1==O (.type n)
  |.eH n=>wI e.1==O (.builtin n)&&yH (.builtin n)
  |_=>bk
 |none=>bk
def Hd(K:nH)(C:a8):Bool:=P2 (ji K (.ref C) "__getattribute__") (.builtin "object.__getattribute__")&&isN (ji K (.ref C) "__getattr__")&&(match Az K C with|some cd=>cd.hasDict|none=>bk)&&plainOver K C&&P2 (ji K (.ref C) "__setattr__") (.builtin "object.__setattr__")
theorem Jy(h:plainOver K C=D):Ek K C:=cK (any_some h) λc b a=>fW c b (only_has a) λs=>refuse_only s a
def He(v:bb):Bool:=(Vi v).isSome
def Vl(l:List bb):Bool:=l.dropWhile He==[.type "Exception",.type "BaseException",.type "object"]
theorem P4{l:List bb}:Vl l=D->l.contains (.type "object")=D/\∀s,refuseLoop s "__setattr__" l=jg ():=by
 induction l with
 |nil=>exactλe=>(dy _ _ (cR e).symm).elim
 |cons v r i=>
  intro e;have e:(v::r).dropWhile He=[.type "Exception",.type "BaseException",.type "object"]:=cR e;rw [xm,He]at e;cases hv:Vi v with
  |some x=>
   replace e:=hv▸e;exact rr (x.2) ⟨by exact rr (List.contains_cons)<|rr ((i<|be e).1)<|rfl,λs=>by refine rr (refuseLoop_ref _ _ _ _) ?_;exact(i<|be e).2 s⟩
  |none=>
   replace e:=hv▸e;have e:v::r=[.type "Exception",.type "BaseException",.type "object"]:=e;exact rr e ⟨by decide+kernel,PySem.F.store_Exception.passes⟩
def Vm(K:nH)(C:a8):Bool:=match Az K C with|some cd=>Vl cd.mro|none=>bk
theorem P5(h:Vm K C=D):Ek K C:=by
 unfold Vm at h;cases q:Az K C with
 |none=>replace h:=q▸h;exact nq bP h ff
 |some c=>replace h:=q▸h;exact bX c q<|P4 h
theorem Vn(h:Hd K C=D):YQ K C:=by
 simp only [Hd,P2,isN,eT,beq_iff_eq]at h;refine fw h λz e=>?_;(refine fw z λz d=>?_;(refine fw z λz c=>?_;refine fw z λa b=>?_));refine⟨a,b,?_,Jy d,e⟩;cases q:Az K C with
 |none=>replace c:=q▸c;exact nq bP c ff
 |some f=>replace c:=q▸c;exact bX f Z c
def Hf(K:nH)(C:a8):Bool:=subIn K (.ref C) (.type "BaseException")==O D&&P2 (ji K (.ref C) "__getattribute__") (.builtin "BaseException.__getattribute__")&&isN (ji K (.ref C) "__getattr__")&&(match Az K C with|some cd=>cd.hasDict|none=>bk)&&Vm K C&&P2 (ji K (.ref C) "__setattr__") (.builtin "object.__setattr__")&&Bb K (.ref C)==O (.type "type")&&exmOne K (.ref C) (.ref C)==O D
theorem yB(h:Hf K C=D):Me K C/\Bb K (.ref C)=O (.type "type")/\exmOne K (.ref C) (.ref C)=O D:=by
 simp only [Hf,P2,isN,eT,beq_iff_eq]at h;obtain⟨⟨⟨⟨⟨⟨⟨z,a⟩,b⟩,c⟩,d⟩,e⟩,f⟩,k⟩:=h;refine dW ⟨z,a,b,?_,P5 d,e⟩ f k;cases q:Az K C with
 |none=>replace c:=q▸c;exact nq bP c ff
 |some g=>replace c:=q▸c;exact bX g Z c
def Vo(K:nH):Bool:=oN.all λe=>e.2.all λi=>isN (ji K (.ref e.1)<|nm i)&&decide (i<86)
def Vp(K:nH):Bool:=HH.all λe=>e.2.all λm=>P2 (ji K (.ref e.1)<|nm m.1) (.ref m.2)&&yA K m.2&&decide (m.1<86)&&(oN.lookup e.1).isSome&&!lT e.1
def acG(K:nH)(e:a8×a8):Bool:=A8 K (.ref e.1)&&makesIn K e.1&&P2 (ji K (.ref e.1) "__init__") (.ref e.2)&&yA K e.2
theorem afG{f:a8}(h:acG g.K (C,f)=D):Mk g C f:=by simp only [acG,P2,yA,eT,beq_iff_eq]at h;exact⟨h.1.1.1,h.1.1.2,h.1.2,h.2⟩
noncomputable def aia(o:Option Obj):Option {x:bb×Option a8×ac6×Array (Option bb)//o=O ⟨x.1,x.2.1,.cls x.2.2.1,x.2.2.2⟩}:=match o with|some ⟨a,b,.cls c,d⟩=>O ⟨(a,b,c,d),Z⟩|_=>X
def ZT(K:nH)(e:a8×a8):Bool:=A8 K (.ref e.1)&&P2 (ji K (.ref e.1) "__init__") (.ref e.2)&&yA K e.2&&(aia<|K.lookup e.1).any λo=>
 o.1.1==.type "type"&&o.1.2.2.1.mro.head?==O (.ref e.1)&&!o.1.2.2.1.hasDel&&decide (o.1.2.2.2.size=6)&&o.1.2.2.2[4]?==O (O<|.builtin "Exception.__new__")&&o.1.2.2.1.mro.contains (.type "Exception")&&!o.1.2.2.1.mro.contains (.type "AttributeError")&&!o.1.2.2.1.mro.contains (.type "NameError")
theorem aib{l:List α}(h:l.length=6):∃a b c d e f,l=[a,b,c,d,e,f]:=by refine mK (gQ h) λa o g=>have h:=g▸h;?_;have h:=eQ h;refine mK (gQ h) λb p i=>have h:=i▸h;?_;have h:=eQ h;refine mK (gQ h) λc q j=>have h:=j▸h;?_;have h:=eQ h;refine mK (gQ h) λd r k=>have h:=k▸h;?_;have h:=eQ h;exact mK (gQ h) λe s m=>ka (List.length_eq_one_iff.mp<|eQ<|m▸h) λf n=>⟨a,b,c,d,e,f,by exact rr g<|rr i<|rr j<|rr k<|rr m<|rr n Z⟩
theorem Vr{l:List bb}(h:l.head?=O (.ref C)):∃r,l=.ref C::r:=by
 induction l with
 |nil=>exact nq aP h ff
 |cons v r=>refine rr (aJ h) ?_;exact⟨r,Z⟩
theorem Vs{f:a8}(h:ZT g.K (C,f)=D):MkX g C f:=by refine⟨nL<|nL<|nL h,ey (nR h) ?_,cR<|nR<|nL<|nL h,cR<|nR<|nL h⟩;clear h;intro⟨⟨c,d,p,sl⟩,i⟩ a;have j:=nt<|nR a;have k:=nt<|nR<|nL a;have m:=nR<|nL<|nL a;have n:=cR<|nR<|nL<|nL<|nL a;have b:=aI<|nR<|nL<|nL<|nL<|nL a;have o:=nt<|nR<|nL<|nL<|nL<|nL<|nL a;have e:=cR<|nR<|nL<|nL<|nL<|nL<|nL<|nL a;have a1:=cR<|nL<|nL<|nL<|nL<|nL<|nL<|nL a;clear a;obtain⟨q,r,F,s,t,u,b7,b8,v,w,G⟩:=p;dsimp only at a1 e o b n m k j i;refine ka (Vr e) λx z=>?_;obtain rfl:=z;obtain⟨l⟩:=sl;clear e;refine q9 (aib b) λk0 y A xs H aO=>ka aO λE z=>?_;obtain rfl:=z;clear b;obtain rfl:=aJ n;subst a1 o;exact sr q t s r x u b7 ⟨b8,v,w,d,k0,y,A,xs,E,i,m,k,j⟩
noncomputable def kvI(p:KK×V):Option {x:aq×Int//p=(.s x.1,.aL x.2)}:=match p with|(.s l,.aL i)=>O ⟨(l,i),Z⟩|_=>X
noncomputable def acH:ak->List oA->Bool
 |[],es=>es.isEmpty
 |p::r,es=>(aC es).any λx=>(kvI p).any λy=>(LL x.1.1.key).any λs=>(LM x.1.1.val).any λi=>s.1.1==tx y.1.1&&(i.1.1==y.1.2&&acH r x.1.2)
noncomputable def Jz(P:Params)(k:KK):Int:=match k with
 |.s l=>PyData.keyHash P<|tx l
 |.i _=>0
noncomputable def dEs(K:nH)(a:a8):List oA:=match K.lookup a with
 |some ⟨_,_,.dict es _,_⟩=>es.toList
 |_=>[]
def Yq(K:nH)(a:a8)(kv:ak):Bool:=(ah'<|K.lookup a).any λo=>o.1.2.1.isNone&&(o.1.1==.type "dict"&&(o.1.2.2.2.isEmpty&&(acH kv o.1.2.2.1.1.toList&&(decide (kv.map (·.1)).Nodup&&(decide (kv.length<=1000)&&!(a==lP))))))
theorem Yr{w:fZ}{kv:ak}:∀{es:List oA},acH kv es=D->es.map (·.hash)=kv.map (λp=>Jz w.params p.1)->(∀e∈es,∃k,(Bs w).is k e.key=D/\e.hash=(Bs w).hash k)/\∃kvs,Pairs (Bs w) es kvs/\lr h kv kvs/\kvs.map (·.1)=kv.map (·.1):=by
 induction kv with
 |nil=>exactλa c=>by refine rr (List.isEmpty_iff.mp a) ?_;exact(Fp (λU h=>nomatch h) [] .nil Z Z)
 |cons p r f=>
  refineλ{es} a c=>ey (o:=aC es) a λx a=>ey (o:=kvI p) a λy a=>ey a λs a=>ey a λi a=>fw (gg<|(y.2)▸(x.2)▸c) λg j=>J6 (f (es:=x.1.2) (nR<|nR a) j) λl kvs m n q=>rr (x.2)<|rr (y.2) ?_;have d:(Bs w).is (.s y.1.1) x.1.1.key=D:=by refine rr (s.2) ?_;exact(nL a:(Bs w).is (.s y.1.1) (.str s.1.1 s.1.2)=D)
  refine(Fp (λz b=>?_) ((.s y.1.1,x.1.1.val)::kvs) (.cons d Z m) (fe _ _ Z (by refine rr (i.2)<|rr (cR<|nL<|nR a) ?_;exact gW) n) (aH (KK.s y.1.1::·) q));exact bV (mc b) (λt=>rr t<|bX (.s y.1.1) d g) λb=>l z b
theorem Hg{w:fZ}{kv:ak}(aG:K.In h)(c:Yq K a kv=D)(b:(dEs K a).map (·.hash)=kv.map (λp=>Jz w.params p.1)):(cP.cQ kv).fU w h a:=ey c λo e=>by
 unfold dEs at b;replace b:=(o.2)▸b;exact J6 (Yr (w:=w) (h:=h) (nL<|nR<|nR<|nR e) b) λi kvs d f g=>lQ kvs (ja _ o.1.2.2.1.1 o.1.2.2.1.2 (aG _ _ o.2) (dW (cR<|nL<|nR e) (Option.isNone_iff_eq_none.mp<|nL e)<|Array.isEmpty_iff.mp<|nL<|nR<|nR e) Z (λe j=>i e<|Array.mem_toList_iff.mpr j) ⟨d,by refine rr g ?_;exact aI<|nL<|nR<|nR<|nR<|nR e⟩) f (aD (aI<|nL<|nR<|nR<|nR<|nR<|nR e) dc)<|nt<|nR<|nR<|nR<|nR<|nR<|nR e
def afH(K:nH)(a:a8)(B:aw):Bool:=(acF<|K.lookup a).any λo=>o.1.2.1.isNone&&(o.1.1==.type "list"&&(o.1.2.2.2.isEmpty&&(Hb B o.1.2.2.1.1.toList&&decide (o.1.2.2.1.1.size<=1000))))
theorem Ys{w:fZ}(aG:K.In h)(b:afH K a B=D):(cP.aF B).fU w h a:=ey b λo e=> (fe o.1.2.2.1.1.toList o.1.2.2.1.2 (aG _ _ (o.2.trans (by exact rr (cR<|nL<|nR e)<|rr (Option.isNone_iff_eq_none.mp<|nL e)<|rr (Array.isEmpty_iff.mp<|nL<|nR<|nR e) Z):K.lookup a=O ⟨.type "list",X,.seq o.1.2.2.1.1 o.1.2.2.1.2,#[]⟩)) (C1<|nL<|nR<|nR<|nR e)<|Hc<|aI<|nR<|nR<|nR<|nR e)
noncomputable def P6(c:cP):ak:=match c with
 |.cQ kv=>kv
 |_=>[]
noncomputable def aic(c:cP):aw:=match c with
 |.aF B=>B
 |_=>[]
def LQ(K:nH):Bool:=BH.all (Vk K)&&([46,234,424,504,560,627,741].all (Hd K)&&([95,107].all (Hf K)&&(Vo K&&(Vp K&&([(46,36),(234,124),(424,386),(504,454),(560,529),(627,612),(741,645)].all (acG K)&&([(95,72),(107,72)].all (ZT K)&& (Yq K 22 (P6 L5)&&(Yq K 564 (P6 FD)&&(Yq K 565 (P6 FE)&&(afH K 746 (aic Ko)&& (P2 (specialIn K (.ref 351) "__getattribute__") (.builtin "type.__getattribute__")&&(readsIn K 351 (.type "type")&&((K.lookup 351).isSome&&P2 (ZU K gC "law") (.ref 924))))))))))))))
abbrev pw:=vY
noncomputable def Yt:List (Nat×Nat):=[(10,0),(11,0),(12,0),(15,0),(15,1),(15,2),(15,3),(15,4),(15,5),(15,6),(15,11),(15,14),(15,15),(17,0),(18,0),(23,0),(25,0),(26,0),(27,0),(28,0),(28,1),(28,2),(28,3),(28,4),(28,5),(29,0),(31,0),(31,2),(31,5),(31,6),(31,7),(32,0),(33,0),(40,0),(41,0),(42,0),(43,0),(47,0),(48,0),(48,1),(48,2),(49,0),(49,1),(49,2),(49,3),(49,4),(49,5),(49,6),(49,7),(49,8),(49,9),(49,10),(49,11),(49,12),(49,13),(53,0),(54,0),(55,0),(56,0),(57,0),(58,0),(59,0),(60,0),(62,0),(63,0),(64,0),(65,0),(66,0),(67,0),(68,0),(69,0),(70,0),(71,0),(72,0),(73,0),(74,0),(75,0),(76,0),(77,0),(78,0),(79,0),(80,0)]
noncomputable def fdT(o:Option Obj):=match o with
 |some ⟨_,_,.func d,_⟩=>O (d.name,d.params,d.body,d.scope)
 |_=>X
noncomputable def sdT(s:Option lp):=match s with
 |some (.FunctionDef n p b _ _ _ s _ _ _)=>O (n,p,FuncBody.stmts b,s)
 |_=>X
def stT(p:Nat×Nat):=match pw.main.body[p.1]? with
 |some (.ClassDef _ _ _ b _ _ _ _ _ _ _)=>sdT b[p.2]?
 |s=>sdT s
def stc(np nl:Nat)(k:av)(t:Option (Str×zE×FuncBody×Scope)):Bool:=t.any λx=>(bSt x.2.2.1).any λb=>(λst=>Ey st&&(N6 k b.1 x.2.2.2 (xT st++JO st)&&((xT st).length==np&&(JO st).length==nl)))<|Stmt.FunctionDef x.1 x.2.1 b.1 [] X [] x.2.2.2 X x.1 ⟨0,0,0,0⟩
def NH(K:nH)(f:Nat)(ds:aw):Bool:=(afC<|K.lookup f).any λo=>o.1.2.2.1.closure.isEmpty&&(o.1.2.2.1.globals==gC&&(o.1.2.2.1.builtins==nV&&(codeIn K o.1.2.2.1.code o.1.2.2.1.qualname&&Yp K o.1.2.2.1.defaults ds)))
theorem Vt{f nl:Nat}{k:av}(h:NH K f ds=D)(g:stc np nl k (fdT<|K.lookup f)=D):NG K f np nl ds k=D:=by
 unfold NG NH at*;cases hq:K.lookup f with
 |none=>rw [hq]at h;exact nq bP h ff
 |some o=>
  rw [hq]at h g;obtain⟨c,d,a,sl⟩:=o;cases a with
  |func fd=>
   obtain⟨b,e,z⟩:=any_some<|show(bSt fd.body).any _=D from g;show(bSt fd.body).any _=D;rw [e];show(_&&(_&&(_&&(_&&(_&&(_&&(_&&(_&&_))))))))=D;have h:(fd.closure.isEmpty&&(fd.globals==gC&&(fd.builtins==nV&&(codeIn K fd.code fd.qualname&&Yp K fd.defaults ds))))=D:=h;exact Bool.and_eq_true_iff.mpr ⟨nL h,Bool.and_eq_true_iff.mpr ⟨nL<|nR h,Bool.and_eq_true_iff.mpr ⟨nL<|nR<|nR h,Bool.and_eq_true_iff.mpr ⟨nL<|nR<|nR<|nR h,Bool.and_eq_true_iff.mpr ⟨nL z,Bool.and_eq_true_iff.mpr ⟨nL<|nR z,Bool.and_eq_true_iff.mpr ⟨nL<|nR<|nR z,Bool.and_eq_true_iff.mpr ⟨nR<|nR<|nR z,nR<|nR<|nR<|nR h⟩⟩⟩⟩⟩⟩⟩⟩
  |_=>exact nq bP h ff
theorem aid:((DI.zip Yt).all λx=>stc x.1.2.1 x.1.2.2.1 x.1.2.2.2.2<|stT x.2)=D:=by kernel_rfl
theorem Yu{f:α->γ}{g:β->γ}{aE:α->β->Bool}:∀{l:List α} {m:List β},l.map f=m.map g->((l.zip m).all λx=>aE x.1 x.2)=D->∀e∈l,∃p,f e=g p/\aE e p=D:=by
 intro l;induction l with
 |nil=>exactλU U e h=>nomatch h
 |cons a l i=>
  intro m;cases m with
  |nil=>exactλh=>nq ek h ff
  |cons b m=>exactλh k e c=>(List.mem_cons.mp c).elim (λq=>q▸⟨b,(gg h).1,nL k⟩)<|i (gg h).2 (nR k) e
def FF1(K:nH):=(DI.map λe=>fdT<|K.lookup e.1,DI.all λe=>NH K e.1 e.2.2.2.1)
def FV1(_:Params):=(Yt.map stT,D)
def FF2(K:nH):=(LQ K,(dEs K 22).map (·.hash),(dEs K 564).map (·.hash),(dEs K 565).map (·.hash),findCls K (.ref 351) (.type "type")<|nm 39,findCls K (.type "Exception") (.type "type")<|nm 39)
def FV2(P:Params):=(D,(P6 L5).map λp=>Jz P p.1,(P6 FD).map λp=>Jz P p.1,(P6 FE).map λp=>Jz P p.1,O<|ac1<|.ref 271,O<|ac1<|.builtin "Exception.__init__")
theorem acI(a:(DI.map λe=>fdT<|K.lookup e.1)=Yt.map stT)(b:(DI.all λe=>NH K e.1 e.2.2.2.1)=D)(e:a8×Nat×Nat×aw×av)(h:e∈DI):NG K e.1 e.2.1 e.2.2.1 e.2.2.2.1 e.2.2.2.2=D:=by obtain⟨p,q,r⟩:=Yu (f:=λe:a8×Nat×Nat×aw×av=>fdT<|K.lookup e.1) (g:=stT) (aE:=λe p=>stc e.2.1 e.2.2.1 e.2.2.2.2<|stT p) (l:=DI) (m:=Yt) a aid e h;exact Vt (List.all_eq_true.mp b e h)<|(aH (stc _ _ _) q).trans r
set_option tactic.hygienic true in
theorem ov [BEq α] [LawfulBEq α]{k:α}{v:β}:∀{l:List (α×β)},l.lookup k=O v->(k,v)∈l:=by
 intro c;induction c with
 |nil=>
  intro e;exact nq aP e ff
 |cons d r i=>
  obtain⟨a,b⟩:=d;intro e;rw [eS]at e;split at e
  .rename_i h;exact rr (cR h)<|rr (aJ e) bS
  .exact di _<|i e
theorem JA{aZ:a8}{mg:Str->Option bb}{n:Str}{v:Option bb}(aG:K.In h)(G:h.Ns aZ mg)(e:ZU K aZ n=O v):mg n=v:=by
 refine g7 G λo es ep a hd U b=>?_;delta ZU at e;cases hq:K.lookup aZ with
 |none=>replace e:=hq▸e;exact nq aP e ff
 |some g=>
  replace e:=(aJ<|(aG _ _ hq).symm.trans a)▸hq▸e;clear hq aG a;obtain⟨c,d,f,sl⟩:=o;have hd:f=.dict es ep:=hd;replace e:=hd▸e;clear hd;refine rl (b _) ?_;clear b;dsimp only at e;delta rH findBy;refine rl (NL) ?_;generalize List.find? _ _=u at e⊢;induction u with
  |some u=>exact aJ e
  |none=>
   dsimp only at e;cases hb:es.toList.any (·.refKey)with
   |true=>replace e:=hb▸e;exact nq aP e ff
   |false=>replace e:=hb▸e;exact aJ e
theorem Vu{Q:bb×List bb->bG->Prop}{w:fZ}(aG:K.In s.heap)(e:findCls K (.type "Exception") (.type "type") name=O (.val v))(b:yH v=D)(h:∀n,Q (v,[]) {s with toks:=n}):ee (gy prog w) A (wd (.type "Exception") name pl) Q E s:=by have a:ji K (.type "type") "__getattribute__"=O (O<|.builtin "type.__getattribute__"):=type_tga;have vs:vX (gy prog w) s.heap (Qu<|.type "Exception") (.type "type"):=oX (by rfl);unfold wd specialOf;refine wpAny_bind<|lb vs<|(wK aG a).here ?_;refine wpAny_bind<|wpAny_mono (Q:=λv=>Q (v,[])) (E:=E) ?_ (λU U z=>bZ z) λU U z=>z;exact cls_open aG (oX<|by rfl) vs a (looks_hook aG (r:=X) Z) Z e<|bZ (by show ee _ _ (handedOut v) _ _ _;refine rr (handedOut_of b) ?_;exact bZ<|h _)
set_option tactic.hygienic true in
theorem afI{w:fZ}(F:FF1 K=FV1 w.params)(F':FF2 K=FV2 w.params)(base:j9):WA ⟨w,base,K⟩:=by
 have c:LQ K=D:=aH (·.1) F';have F3:=aH (·.2) F';refine(λc1 c2 c3 c4 c5 c6 c7 d1 d2 d3 d4 c10 c11 c12=>?_) (la<|nL c) (la<|nL<|nR c) (la<|nL<|nR<|nR c) (nL<|nR<|nR<|nR c) (nL<|nR<|nR<|nR<|nR c) (la<|nL<|nR<|nR<|nR<|nR<|nR c) (la<|nL<|nR<|nR<|nR<|nR<|nR<|nR c) (nL<|nR<|nR<|nR<|nR<|nR<|nR<|nR c) (nL<|nR<|nR<|nR<|nR<|nR<|nR<|nR<|nR c) (nL<|nR<|nR<|nR<|nR<|nR<|nR<|nR<|nR<|nR c) (nL<|nR<|nR<|nR<|nR<|nR<|nR<|nR<|nR<|nR<|nR c) (nL<|nR<|nR<|nR<|nR<|nR<|nR<|nR<|nR<|nR<|nR<|nR c) (nL<|nR<|nR<|nR<|nR<|nR<|nR<|nR<|nR<|nR<|nR<|nR<|nR c)<|nL<|nR<|nR<|nR<|nR<|nR<|nR<|nR<|nR<|nR<|nR<|nR<|nR<|nR c;have mk:∀C f,(C,f)∈[(46,36),(234,124),(424,386),(504,454),(560,529),(627,612),(741,645)]->Mk ⟨w,base,K⟩ C f:=λC f h=>afG<|c6 (C,f) h;have xc:∀C,lT C=D->C∈[95,107]:=λC h=>by
  simp only [lT,hX,beq_iff_eq]at h
  rcases h with rfl|rfl
  .exact bS
  .exact di _ bS
 have kf:KF ⟨w,base,K⟩:=by
  refine⟨λa k hk h aG=>?_,λx v hv=>?_,λC h1 h2=>?_,λC h=>(yB<|c3 C<|xc C h).1,λC i h=>?_,λC i f h=>?_,λC i f hm A E Q s pl aG q=>?_,λA E Q s pl aG q=>Vu (prog:=PR) (w:=w) aG (aH (·.2.2.2.2) F3) Z q,λC h=>⟨(yB<|c3 C<|xc C h).1.cW,(yB<|c3 C<|xc C h).2.1⟩,λC h=>(yB<|c3 C<|xc C h).2.2⟩
  .exact fc (P:=λe:a8×cP=>e.2.fU w h e.1) (l:=[(564,FD),(565,FE),(746,Ko)]) (a:=(22,L5)) (Hg aG d1 (aH (·.1) F3)) (fc (Hg aG d2 (aH (·.2.1) F3)) (fc (Hg aG d3 (aH (·.2.2.1) F3))<|fc (Ys aG d4) f0)) (a,k)<|ov hk
  .have:=c1 (x,v)<|ov hv;unfold Vk at this;clear hv;split at this
   .rename_i u hu;exact .inl<|bX u hu λh aG=>E6 aG this
   .rename_i hu;rw [eT,bne_iff_ne]at this;obtain⟨hn,this⟩:=this;refine .inr ?_;cases v with
    |fK n=>exact lQ _ hu (cR this) hn λh=>QM
    |eH n=>
     simp only [eT,beq_iff_eq]at this;exact lQ _ hu this.1 hn λh=>QN this.2
    |_=>cases this
   .cases this
  .obtain⟨l,hl⟩:=Option.isSome_iff_exists.mp h1;refine Vn<|c2 C ?_;have:∀e∈oN,lT e.1=bk->e.1∈[46,234,424,504,560,627,741]:=dc;exact this _ (ov hl) h2
  .unfold uy at h;split at h
   .rename_i l hl;have:=c4;unfold Vo at this;rw [mB]at this;have:=la (this _<|ov hl) i<|List.contains_iff_mem.mp h;simp only [isN,eT,beq_iff_eq,decide_eq_true_eq]at this;exact this
   .cases h
  .unfold uA at h;refine cK (H7 h) λl hl h=>?_;have:=c5;unfold Vp at this;rw [mB]at this;have:=la (this _<|ov hl) (i,f)<|ov h;simp only [P2,yA,eT,beq_iff_eq,decide_eq_true_eq,sf]at this;exact rR this.1.1.1.1 this.1.1.1.2 this.1.1.2 this.1.2 this.2
  .unfold L4 at hm;split at hm
   .rename_i e;obtain⟨rfl,rfl⟩:=e;cases hm
    exact method_cls aG (cR c10)<|cls_value aG c11 (aH (·.2.2.2.1) F3) Z<|q _
   .cases hm
 refine{kf:=kf,dn:=λe he=>afF (acI (aH (·.1) F) (aH (·.2) F) e he),m46:=mk _ _ dc,aeI:=mk _ _ dc,aeJ:=mk _ _ dc,aeK:=mk _ _ dc,aeL:=mk _ _ dc,aeM:=mk _ _ dc,aeN:=mk _ _ dc,m95:=Vs<|c7 _ bS,aeO:=Vs<|c7 _<|di _ bS,aeP:=Option.isSome_iff_exists.mp c12}
theorem P7{R:WRecords}{B:List WData}:QG R B .int=D->∃ns:ar,B=ns.map Ag:=by
 induction B with
 |nil=>exactλU=>⟨[],Z⟩
 |cons x r a=>
  intro h;rw [QG]at h;exact(a<|nR h).elim λns e=>(hasW_int<|nL h).elim λi f=>⟨i::ns,by refine rr e<|rr f ?_;rfl⟩
variable{cl:Str->Option a8}
theorem C2{R:WRecords}{ns:ar}:∀{L:List bb} {as:List a8},ReadsAllW R cl h L (ns.map Ag) as->eX h' (bh ns) L:=by
 induction ns with
 |nil=>exactλr=>(ac2 r).1▸iA
 |cons n ns i=>
  intro L as r;exact vx (Z8 r) λv d a b e U r1 c=>(readsW_int_inv r1).elim λt f=>e▸f.1▸fQ gW (i c)
theorem P8(ns:ar):ns.length<=VR (ns.map Ag):=by
 induction ns with
 |nil=>exact dA _
 |cons n r i=>
  refine rr (eL) ?_;rw [VR];refine rr (gP) ?_;lia
theorem acJ{w:fZ}(F:FF1 K=FV1 w.params)(c:FF2 K=FV2 w.params){b:a8}{ns:ar}(g:Glo w (K) s.heap)(d:s.gens=#[])(f:Bas ⟨w,s.heap,K⟩ b (bh ns)):
 ee (gy PR w) QH (call (.ref 924) [.ref b]) (λv s'=>v=.bool D/\∃a,eM ⟨w,s.heap,K⟩ QH (λU=>X) s a s') (λU U=>False) s:=by
 refine wpAny_mono ((afz (afI F c s.heap) (bO _) Z f λU=>rfl:bE ⟨⟨w,s.heap,K⟩,X,300⟩ (.S 924) [.S b] (λU=>X) (λv U=>v=.du D) (λU U U=>False)).2.2 QH s [.ref b] (⟨λU U h=>nq aP h ff,λU U U h=>nq aP h ff,λU U e=>e,λU U h=>nq aP h ff,(bX [] Z λU h=>nomatch h),d,g⟩:iO ⟨w,s.heap,K⟩ QH (λU=>X) s) (⟨dc,dc,Z⟩:pT QH X 300)<|fQ jk iA) ?_ ?_
 .intro v s' h;obtain⟨a,u,st,r,i⟩:=h;subst i;exact rP (su r) a st
 .intro e s' h;obtain⟨_,_,_,_,q⟩:=h;exact q.now.elim
theorem P9{R:WRecords}{w:fZ}{ns:ar}{as:List a8}(nz:ns.length<=2000000)(r:ReadsAllW R cl h L [.list<|ns.map Ag] as):∃b,L=[.ref b]/\Bas ⟨w,h,K⟩ b (bh ns):=vx (Z8 r) λv l a b e U r1 d=>g7 (readsW_list_inv r1) λb B U f z c U=>rO z λo g i n j=>bX b (by exact rr e<|rr f<|rr ((ac2 d).1) Z) λh k=>fW B.toList (lR o (k _ _ g) i n j) (C2 c)<|mX<|aD (cC<|(C2 (h':=h) c).ez.trans<|cZ _)<|aD nz dc
theorem Yv{args:List WData}(a:PySem.Challenge.rw_nn0410_01.row.claim.pre args=D)(h:WData.layableAll args=D):∃ns:ar,args=[.list<|ns.map Ag]/\ns.length<=2000000:=by refine fE (hasAllW_cons (pre_splitW a).1) λd r e b c=>cK (hasW_list b) λB f g=>ka (P7 g) λns i=>?_;rw [e,hasAllW_nil c,f,i]at h⊢;refine bX ns Z<|aD (P8 ns) ?_;have z:=aI<|nR<|nL h;rw [WData.weight]at z;exact aD z dc
def YK(w:fZ)(h:j9):Prop:=∃K:nH,K.In h/\FF1 K=FV1 w.params/\FF2 K=FV2 w.params
theorem Yw{q:zD}{loose:List Str}{XP:(Str->Option bb)->j9->Prop}{d:DefRec}{kwd:List (Str×Expr)}(hd:d.name="law"):
 WalkO q loose XP YK PySem.Challenge.rw_nn0410_01.row.toRowW d kwd (λf L=>call f L):=by
 intro w z s₁ mg mb G σ a o A xs C aO E H I ρ vs j k args M aZ l m n aB P;refine hV σ λK aG F i=>have T:=G.T;have p:Glo w K s₁.heap:=⟨aG,T.nolimit,T.nodigits,bX mg T.g λx v e=>JA aG T.g e,bX mb T.b T.builtins⟩;have c:=(an (an (an (an (an (an (an (an (an (an (an (an (an (an (aH (·.1) i:LQ K=D)).2).2).2).2).2).2).2).2).2).2).2).2).2).2;have r:mg "law"=O (.ref 924):=JA aG T.g<|cR c;have ea:a=924:=Value.ref.inj<|aJ<|(hd▸j).symm.trans r;cK (Yv l m) λns s nz=>?_;subst ea s;refine cK (P9 (w:=w) (K:=K) nz n) λb t u=>rr t<|wpAny_mono (acJ F i p k u) (λv s' h=>?_) λU U h=>h.elim;refine rr (h.1) ?_;have y:PySem.Challenge.rw_nn0410_01.row.toRowW.claim.post [.list<|ns.map .int] (.bool D) [.list<|ns.map .int]=D:=by kernel_rfl
 exact h.2.elim λQ st=>(mT (.inl<|ja _ (.bool D) [] Z (λU=>rfl) (.bool D) y λU=>⟨kN,λU h=>nomatch h⟩) (.of_keep st.cm.fk) st.os<|.of_eq st.cm.m8)
set_option backward.match.sparseCases true
noncomputable def gT(f:Z9->Bool)(g:qQ->Z9->Option (qQ×Z9)):Nat->qQ->Z9->Option qQ
 |0,_,_=>X
 |n+1,s,t=>match through t with
  |true=>O s
  |false=>match f t with
   |false=>X
   |true=>match g s t with
    |some x=>gT f g n x.1 x.2
    |none=>X
theorem Vv{tb:String->Option qO}{p:zD}{w:fZ}{m:Nat}{ann:Option bb}{s':qQ}:∀{n:Nat} {s:qQ} {t:Z9},gT (stepOk m ann) (stepT (denote tb) p w) n s t=O s'->topRun tb p w m ann n s.abs t=O s'.abs
 |0,_,_,h=>by cases h
 |n+1,s,t,h=>by
  unfold gT at h;unfold topRun;cases ht:through t with
  |true=>rw [ht]at h;cases h;rfl
  |false=>
   rw [ht]at h;cases hk:stepOk m ann t with
   |false=>rw [hk]at h;cases h
   |true=>
    rw [hk]at h;cases hs:stepT (denote tb) p w s t with
    |none=>rw [hs]at h;cases h
    |some x=>rw [hs]at h;rw [stepT_spec (s':=x.1) (t':=x.2) hs];exact Vv h
def t0(P:Params):qQ:=⟨((mf P).objs.toList.foldl (λ(x:BT×Nat) o=>(x.1.ins x.2 o,x.2+1)) (.nil,0)).1,11,(mf P).life,#[],J5,Ql,default⟩
noncomputable def chk(h:j9)(s:bG):Bool:=staticsOk (afW pw.main.body) h s.heap&&namesBound pw s.heap&&gensDone s&&laidKept h s.heap
noncomputable def q1:zD:=view pw [80]
noncomputable def lo:List Str:=pw.boundNames.filter λx=>x !="law"
abbrev rr1:OpenRow:=PySem.Challenge.rw_nn0410_01.row
abbrev Xt1(s:bG):Bool:=recOk rr1.toRowW.records s
abbrev afJ(s:bG):=openSeen q1 lo (afW pw.main.body) Xt1 D s
noncomputable def LR(o:Obj):Nat:=match o with
 |⟨c,_,.func _,_⟩=>if c==.type "function"then 0 else 3
 |⟨c,_,.fields _,_⟩=>if c==.type "code"then 1 else 3
 |⟨_,_,.seq x _,_⟩=>if x.isEmpty then 3 else 2
 |⟨_,_,.dict _ _,_⟩|⟨_,_,.cls _,_⟩=>0
 |_=>3
def Vw(n:Nat)(f:Nat->Option Obj):nH:=[0,1,2].flatMap λc=>(dk n).filterMap λa=>(f a).bind λo=>if LR o==c then O (a,o)else X
def fr(h:j9):nH:=Vw h.objs.size h.get?
def frT(s:qQ):nH:=Vw s.n λa=>(s.tree.get a).bind JR
noncomputable def Vx(s:qQ):Bool:=(dk s.n).all λa=>(s.tree.get a).isSome
theorem Vy{α β:Type}{f g:α->Option β}{l:List α}(h:∀a∈l,f a=g a):l.filterMap f=l.filterMap g:=by
 induction l with
 |nil=>rfl
 |cons a l ih=>rw [iJ,iJ,h a bS,ih λb m=>h b<|di _ m]
theorem afK{s:qQ}(h:Vx s=D):fr s.abs.heap=frT s:=by show Vw (absHeap s.tree s.n s.life).objs.size _=_;rw [absHeap_size];show JM (λc=>(dk s.n).filterMap λa=>(s.abs.heap.get? a).bind _) _=JM (λc=>(dk s.n).filterMap λa=>((s.tree.get a).bind JR).bind _) _;refine aH (λF=>JM F [0,1,2])<|funext λc=>Vy λa ha=>aH (λx:Option Obj=>x.bind λo=>if LR o==c then O (a,o)else X) ?_;obtain⟨o,e⟩:=Option.isSome_iff_exists.mp<|List.all_eq_true.mp h a ha;rw [e];exact abs_get (List.mem_range.mp ha) e
theorem afL(h:j9):(fr h).In h:=λa o e=>by
 obtain⟨c,_,e⟩:=List.mem_flatMap.mp<|ov e;obtain⟨b,_,e⟩:=List.mem_filterMap.mp e;obtain⟨p,q,e⟩:=Option.bind_eq_some_iff.mp e;by_cases z:(LR p==c)=D
 .rw [bI z]at e;cases e;exact q
 .rw [bu z]at e;cases e
def C3(w:fZ)(os:acX):Option qQ:=gT (PySem.W.Fast.tw6613529449190102663 11<|O<|.ref 6) (PySem.W.Fast.tw10156331382660048174 (PySem.W.Fast.tw11892475500146522536 PySem.W.Fast.tw14364793385576792824) pw w) 7000 {t0 w.params with os}<|topStub pw
theorem Vz(w:fZ)(os:acX):gT (stepOk 11<|O<|.ref 6) (stepT (denote adh) pw w) 7000 {t0 w.params with os} (topStub pw)=C3 w os:=by unfold C3;rw [<-PySem.W.Fast.te6613529449190102663,<-PySem.W.Fast.te10156331382660048174,<-PySem.W.Fast.te11892475500146522536,<-PySem.W.Fast.te14364793385576792824]
abbrev wf(b:Bool)(w:fZ):fZ:=w.withFollow "special-get-raises" b
def LA(w:fZ):Prop:=∀os,(C3 w os).map (λs=>(chk (mf w.params) s.abs,afJ s.abs,Vx s))=O (D,openGood q1 lo,D)
def LB(w:fZ):Prop:=∀os,(C3 w os).map (λs=>FF1<|frT s)=O (FV1 w.params)
def LC(w:fZ):Prop:=∀os,(C3 w os).map (λs=>FF2<|frT s)=O (FV2 w.params)
theorem la0(w:fZ):LA (wf bk w):=λos=>by kernel_rfl
theorem la1(w:fZ):LA (wf D w):=λos=>by kernel_rfl
theorem lb0(w:fZ):LB (wf bk w):=λos=>by kernel_rfl
theorem lb1(w:fZ):LB (wf D w):=λos=>by kernel_rfl
theorem lc0(w:fZ):LC (wf bk w):=λos=>by kernel_rfl
theorem lc1(w:fZ):LC (wf D w):=λos=>by kernel_rfl
theorem Yx:LeftO pw q1 lo Xt1 (λs=>(FF1<|fr s.heap,FF2<|fr s.heap)) (λw=>(FV1 w.params,FV2 w.params)) 7000:=λw=>by
 obtain⟨⟨h,gs,d,k,os⟩,e,e'⟩:=Option.map_eq_some_iff.mp<|boot_open (p:=pw) (N:=7000) Z Z (λU=>rfl) w;have e1:h=mf w.params:=aH q6 e';have e2:gs=#[]:=aH (λx=>x.2.1) e';have e3:d=J5:=aH (λx=>x.2.2.1) e';have e4:k=Ql:=aH (λx=>x.2.2.2) e';subst e1 e2 e3 e4;unfold openEnds;rw [e];obtain⟨s,r,l⟩:=Option.map_eq_some_iff.mp<|byRow2 _ la0 la1 w os;obtain⟨s1,r1,m1⟩:=Option.map_eq_some_iff.mp<|byRow2 _ lb0 lb1 w os;obtain⟨s2,r2,m2⟩:=Option.map_eq_some_iff.mp<|byRow2 _ lc0 lc1 w os;replace m1:=aJ (r1.symm.trans r)▸m1;replace m2:=aJ (r2.symm.trans r)▸m2;have r:=Vv<|Vz w os▸r;have l1:chk (mf w.params) s.abs=D:=aH q6 l;have z:({t0 w.params with os}:qQ).abs=⟨mf w.params,#[],J5,Ql,os⟩:=by kernel_rfl
 rw [z]at r;show(topFrom adh pw w 7000 ⟨mf w.params,_,_,_,os⟩).map _=_;have t:topFrom adh pw w 7000 ⟨mf w.params,#[],J5,Ql,os⟩=O s.abs:=by
  unfold topFrom;dsimp only;have z1:((mf w.params).isNs gC&&(#[]:Array GenState).size==0)=D:=by kernel_rfl
  have z2:(mf w.params).objs.size=11:=rfl;have z3:(mf w.params).nsMap gC "__annotations__"=O (.ref 6):=by kernel_rfl
  rw [z1,z2,z3,r];show(match chk (mf w.params) s.abs with|true=>_|false=>_)=_;rw [l1]
 rw [t];have l2:=afK (aH (·.2.2) l);exact aH O (D0 (aH (·.2.1) l)<|D0 ((aH FF1 l2).trans m1)<|(aH FF2 l2).trans m2)
set_option maxHeartbeats 0 in
theorem afM:PySem.Challenge.rw_nn0410_01.wellSaid=D:=by
 delta OpenLaw.wellSaid OpenRow.wellSaid OpenRow.partSaid looksOpen
 repeat' with_reducible refine look_both ?_ ?_
 all_goals decide+kernel
theorem ok1:(chainsOk q1&&opensWell rr1.prog&&(frees rr1.toRowW&&rr1.within.isEmpty))=D:=by decide+kernel
theorem afN:rr1.prog.bare:=⟨Z,Z,Z,Z,Z,by decide+kernel⟩
theorem Tg:rr1.toRowW.promised:=by w_witness2
theorem main:PySem.Challenge.rw_nn0410_01.Holds:=holds_law afM λaie=>
 holds_open (XP:=λU U=>True) (YP:=YK) Yx (λU s e=>⟨fr s.heap,afL _,aH q6 e,aH Prod.snd e⟩) (λU U U y k=>y.elim λK x=>⟨K,x.1.keeps k,x.2⟩) (λU U=>trivial) (λU U U U U=>trivial)
  rfl Z Z (λU=>recFacts_of) Z aie ok1 afN Tg (Yw Z)
end Mine.Internal
end
theorem PySem.Challenge.cw_nn0410_01_holds : PySem.Challenge.rw_nn0410_01.Holds :=
  Mine.Internal.main
